import PyProof.Rows.All
import Wide.All
import OpenK.AllK
import Wide.FinOn
import KE.KStateDown
import Lean
import HandS.ForMost
import HandS.WordsExc
import HandS.Defaults
import HandS.EndBits
import HandS.Head0
import HandS.Head1
import HandS.Head2
import HandS.HeadEnd
import HandS.HeadHook1
import HandS.HeadHook2
import HandS.HeadHook3
import HandS.HeadHook4
import HandS.Walk
import HandS.Zip
import HandS.Conv
import HandS.Style
import HandS.Wide
import HandS.SortKw
import KE.GoesEnum
import KE.KDictDisplayH
import KE.KDictKeyed
import HandS.IsInst
import PyProof.ReprRoads
import PyProof.ReprLen
import PyProof.FitsInt
import PySem.Challenge.RW_ebbkeep_k45_whole_papers_for_cheapest_pl
set_option Elab.async false
set_option linter.all false
set_option maxRecDepth 100000
set_option maxHeartbeats 0
namespace Eb
open PySem PySem.Spec PyProof.Rows L2
def top (i : Nat) : Stmt := PySem.Challenge.pw_ebbkeep_k45_whole_papers_for_cheapest_pl.main.body.getD i (.Pass ⟨0, 0, 0, 0⟩)
abbrev sPoff : Stmt := top 1
abbrev sPrate : Stmt := top 2
abbrev sPwake : Stmt := top 3
abbrev sPstatecost : Stmt := top 4
abbrev sPidlestate : Stmt := top 5
abbrev sPstepcost : Stmt := top 6
abbrev sPisbroken : Stmt := top 8
abbrev sPgapstate : Stmt := top 9
abbrev sPlanerow : Stmt := top 10
abbrev sPcheapest : Stmt := top 11
abbrev sPbeforeof : Stmt := top 12
abbrev sPisrow : Stmt := top 13
abbrev sPfits : Stmt := top 14
abbrev sProwcost : Stmt := top 15
abbrev sPplancost : Stmt := top 16
abbrev sPplaceafter : Stmt := top 19
abbrev sPisfresh : Stmt := top 20
abbrev sPstatesin : Stmt := top 21
abbrev sPwaysinto : Stmt := top 22
abbrev sPallways : Stmt := top 23
abbrev sPcountway : Stmt := top 24
abbrev sPusedways : Stmt := top 25
abbrev sPleftways : Stmt := top 26
abbrev sPdistances : Stmt := top 27
abbrev sPheadsbefore : Stmt := top 29
abbrev sPnetcost : Stmt := top 30
abbrev sPleasthead : Stmt := top 31
abbrev sPmake : Stmt := top 32
abbrev sPhassizes : Stmt := top 33
abbrev sPisrowsound : Stmt := top 34
abbrev sPissound : Stmt := top 35
abbrev sPpapersum : Stmt := top 36
abbrev sPaccepts : Stmt := top 37
abbrev sLmix : Stmt := top 39
abbrev sLstart : Stmt := top 40
abbrev sLdraw : Stmt := top 41
abbrev sLsame : Stmt := top 42
abbrev sLtariff : Stmt := top 43
abbrev sLrate : Stmt := top 44
abbrev sLidlecost : Stmt := top 45
abbrev sLprice : Stmt := top 46
abbrev sLrun : Stmt := top 47
abbrev sLbefore : Stmt := top 48
abbrev sLrowcost : Stmt := top 49
abbrev sLplancost : Stmt := top 50
abbrev sLanyrow : Stmt := top 51
abbrev sLanyplan : Stmt := top 52
abbrev sLbest : Stmt := top 53
abbrev sLstates : Stmt := top 54
abbrev sLstep : Stmt := top 55
abbrev sLhead : Stmt := top 56
abbrev sLsound : Stmt := top 57
abbrev sLsum : Stmt := top 58
abbrev sLspoiledpaper : Stmt := top 59
abbrev sLchangedsize : Stmt := top 60
abbrev sLfollowed : Stmt := top 61
abbrev sLslack : Stmt := top 62
abbrev sLchanged : Stmt := top 63
abbrev sLcost : Stmt := top 64
abbrev sLplans : Stmt := top 65
abbrev sLispaper : Stmt := top 66
abbrev sLaw : Stmt := top 67
def mkD (x : Str) (st : Stmt) : He.DefD := ⟨(x, none), x, x, defArgs st, defBody st, defScope st, [], []⟩
def fn0 : List He.DefD := [mkD "off" sPoff, mkD "rate" sPrate, mkD "wake" sPwake, mkD "state_cost" sPstatecost, mkD "idle_state" sPidlestate, mkD "step_cost" sPstepcost, mkD "is_broken" sPisbroken, mkD "gap_state" sPgapstate, mkD "lane_row" sPlanerow, mkD "cheapest" sPcheapest, mkD "before_of" sPbeforeof, mkD "is_row" sPisrow, mkD "fits" sPfits, mkD "row_cost" sProwcost, mkD "plan_cost" sPplancost, mkD "place_after" sPplaceafter, mkD "is_fresh" sPisfresh, mkD "states_in" sPstatesin, mkD "ways_into" sPwaysinto, mkD "all_ways" sPallways]
def fn1 : List He.DefD := [mkD "count_way" sPcountway, mkD "used_ways" sPusedways, mkD "left_ways" sPleftways, mkD "distances" sPdistances, mkD "heads_before" sPheadsbefore, mkD "net_cost" sPnetcost, mkD "least_head" sPleasthead, mkD "make" sPmake, mkD "has_sizes" sPhassizes, mkD "is_row_sound" sPisrowsound, mkD "is_sound" sPissound, mkD "paper_sum" sPpapersum, mkD "accepts" sPaccepts, mkD "_law_mix" sLmix, mkD "_law_start" sLstart, mkD "_law_draw" sLdraw, mkD "_law_same" sLsame, mkD "_law_tariff" sLtariff, mkD "_law_rate" sLrate, mkD "_law_idle_cost" sLidlecost]
def fn2 : List He.DefD := [mkD "_law_price" sLprice, mkD "_law_run" sLrun, mkD "_law_before" sLbefore, mkD "_law_row_cost" sLrowcost, mkD "_law_plan_cost" sLplancost, mkD "_law_any_row" sLanyrow, mkD "_law_any_plan" sLanyplan, mkD "_law_best" sLbest, mkD "_law_states" sLstates, mkD "_law_step" sLstep, mkD "_law_head" sLhead, mkD "_law_sound" sLsound, mkD "_law_sum" sLsum, mkD "_law_spoiled_paper" sLspoiledpaper, mkD "_law_changed_size" sLchangedsize, mkD "_law_followed" sLfollowed, mkD "_law_slack" sLslack, mkD "_law_changed" sLchanged, mkD "_law_cost" sLcost, mkD "_law_plans" sLplans]
def fn3 : List He.DefD := [mkD "_law_is_paper" sLispaper, mkD "law" sLaw]
def fn : List He.DefD := fn0 ++ fn1 ++ fn2 ++ fn3
def fa0 : List He.Fa := [.glo "off", .glo "rate", .glo "wake", .glo "state_cost", .glo "idle_state", .glo "step_cost", .glo "is_broken", .glo "gap_state", .glo "lane_row", .glo "cheapest", .glo "before_of", .glo "is_row", .glo "fits", .glo "row_cost", .glo "plan_cost", .glo "place_after", .glo "is_fresh", .glo "states_in", .glo "ways_into", .glo "all_ways"]
def fa1 : List He.Fa := [.glo "count_way", .glo "used_ways", .glo "left_ways", .glo "distances", .glo "heads_before", .glo "net_cost", .glo "least_head", .glo "make", .glo "has_sizes", .glo "is_row_sound", .glo "is_sound", .glo "paper_sum", .glo "accepts", .glo "_law_mix", .glo "_law_start", .glo "_law_draw", .glo "_law_same", .glo "_law_tariff", .glo "_law_rate", .glo "_law_idle_cost"]
def fa2 : List He.Fa := [.glo "_law_price", .glo "_law_run", .glo "_law_before", .glo "_law_row_cost", .glo "_law_plan_cost", .glo "_law_any_row", .glo "_law_any_plan", .glo "_law_best", .glo "_law_states", .glo "_law_step", .glo "_law_head", .glo "_law_sound", .glo "_law_sum", .glo "_law_spoiled_paper", .glo "_law_changed_size", .glo "_law_followed", .glo "_law_slack", .glo "_law_changed", .glo "_law_cost", .glo "_law_plans"]
def fa3 : List He.Fa := [.glo "_law_is_paper", .glo "law", .glo "GROUND", .free "all", .free "any", .free "bool", .free "enumerate", .free "int", .free "isinstance", .free "len", .free "list", .free "max", .free "min", .free "range", .free "repr", .free "str", .free "sum", .free "tuple", .free "zip"]
def fa : List He.Fa := fa0 ++ fa1 ++ fa2 ++ fa3
def lo0 : List Str := ["off", "rate", "wake", "state_cost", "idle_state", "step_cost", "is_broken", "gap_state", "lane_row", "cheapest", "before_of", "is_row", "fits", "row_cost", "plan_cost", "place_after", "is_fresh", "states_in", "ways_into", "all_ways"]
def lo1 : List Str := ["count_way", "used_ways", "left_ways", "distances", "heads_before", "net_cost", "least_head", "make", "has_sizes", "is_row_sound", "is_sound", "paper_sum", "accepts", "_law_mix", "_law_start", "_law_draw", "_law_same", "_law_tariff", "_law_rate", "_law_idle_cost"]
def lo2 : List Str := ["_law_price", "_law_run", "_law_before", "_law_row_cost", "_law_plan_cost", "_law_any_row", "_law_any_plan", "_law_best", "_law_states", "_law_step", "_law_head", "_law_sound", "_law_sum", "_law_spoiled_paper", "_law_changed_size", "_law_followed", "_law_slack", "_law_changed", "_law_cost", "_law_plans"]
def lo3 : List Str := ["_law_is_paper", "GROUND"]
def lo : List Str := lo0 ++ lo1 ++ lo2 ++ lo3
def ex (K : PySem.W.Frag) : Bool := He.tupB K "GROUND" [.str "ground", .int 0, .int 0]
abbrev R : PySem.W.OpenRow := PySem.W.OpenLaw.row PySem.Challenge.rw_ebbkeep_k45_whole_papers_for_cheapest_pl
abbrev hk : PySem.W.Hook := He.hookX 4 fa fn [] [] ex
def ob (s : PySem.W.SharedT) : He.AlX := He.obsX 4 fa fn [] [] ex (HandSHeadRun.getT s)
theorem ob_eq (s : PySem.W.SharedT) : ob s = hk.obs s.abs := He.obsX_eq (HandSHeadRun.getT_eq s)
theorem run (w : World) : HandSHeadRun.RunEq R (PySem.W.view R.prog [67]) hk ob 4000 lo w := by
  intro os
  kernel_rfl
end Eb
section
open PySem PySem.W PySem.Calls PyProof.Rows
theorem Eb.holds_of (call : PySem.W.WalkO (PySem.W.view Eb.R.prog [67]) Eb.lo (PySem.W.XL (PySem.W.view Eb.R.prog [67]) []) Eb.hk.says Eb.R.toRowW (HandSHeadRun.topDef Eb.R.prog 67) [] (fun f vs => PySem.call f vs)) : PySem.Challenge.rw_ebbkeep_k45_whole_papers_for_cheapest_pl.Holds := by
  w_on; o_law
  refine HandSHeadRun.head_any (r := Eb.R) (q := view Eb.R.prog [67]) (H := Eb.hk) (ob := Eb.ob) (M := 4000) (loose := Eb.lo) (d := HandSHeadRun.topDef Eb.R.prog 67) (kwd := []) Eb.ob_eq
    (by kernel_rfl) (fun s => by kernel_rfl) Eb.run (by kernel_rfl) (by kernel_rfl) (by kernel_rfl) (by rfl) (by first | assumption | decide +kernel) (by decide +kernel) ⟨rfl, rfl, rfl, rfl, rfl, by decide +kernel⟩ ?hw call
  case hw => w_witness2
end
/-! what a reading does, told over typed slots -/
namespace Eb
open PySem PySem.Spec PyProof.Rows L2

/-! ### what stands for a value -/
structure Rp where
  p : Hp → V → Prop
  mono : ∀ {H H' : Hp} {v : V}, Same H H' → p H v → p H' v
def vE (x : V) : Rp := ⟨fun _ v => v = x, fun _ h => h⟩
/-- whatever it is -/
def vAny : Rp := ⟨fun _ _ => True, fun _ h => h⟩
abbrev vI (i : Int) : Rp := vE (.int i)
abbrev vB (b : Bool) : Rp := vE (.bl b)
abbrev vN : Rp := vE .non
abbrev vS (x : Str) : Rp := vE (.str x)

theorem same_rd {H H' : Hp} {a : Addr} {u : HO} (e : Same H H') (h : Rd H a u) : Rd H' a u := by
  rcases h with h | ⟨o, h⟩
  · exact Or.inl (e a _ h)
  · exact Or.inr ⟨o, e a _ h⟩
theorem same_t {K : PySem.W.Frag} {H H' : Hp} {a : Addr} {xs : List V} (e : Same H H') (h : SqT K H a xs) : SqT K H' a xs := by
  rcases h with h | h
  · exact Or.inl (same_rd e h)
  · exact Or.inr h
theorem same_new {H : Hp} {p : Addr} {o : HO} (h : H p = none) : Same H (upd H p o) := fun a u e => by
  rw [upd_ne (ne_of_none e h)]
  exact e

def Al (H : Hp) : List Rp → List V → Prop
  | [], [] => True
  | P :: Ps, v :: vs => P.p H v ∧ Al H Ps vs
  | _, _ => False
theorem Al.mono {H H' : Hp} (e : Same H H') : ∀ {Ps : List Rp} {vs : List V}, Al H Ps vs → Al H' Ps vs
  | [], [], _ => trivial
  | P :: Ps, v :: vs, h => ⟨P.mono e h.1, Al.mono e h.2⟩
  | [], _ :: _, h => h.elim
  | _ :: _, [], h => h.elim
theorem Al.length {H : Hp} : ∀ {Ps : List Rp} {vs : List V}, Al H Ps vs → Ps.length = vs.length
  | [], [], _ => rfl
  | P :: Ps, v :: vs, h => by rw [List.length_cons, List.length_cons, Al.length h.2]
  | [], _ :: _, h => h.elim
  | _ :: _, [], h => h.elim
theorem Al.get {H : Hp} : ∀ {Ps : List Rp} {vs : List V} {i : Nat} {P : Rp}, Al H Ps vs → Ps[i]? = some P → ∃ v, vs[i]? = some v ∧ P.p H v
  | [], _, i, P, _, e => by simp at e
  | _ :: _, [], _, _, h, _ => h.elim
  | P :: Ps, v :: vs, 0, P', h, e => by
    simp at e
    subst e
    exact ⟨v, by simp, h.1⟩
  | P :: Ps, v :: vs, i + 1, P', h, e => by
    obtain ⟨w, h1, h2⟩ := Al.get (i := i) (P := P') h.2 (by simpa using e)
    exact ⟨w, by simpa using h1, h2⟩
theorem Al.get' {H : Hp} : ∀ {Ps : List Rp} {vs : List V} {i : Nat} {v : V}, Al H Ps vs → vs[i]? = some v → ∃ P, Ps[i]? = some P ∧ P.p H v
  | _, [], i, P, _, e => by simp at e
  | [], _ :: _, _, _, h, _ => h.elim
  | P :: Ps, v :: vs, 0, P', h, e => by
    simp at e
    subst e
    exact ⟨P, by simp, h.1⟩
  | P :: Ps, v :: vs, i + 1, P', h, e => by
    obtain ⟨w, h1, h2⟩ := Al.get' (i := i) (v := P') h.2 (by simpa using e)
    exact ⟨w, by simpa using h1, h2⟩
theorem Al.append {H : Hp} : ∀ {Ps Rs : List Rp} {vs ws : List V}, Al H Ps vs → Al H Rs ws → Al H (Ps ++ Rs) (vs ++ ws)
  | [], _, [], _, _, k => k
  | P :: Ps, _, v :: vs, _, h, k => ⟨h.1, Al.append h.2 k⟩
  | [], _, _ :: _, _, h, _ => h.elim
  | _ :: _, _, [], _, h, _ => h.elim
theorem Al.set {H : Hp} {P : Rp} {v : V} (hp : P.p H v) : ∀ {Ps : List Rp} {vs : List V} (i : Nat), Al H Ps vs → Al H (Ps.set i P) (vs.set i v)
  | [], [], _, _ => trivial
  | _ :: _, _ :: _, 0, h => ⟨hp, h.2⟩
  | _ :: _, _ :: _, i + 1, h => ⟨h.1, Al.set hp i h.2⟩
  | [], _ :: _, _, h => h.elim
  | _ :: _, [], _, h => h.elim
theorem Al.take {H : Hp} : ∀ {Ps : List Rp} {vs : List V} (n : Nat), Al H Ps vs → Al H (Ps.take n) (vs.take n)
  | _, _, 0, _ => trivial
  | [], [], _ + 1, _ => trivial
  | _ :: _, _ :: _, n + 1, h => ⟨h.1, Al.take n h.2⟩
  | [], _ :: _, _ + 1, h => h.elim
  | _ :: _, [], _ + 1, h => h.elim
theorem Al.drop {H : Hp} : ∀ {Ps : List Rp} {vs : List V} (n : Nat), Al H Ps vs → Al H (Ps.drop n) (vs.drop n)
  | _, _, 0, h => h
  | [], [], _ + 1, _ => trivial
  | _ :: _, _ :: _, n + 1, h => Al.drop n h.2
  | [], _ :: _, _ + 1, h => h.elim
  | _ :: _, [], _ + 1, h => h.elim
theorem Al.at {H : Hp} {Ps : List Rp} {vs : List V} {i : Int} {P : Rp} (h : Al H Ps vs) (e : atI Ps i = some P) : ∃ v, atI vs i = some v ∧ P.p H v := by
  unfold atI at e ⊢
  rw [← h.length]
  cases q : ixN Ps.length i with
  | none =>
    rw [q] at e
    cases e
  | some j =>
    rw [q] at e
    exact h.get e
theorem Al.ofE {H : Hp} : ∀ {vs ws : List V}, Al H (vs.map vE) ws → ws = vs
  | [], [], _ => rfl
  | v :: vs, w :: ws, h => by
    have h1 : w = v := h.1
    rw [h1, Al.ofE h.2]
  | [], _ :: _, h => h.elim
  | _ :: _, [], h => h.elim
theorem Al.toE {H : Hp} : ∀ (vs : List V), Al H (vs.map vE) vs
  | [] => trivial
  | _ :: vs => ⟨rfl, Al.toE vs⟩
theorem Al.ints {H : Hp} {ns : List Int} {ws : List V} (h : Al H (ns.map vI) ws) : ws = ns.map V.int :=
  Al.ofE (H := H) (by rw [List.map_map]; exact h)
theorem Al.toInts {H : Hp} (ns : List Int) : Al H (ns.map vI) (ns.map V.int) := by
  have h := Al.toE (H := H) (ns.map V.int)
  rw [List.map_map] at h
  exact h
theorem Al.bools {H : Hp} {ns : List Bool} {ws : List V} (h : Al H (ns.map vB) ws) : ws = ns.map V.bl :=
  Al.ofE (H := H) (by rw [List.map_map]; exact h)

def LS (Ps : List Rp) : Rp := ⟨fun H v => ∃ a vs, v = .ref a ∧ H a = some (.lst vs) ∧ Al H Ps vs, fun e ⟨a, vs, h1, h2, h3⟩ => ⟨a, vs, h1, e a _ h2, h3.mono e⟩⟩
def TP (K : PySem.W.Frag) (Ps : List Rp) : Rp := ⟨fun H v => ∃ a vs, v = .ref a ∧ SqT K H a vs ∧ Al H Ps vs, fun e ⟨a, vs, h1, h2, h3⟩ => ⟨a, vs, h1, same_t e h2, h3.mono e⟩⟩
/-- a list or a tuple -/
def SQ (K : PySem.W.Frag) (Ps : List Rp) : Rp := ⟨fun H v => ∃ a vs, v = .ref a ∧ (H a = some (.lst vs) ∨ SqT K H a vs) ∧ Al H Ps vs,
  fun e ⟨a, vs, h1, h2, h3⟩ => ⟨a, vs, h1, h2.imp (fun z => e a _ z) (fun z => same_t e z), h3.mono e⟩⟩
/-- one is told by the other -/
def Rp.Le (P R : Rp) : Prop := ∀ H v, P.p H v → R.p H v
theorem Rp.Le.rfl {P : Rp} : P.Le P := fun _ _ h => h
theorem Rp.Le.trans {P R T : Rp} (a : P.Le R) (b : R.Le T) : P.Le T := fun H v h => b H v (a H v h)
theorem le_ls {K : PySem.W.Frag} {Ps : List Rp} : (LS Ps).Le (SQ K Ps) := fun _ _ ⟨a, vs, h1, h2, h3⟩ => ⟨a, vs, h1, .inl h2, h3⟩
theorem le_ts {K : PySem.W.Frag} {Ps : List Rp} : (TP K Ps).Le (SQ K Ps) := fun _ _ ⟨a, vs, h1, h2, h3⟩ => ⟨a, vs, h1, .inr h2, h3⟩
/-- item by item -/
def LeA : List Rp → List Rp → Prop
  | [], [] => True
  | P :: Ps, R :: Rs => P.Le R ∧ LeA Ps Rs
  | _, _ => False
theorem LeA.al {H : Hp} : ∀ {Ps Rs : List Rp} {vs : List V}, LeA Ps Rs → Al H Ps vs → Al H Rs vs
  | [], [], _, _, h => h
  | P :: Ps, R :: Rs, v :: vs, l, h => ⟨l.1 _ _ h.1, LeA.al l.2 h.2⟩
  | [], _ :: _, _, l, _ => l.elim
  | _ :: _, [], _, l, _ => l.elim
  | _ :: _, _ :: _, [], _, h => h.elim
theorem LeA.rfl : ∀ {Ps : List Rp}, LeA Ps Ps
  | [] => trivial
  | _ :: _ => ⟨Rp.Le.rfl, LeA.rfl⟩
theorem LeA.map {α : Type} {f g : α → Rp} (h : ∀ x, (f x).Le (g x)) : ∀ xs : List α, LeA (xs.map f) (xs.map g)
  | [] => trivial
  | x :: xs => ⟨h x, LeA.map h xs⟩
theorem le_ls_a {Ps Rs : List Rp} (l : LeA Ps Rs) : (LS Ps).Le (LS Rs) := fun _ _ ⟨a, vs, h1, h2, h3⟩ => ⟨a, vs, h1, h2, l.al h3⟩
theorem le_ts_a {K : PySem.W.Frag} {Ps Rs : List Rp} (l : LeA Ps Rs) : (TP K Ps).Le (TP K Rs) := fun _ _ ⟨a, vs, h1, h2, h3⟩ => ⟨a, vs, h1, h2, l.al h3⟩
theorem le_sq_a {K : PySem.W.Frag} {Ps Rs : List Rp} (l : LeA Ps Rs) : (SQ K Ps).Le (SQ K Rs) := fun _ _ ⟨a, vs, h1, h2, h3⟩ => ⟨a, vs, h1, h2, l.al h3⟩

/-! ### own objects: what stands in them -/
structure Ob where
  ok : Hp → HO → Prop
  mono : ∀ {H H' : Hp} {o : HO}, Same H H' → ok H o → ok H' o
def obL (Ps : List Rp) : Ob := ⟨fun Z o => ∃ vs, o = .lst vs ∧ Al Z Ps vs, fun e ⟨vs, h1, h2⟩ => ⟨vs, h1, h2.mono e⟩⟩
/-- just this object -/
def obE (o : HO) : Ob := ⟨fun _ u => u = o, fun _ h => h⟩
abbrev Mu := List (Addr × Ob)
inductive En where
  | no
  | rp (P : Rp)
  | bo (P : Rp)
  | ow (l : Addr)
  | dv
structure Fr where
  Hf : Hp
  Z0 : Hp
  Zd : Hp
  dv : Option (Addr × Ob)
/-- what stood at the entry, the device left out -/
def Fr.Hb (F : Fr) : Hp := match F.dv with
  | none => F.Hf
  | some d => fun a => if a = d.1 then none else F.Hf a
def EnOk (F : Fr) (Z : Hp) : En → Option V → Prop
  | .no, _ => True
  | .rp P, o => ∃ v, o = some v ∧ P.p Z v
  | .bo P, o => ∃ v, o = some v ∧ P.p F.Hb v
  | .ow l, o => o = some (.ref l)
  | .dv, o => ∃ d, F.dv = some d ∧ o = some (.ref d.1)
theorem EnOk.mono {F : Fr} {Z Z' : Hp} (e : Same Z Z') : ∀ {n : En} {o : Option V}, EnOk F Z n o → EnOk F Z' n o
  | .no, _, _ => trivial
  | .rp P, _, ⟨v, h1, h2⟩ => ⟨v, h1, P.mono e h2⟩
  | .bo _, _, h => h
  | .ow _, _, h => h
  | .dv, _, h => h
def EnvOk (F : Fr) (Z : Hp) : List En → L2.St → Prop
  | [], [] => True
  | e :: es, o :: os => EnOk F Z e o ∧ EnvOk F Z es os
  | _, _ => False
theorem EnvOk.mono {F : Fr} {Z Z' : Hp} (e : Same Z Z') : ∀ {Γ : List En} {σ : L2.St}, EnvOk F Z Γ σ → EnvOk F Z' Γ σ
  | [], [], _ => trivial
  | _ :: _, _ :: _, h => ⟨h.1.mono e, EnvOk.mono e h.2⟩
  | [], _ :: _, h => h.elim
  | _ :: _, [], h => h.elim
theorem EnvOk.get {F : Fr} {Z : Hp} : ∀ {Γ : List En} {σ : L2.St} {i : Nat} {e : En}, EnvOk F Z Γ σ → Γ[i]? = some e → ∃ o, σ[i]? = some o ∧ EnOk F Z e o
  | [], _, i, P, _, e => by simp at e
  | _ :: _, [], _, _, h, _ => h.elim
  | P :: Ps, v :: vs, 0, P', h, e => by
    simp at e
    subst e
    exact ⟨v, by simp, h.1⟩
  | P :: Ps, v :: vs, i + 1, P', h, e => by
    obtain ⟨w, h1, h2⟩ := EnvOk.get (i := i) (e := P') h.2 (by simpa using e)
    exact ⟨w, by simpa using h1, h2⟩
theorem EnvOk.set {F : Fr} {Z : Hp} {n : En} {o : Option V} (hp : EnOk F Z n o) : ∀ {Γ : List En} {σ : L2.St} (i : Nat), EnvOk F Z Γ σ → EnvOk F Z (Γ.set i n) (σ.set i o)
  | [], [], _, _ => trivial
  | _ :: _, _ :: _, 0, h => ⟨hp, h.2⟩
  | _ :: _, _ :: _, i + 1, h => ⟨h.1, EnvOk.set hp i h.2⟩
  | [], _ :: _, _, h => h.elim
  | _ :: _, [], _, h => h.elim
theorem EnvOk.setG {F : Fr} {Z : Hp} {n : En} : ∀ {Γ : List En} {σ : L2.St} (i : Nat), EnvOk F Z Γ σ → (∀ o, σ[i]? = some o → EnOk F Z n o) → EnvOk F Z (Γ.set i n) σ
  | [], [], _, _, _ => trivial
  | _ :: _, o :: _, 0, h, k => ⟨k o (by simp), h.2⟩
  | _ :: _, _ :: _, i + 1, h, k => ⟨h.1, EnvOk.setG i h.2 fun o e => k o (by simpa using e)⟩
  | [], _ :: _, _, h, _ => h.elim
  | _ :: _, [], _, h, _ => h.elim

/-! ### where one stands -/
structure Wd (F : Fr) (μ : Mu) (Z H : Hp) : Prop where
  fr : ∀ a o, F.Hf a = some o → (∀ d, F.dv = some d → d.1 ≠ a) → H a = some o
  al : ∀ a, F.Hf a ≠ none → H a ≠ none
  z0 : Same F.Z0 Z
  zf : ∀ a, F.Hf a ≠ none → Z a = F.Z0 a
  zh : Same Z H
  own : ∀ q, q ∈ μ → Z q.1 = none ∧ F.Hf q.1 = none ∧ ∃ o, H q.1 = some o ∧ q.2.ok Z o
  nd : (μ.map (·.1)).Nodup
  dev : ∀ d, F.dv = some d → F.Hf d.1 ≠ none ∧ F.Z0 d.1 = none ∧ Same F.Zd F.Z0 ∧ ∃ o, H d.1 = some o ∧ d.2.ok F.Zd o
section
variable {F : Fr} {μ : Mu} {Z H : Hp} {p : Addr} {o : HO}
theorem Wd.nz (w : Wd F μ Z H) (h : H p = none) : Z p = none := by
  cases q : Z p with
  | none => rfl
  | some u =>
    rw [w.zh p u q] at h
    cases h
theorem Wd.hb (w : Wd F μ Z H) : Same F.Hb H := fun a o e => by
  cases q : F.dv with
  | none =>
    unfold Fr.Hb at e
    rw [q] at e
    exact w.fr a o e fun d k => by rw [q] at k; cases k
  | some d =>
    unfold Fr.Hb at e
    rw [q] at e
    have e2 : (if a = d.1 then none else F.Hf a) = some o := e
    split at e2
    · cases e2
    · rename_i ne
      exact w.fr a o e2 fun d' k => by
        rw [q] at k
        cases k
        exact fun z => ne z.symm
theorem Wd.nf (w : Wd F μ Z H) (h : H p = none) : F.Hf p = none := by
  cases q : F.Hf p with
  | none => rfl
  | some u => exact absurd h (w.al p (by rw [q]; exact fun z => nomatch z))
/-- a new thing that all may hold -/
theorem Wd.new (w : Wd F μ Z H) (h : H p = none) : Wd F μ (upd Z p o) (upd H p o) where
  fr := fun a u e k => by
    rw [upd_ne (fun z => by rw [z, w.nf h] at e; cases e)]
    exact w.fr a u e k
  al := fun a e => by
    rw [upd_ne (fun z => by rw [z] at e; exact e (w.nf h))]
    exact w.al a e
  z0 := w.z0.trans (same_new (w.nz h))
  zf := fun a e => by
    rw [upd_ne (fun z => by rw [z] at e; exact e (w.nf h))]
    exact w.zf a e
  zh := fun a u e => by
    by_cases z : a = p
    · subst z
      rw [upd_same] at e ⊢
      exact e
    · rw [upd_ne z] at e ⊢
      exact w.zh a u e
  own := fun q hq => by
    obtain ⟨h1, h2, u, h3, h4⟩ := w.own q hq
    have ne : q.1 ≠ p := ne_of_none h3 h
    refine ⟨by rw [upd_ne ne]; exact h1, h2, u, by rw [upd_ne ne]; exact h3, q.2.mono (same_new (w.nz h)) h4⟩
  nd := w.nd
  dev := fun d e => by
    obtain ⟨h1, h2, hs, u, h3, h4⟩ := w.dev d e
    have ne : d.1 ≠ p := ne_of_none h3 h
    exact ⟨h1, h2, hs, u, by rw [upd_ne ne]; exact h3, h4⟩
theorem Wd.newZ (w : Wd F μ Z H) (h : H p = none) : Same Z (upd Z p o) := same_new (w.nz h)
/-- a new thing of one's own -/
theorem Wd.newOwn {b : Ob} (w : Wd F μ Z H) (h : H p = none) (hb : b.ok Z o) : Wd F ((p, b) :: μ) Z (upd H p o) where
  fr := fun a u e k => by
    rw [upd_ne (fun z => by rw [z, w.nf h] at e; cases e)]
    exact w.fr a u e k
  al := fun a e => by
    rw [upd_ne (fun z => by rw [z] at e; exact e (w.nf h))]
    exact w.al a e
  z0 := w.z0
  zf := w.zf
  zh := w.zh.trans (same_new h)
  own := fun q hq => by
    rcases List.mem_cons.mp hq with e | hq
    · subst e
      exact ⟨w.nz h, w.nf h, o, upd_same, hb⟩
    · obtain ⟨h1, h2, u, h3, h4⟩ := w.own q hq
      exact ⟨h1, h2, u, by rw [upd_ne (ne_of_none h3 h)]; exact h3, h4⟩
  nd := by
    rw [List.map_cons, List.nodup_cons]
    refine ⟨fun hm => ?_, w.nd⟩
    obtain ⟨q, hq, e⟩ := List.mem_map.mp hm
    obtain ⟨_, _, u, h3, _⟩ := w.own q hq
    rw [e, h] at h3
    cases h3
  dev := fun d e => by
    obtain ⟨h1, h2, hs, u, h3, h4⟩ := w.dev d e
    exact ⟨h1, h2, hs, u, by rw [upd_ne (ne_of_none h3 h)]; exact h3, h4⟩
theorem nodup_at {μ : Mu} (nd : (μ.map (·.1)).Nodup) {i j : Nat} {q r : Addr × Ob} (hi : μ[i]? = some q) (hj : μ[j]? = some r) (e : q.1 = r.1) : i = j := by
  have h1 : (μ.map (·.1))[i]? = some q.1 := by rw [List.getElem?_map, hi]; rfl
  have h2 : (μ.map (·.1))[j]? = some r.1 := by rw [List.getElem?_map, hj]; rfl
  rw [e] at h1
  have l1 := (List.getElem?_eq_some_iff.mp h1).1
  exact (List.getElem?_inj l1 nd).mp (h1.trans h2.symm)
/-- an own thing changes -/
theorem Wd.mut {j : Nat} {l : Addr} {b b' : Ob} (w : Wd F μ Z H) (hj : μ[j]? = some (l, b)) (hb : b'.ok Z o) : Wd F (μ.set j (l, b')) Z (upd H l o) := by
  have hm : (l, b) ∈ μ := List.mem_of_getElem? hj
  obtain ⟨hz, hf, u, hu, _⟩ := w.own _ hm
  refine ⟨fun a u e k => ?_, fun a e => ?_, w.z0, w.zf, fun a u e => ?_, fun q hq => ?_, ?_, fun d e => ?_⟩
  · rw [upd_ne (fun z => by rw [z, hf] at e; cases e)]
    exact w.fr a u e k
  · by_cases z : a = l
    · subst z
      rw [upd_same]
      exact fun z => nomatch z
    · rw [upd_ne z]
      exact w.al a e
  · rw [upd_ne (fun z => by rw [z, hz] at e; cases e)]
    exact w.zh a u e
  · obtain ⟨i, hi⟩ := List.mem_iff_getElem?.mp hq
    rw [List.getElem?_set] at hi
    split at hi
    · split at hi
      · cases hi
        exact ⟨hz, hf, o, upd_same, hb⟩
      · cases hi
    · rename_i ne
      obtain ⟨h1, h2, v, h3, h4⟩ := w.own q (List.mem_of_getElem? hi)
      have nl : q.1 ≠ l := fun z => ne (nodup_at w.nd hj hi z.symm)
      exact ⟨h1, h2, v, by rw [upd_ne nl]; exact h3, h4⟩
  · rw [List.map_set]
    have e : (μ.map (·.1)).set j l = μ.map (·.1) := by
      apply List.ext_getElem?
      intro i
      rw [List.getElem?_set]
      split
      · rename_i ij
        subst ij
        rw [List.getElem?_map, hj]
        have lt := (List.getElem?_eq_some_iff.mp hj).1
        simp [lt]
      · rfl
    rw [e]
    exact w.nd
  · obtain ⟨h1, h2, hs, v, h3, h4⟩ := w.dev d e
    exact ⟨h1, h2, hs, v, by rw [upd_ne (fun z => by rw [z] at h1; exact h1 hf)]; exact h3, h4⟩
/-- own things that are one's own no more -/
theorem Wd.drop {μ' : Mu} (w : Wd F μ Z H) (hs : μ'.Sublist μ) : Wd F μ' Z H :=
  ⟨w.fr, w.al, w.z0, w.zf, w.zh, fun q hq => w.own q (hs.subset hq), w.nd.sublist (hs.map _), w.dev⟩
/-- an own list becomes everybody's -/
theorem Wd.free {l : Addr} {b : Ob} (w : Wd F ((l, b) :: μ) Z H) : ∃ u, b.ok Z u ∧ Same Z (upd Z l u) ∧ Wd F μ (upd Z l u) H := by
  obtain ⟨hz, hf, u, hu, hb⟩ := w.own _ (List.mem_cons_self ..)
  have sm : Same Z (upd Z l u) := same_new hz
  refine ⟨u, hb, sm, w.fr, w.al, w.z0.trans sm, fun a e => ?_, fun a v e => ?_, fun q hq => ?_, ?_, fun d e => ?_⟩
  · rw [upd_ne (fun z => by rw [z] at e; exact e hf)]
    exact w.zf a e
  · by_cases z : a = l
    · subst z
      rw [upd_same] at e
      cases e
      exact hu
    · rw [upd_ne z] at e
      exact w.zh a v e
  · obtain ⟨h1, h2, v, h3, h4⟩ := w.own q (List.mem_cons_of_mem _ hq)
    have nd := w.nd
    rw [List.map_cons, List.nodup_cons] at nd
    have nl : q.1 ≠ l := fun z => nd.1 (List.mem_map.mpr ⟨q, hq, z⟩)
    exact ⟨by rw [upd_ne nl]; exact h1, h2, v, h3, q.2.mono sm h4⟩
  · have nd := w.nd
    rw [List.map_cons, List.nodup_cons] at nd
    exact nd.2
  · obtain ⟨h1, h2, hs, v, h3, h4⟩ := w.dev d e
    exact ⟨h1, h2, hs, v, h3, h4⟩
/-- the order of the own things does not matter -/
theorem Wd.perm {μ' : Mu} (w : Wd F μ Z H) (hp : μ'.Perm μ) : Wd F μ' Z H :=
  ⟨w.fr, w.al, w.z0, w.zf, w.zh, fun q hq => w.own q (hp.mem_iff.mp hq), (hp.map _).nodup_iff.mpr w.nd, w.dev⟩
/-- behind a call -/
theorem Wd.step {Z' H' : Hp} (w : Wd F μ Z H) (z : Same Z Z') (h : Same H H') (zh : Same Z' H') (n : ∀ a, H a ≠ none → Z' a = Z a) : Wd F μ Z' H' where
  fr := fun a o e k => h a o (w.fr a o e k)
  al := fun a e => by
    cases q : H a with
    | none => exact absurd q (w.al a e)
    | some u =>
      rw [h a u q]
      exact fun z => nomatch z
  z0 := w.z0.trans z
  zf := fun a e => (n a (w.al a e)).trans (w.zf a e)
  zh := zh
  own := fun q hq => by
    obtain ⟨h1, h2, u, h3, h4⟩ := w.own q hq
    exact ⟨(n _ (by rw [h3]; exact fun z => nomatch z)).trans h1, h2, u, h _ _ h3, q.2.mono z h4⟩
  nd := w.nd
  dev := fun d e => by
    obtain ⟨h1, h2, hs, u, h3, h4⟩ := w.dev d e
    exact ⟨h1, h2, hs, u, h _ _ h3, h4⟩
/-- behind a call that turns the device -/
theorem Wd.stepD {Z' H' : Hp} {d : Addr × Ob} (w : Wd F μ Z H) (hd : F.dv = some d) (z : Same Z Z') (h : ∀ a o, a ≠ d.1 → H a = some o → H' a = some o) (zh : Same Z' H') (n : ∀ a, H a ≠ none → Z' a = Z a)
    (hn : ∃ o, H' d.1 = some o ∧ d.2.ok F.Zd o) : Wd F μ Z' H' where
  fr := fun a o e k => h a o (fun z => k d hd z.symm) (w.fr a o e k)
  al := fun a e => by
    by_cases q : a = d.1
    · obtain ⟨o, ho, _⟩ := hn
      rw [q, ho]
      exact fun z => nomatch z
    · cases q2 : H a with
      | none => exact absurd q2 (w.al a e)
      | some u =>
        rw [h a u q q2]
        exact fun z => nomatch z
  z0 := w.z0.trans z
  zf := fun a e => (n a (w.al a e)).trans (w.zf a e)
  zh := zh
  own := fun q hq => by
    obtain ⟨h1, h2, u, h3, h4⟩ := w.own q hq
    have nd : q.1 ≠ d.1 := fun z => by
      obtain ⟨k, _⟩ := w.dev d hd
      rw [← z] at k
      exact k h2
    exact ⟨(n _ (by rw [h3]; exact fun z => nomatch z)).trans h1, h2, u, h _ _ nd h3, q.2.mono z h4⟩
  nd := w.nd
  dev := fun d' e => by
    rw [hd] at e
    cases e
    obtain ⟨h1, h2, hs, _⟩ := w.dev d hd
    exact ⟨h1, h2, hs, hn⟩
end
end Eb
namespace Eb
open PySem PySem.Spec PyProof.Rows L2

/-! ### what an expression has come to -/
inductive Rv where
  | z (P : Rp)
  | b (P : Rp)
  | o (l : Addr)
  | dv
def Rv.ok (F : Fr) (Z : Hp) : Rv → V → Prop
  | .z P, v => P.p Z v
  | .b P, v => P.p F.Hb v
  | .o l, v => v = .ref l
  | .dv, v => ∃ d, F.dv = some d ∧ v = .ref d.1
theorem Rv.ok.mono {F : Fr} {Z Z' : Hp} (e : Same Z Z') : ∀ {r : Rv} {v : V}, r.ok F Z v → r.ok F Z' v
  | .z P, _, h => P.mono e h
  | .b _, _, h => h
  | .o _, _, h => h
  | .dv, _, h => h
def AlR (F : Fr) (Z : Hp) : List Rv → List V → Prop
  | [], [] => True
  | r :: rs, v :: vs => r.ok F Z v ∧ AlR F Z rs vs
  | _, _ => False
theorem AlR.mono {F : Fr} {Z Z' : Hp} (e : Same Z Z') : ∀ {rs : List Rv} {vs : List V}, AlR F Z rs vs → AlR F Z' rs vs
  | [], [], _ => trivial
  | _ :: _, _ :: _, h => ⟨h.1.mono e, AlR.mono e h.2⟩
  | [], _ :: _, h => h.elim
  | _ :: _, [], h => h.elim

section
variable (F : Fr) (Γ : List En) (μ : Mu)
def TEv (te : TE) (S : Rv → Prop) : Prop := ∀ σ Z H, Wd F μ Z H → EnvOk F Z Γ σ → ∀ Q : VK, (∀ v r Z' H', S r → Wd F μ Z' H' → Same Z Z' → r.ok F Z' v → Q v H') → te σ H Q
/-- a new list of one's own -/
def TNv (te : TE) (S : List Rp → Prop) : Prop := ∀ σ Z H, Wd F μ Z H → EnvOk F Z Γ σ → ∀ Q : VK, (∀ l Ps Z' H', S Ps → Wd F ((l, obL Ps) :: μ) Z' H' → Same Z Z' → Q (.ref l) H') → te σ H Q
def TAv (ta : TA) (S : List Rv → Prop) : Prop := ∀ σ Z H, Wd F μ Z H → EnvOk F Z Γ σ → ∀ Q : List V → Hp → Prop, (∀ vs rs Z' H', S rs → Wd F μ Z' H' → Same Z Z' → AlR F Z' rs vs → Q vs H') → ta σ H Q
def TTv (tt : TT) (S : Bool → Prop) : Prop := ∀ σ Z H, Wd F μ Z H → EnvOk F Z Γ σ → ∀ Q : Bool → Hp → Prop, (∀ b Z' H', S b → Wd F μ Z' H' → Same Z Z' → Q b H') → tt σ H Q
def TOv (to : TO) (S : Option Int → Prop) : Prop := ∀ σ Z H, Wd F μ Z H → EnvOk F Z Γ σ → ∀ Q : Option Int → Hp → Prop, (∀ b Z' H', S b → Wd F μ Z' H' → Same Z Z' → Q b H') → to σ H Q
/-- an operation on two values; on one; a built-in's call -/
def Rop (r : R2) (x y : Rv) (S : Rv → Prop) : Prop := ∀ Z H, Wd F μ Z H → ∀ v w, x.ok F Z v → y.ok F Z w → ∀ Q : VK, (∀ u t Z' H', S t → Wd F μ Z' H' → Same Z Z' → t.ok F Z' u → Q u H') → r v w H Q
def RopN (r : R2) (x y : Rv) (S : List Rp → Prop) : Prop := ∀ Z H, Wd F μ Z H → ∀ v w, x.ok F Z v → y.ok F Z w → ∀ Q : VK, (∀ l Ps Z' H', S Ps → Wd F ((l, obL Ps) :: μ) Z' H' → Same Z Z' → Q (.ref l) H') → r v w H Q
def Rcb (r : List V → Hp → VK → Prop) (xs : List Rv) (S : Rv → Prop) : Prop := ∀ Z H, Wd F μ Z H → ∀ vs, AlR F Z xs vs → ∀ Q : VK, (∀ u t Z' H', S t → Wd F μ Z' H' → Same Z Z' → t.ok F Z' u → Q u H') → r vs H Q
def RcbN (r : List V → Hp → VK → Prop) (xs : List Rv) (S : List Rp → Prop) : Prop := ∀ Z H, Wd F μ Z H → ∀ vs, AlR F Z xs vs → ∀ Q : VK, (∀ l Ps Z' H', S Ps → Wd F ((l, obL Ps) :: μ) Z' H' → Same Z Z' → Q (.ref l) H') → r vs H Q
end

section
variable {K : PySem.W.Frag} {F : Fr} {Γ : List En} {μ : Mu} {ta tb te : TE} {tr : TA} {t u : TT} {S : Rv → Prop} {SN : List Rp → Prop} {SB : Bool → Prop}

/-! ### names, constants -/
theorem te_rp {i : Nat} {P : Rp} (h : Γ[i]? = some (.rp P)) (s : S (.z P)) : TEv F Γ μ (tVar i) S := fun σ Z H w e Q k => by
  obtain ⟨o, h1, v, rfl, h2⟩ := e.get h
  exact ⟨v, h1, k v _ Z H s w (Same.refl Z) h2⟩
theorem te_bo {i : Nat} {P : Rp} (h : Γ[i]? = some (.bo P)) (s : S (.b P)) : TEv F Γ μ (tVar i) S := fun σ Z H w e Q k => by
  obtain ⟨o, h1, v, rfl, h2⟩ := e.get h
  exact ⟨v, h1, k v _ Z H s w (Same.refl Z) h2⟩
theorem te_ow {i : Nat} {l : Addr} (h : Γ[i]? = some (.ow l)) (s : S (.o l)) : TEv F Γ μ (tVar i) S := fun σ Z H w e Q k => by
  obtain ⟨o, h1, h2⟩ := e.get h
  cases h2
  exact ⟨.ref l, h1, k _ _ Z H s w (Same.refl Z) rfl⟩
theorem te_dv {i : Nat} (h : Γ[i]? = some .dv) (s : S .dv) : TEv F Γ μ (tVar i) S := fun σ Z H w e Q k => by
  obtain ⟨o, h1, d, h2, h3⟩ := e.get h
  subst h3
  exact ⟨.ref d.1, h1, k _ _ Z H s w (Same.refl Z) ⟨d, h2, rfl⟩⟩
/-- a name that holds an int (whatever told as) -/
theorem te_c {v : V} (s : S (.z (vE v))) : TEv F Γ μ (tC v) S := fun σ Z H w e Q k => k v _ Z H s w (Same.refl Z) rfl
/-- a thing of the written part -/
theorem te_cP {v : V} {P : Rp} (h : ∀ H, P.p H v) (s : S (.z P)) : TEv F Γ μ (tC v) S := fun σ Z H w e Q k => k v _ Z H s w (Same.refl Z) (h Z)
theorem te_le {P R : Rp} (l : P.Le R) (h : TEv F Γ μ te (fun r => (∃ P, r = .z P ∧ S r))) : TEv F Γ μ te S := fun σ Z H w e Q k => h σ Z H w e Q fun v r Z' H' s => k v r Z' H' s.choose_spec.2
theorem te_imp {S' : Rv → Prop} (h : TEv F Γ μ te S) (l : ∀ r, S r → S' r) : TEv F Γ μ te S' := fun σ Z H w e Q k => h σ Z H w e Q fun v r Z' H' s => k v r Z' H' (l r s)
theorem tt_imp {S' : Bool → Prop} (h : TTv F Γ μ t SB) (l : ∀ b, SB b → S' b) : TTv F Γ μ t S' := fun σ Z H w e Q k => h σ Z H w e Q fun v Z' H' s => k v Z' H' (l v s)
theorem te_op {r : R2} (h : TEv F Γ μ ta (fun x => TEv F Γ μ tb (fun y => Rop F μ r x y S))) : TEv F Γ μ (tOp r ta tb) S := fun σ Z H w e Q k =>
  h σ Z H w e _ fun v x Z1 H1 s1 w1 z1 p1 => s1 σ Z1 H1 w1 (e.mono z1) _ fun v2 y Z2 H2 s2 w2 z2 p2 =>
    s2 Z2 H2 w2 v v2 (p1.mono z2) p2 Q fun u t Z3 H3 s3 w3 z3 p3 => k u t Z3 H3 s3 w3 ((z1.trans z2).trans z3) p3
theorem tn_op {r : R2} (h : TEv F Γ μ ta (fun x => TEv F Γ μ tb (fun y => RopN F μ r x y SN))) : TNv F Γ μ (tOp r ta tb) SN := fun σ Z H w e Q k =>
  h σ Z H w e _ fun v x Z1 H1 s1 w1 z1 p1 => s1 σ Z1 H1 w1 (e.mono z1) _ fun v2 y Z2 H2 s2 w2 z2 p2 =>
    s2 Z2 H2 w2 v v2 (p1.mono z2) p2 Q fun l t Z3 H3 s3 w3 z3 => k l t Z3 H3 s3 w3 ((z1.trans z2).trans z3)
/-- what is new is anybody's -/
theorem te_new (h : TNv F Γ μ te (fun Ps => S (.z (LS Ps)))) : TEv F Γ μ te S := fun σ Z H w e Q k => h σ Z H w e Q fun l Ps Z1 H1 s1 w1 z1 => by
  obtain ⟨u, ⟨vs, rfl, h2⟩, sm, w2⟩ := w1.free
  exact k (.ref l) _ _ H1 s1 w2 (z1.trans sm) ⟨l, vs, rfl, upd_same, h2.mono sm⟩

/-! ### operations -/
theorem rop_0 {g : Int → Int → V} {i j : Int} (s : S (.z (vE (g i j)))) : Rop F μ (rI0 g) (.z (vI i)) (.z (vI j)) S := fun Z H w v v2 h1 h2 Q k =>
  ⟨i, j, h1, h2, k _ _ Z H s w (Same.refl Z) rfl⟩
theorem rop_C {C : Int → Int → Prop} {g : Int → Int → V} {i j : Int} (hc : C i j) (s : S (.z (vE (g i j)))) : Rop F μ (rI C g) (.z (vI i)) (.z (vI j)) S := fun Z H w v v2 h1 h2 Q k =>
  ⟨i, j, h1, h2, hc, k _ _ Z H s w (Same.refl Z) rfl⟩
theorem rop_eq {x y : V} (hs : scal x y = true) (s : S (.z (vB (decide (x = y))))) : Rop F μ rEq (.z (vE x)) (.z (vE y)) S := fun Z H w v v2 h1 h2 Q k => by
  have e1 : v = x := h1
  have e2 : v2 = y := h2
  subst e1 e2
  exact ⟨hs, k _ _ Z H s w (Same.refl Z) rfl⟩
theorem rop_ne {x y : V} (hs : scal x y = true) (s : S (.z (vB (!decide (x = y))))) : Rop F μ rNe (.z (vE x)) (.z (vE y)) S := fun Z H w v v2 h1 h2 Q k => by
  have e1 : v = x := h1
  have e2 : v2 = y := h2
  subst e1 e2
  exact ⟨hs, k _ _ Z H s w (Same.refl Z) rfl⟩
theorem dec_int {i j : Int} : decide (V.int i = V.int j) = decide (i = j) := by
  by_cases h : i = j
  · subst h
    simp
  · rw [decide_eq_false h, decide_eq_false (fun e => h (V.int.inj e))]
theorem rop_eqI {i j : Int} (s : S (.z (vB (decide (i = j))))) : Rop F μ rEq (.z (vI i)) (.z (vI j)) S := rop_eq rfl (by rw [dec_int]; exact s)
theorem rop_neI {i j : Int} (s : S (.z (vB (!decide (i = j))))) : Rop F μ rNe (.z (vI i)) (.z (vI j)) S := rop_ne rfl (by rw [dec_int]; exact s)

/-- how what is in it is told -/
inductive Lv where
  | z
  | b
def Lv.hp (F : Fr) (Z : Hp) : Lv → Hp
  | .z => Z
  | .b => F.Hb
def Lv.rv (P : Rp) : Lv → Rv
  | .z => .z P
  | .b => .b P
theorem Lv.ok {F : Fr} {Z : Hp} {P : Rp} {v : V} : ∀ {l : Lv}, P.p (l.hp F Z) v → (l.rv P).ok F Z v
  | .z, h => h
  | .b, h => h
def Lv.en (P : Rp) : Lv → En
  | .z => .rp P
  | .b => .bo P
theorem Lv.enok {F : Fr} {Z : Hp} {P : Rp} {v : V} : ∀ {l : Lv}, P.p (l.hp F Z) v → EnOk F Z (l.en P) (some v)
  | .z, h => ⟨v, rfl, h⟩
  | .b, h => ⟨v, rfl, h⟩
theorem Lv.mono {F : Fr} {Z Z' : Hp} (e : Same Z Z') : ∀ {l : Lv}, Same (l.hp F Z) (l.hp F Z')
  | .z => e
  | .b => Same.refl _
/-- a list or a tuple of these -/
def Sq (K : PySem.W.Frag) (F : Fr) (μ : Mu) (r : Rv) (l : Lv) (Ps : List Rp) : Prop := ∀ Z H v, Wd F μ Z H → r.ok F Z v → ∃ a vs, v = .ref a ∧ (H a = some (.lst vs) ∨ SqT K H a vs) ∧ Al (l.hp F Z) Ps vs
def SqLs (F : Fr) (μ : Mu) (r : Rv) (l : Lv) (Ps : List Rp) : Prop := ∀ Z H v, Wd F μ Z H → r.ok F Z v → ∃ a vs, v = .ref a ∧ H a = some (.lst vs) ∧ Al (l.hp F Z) Ps vs
def SqTs (K : PySem.W.Frag) (F : Fr) (μ : Mu) (r : Rv) (l : Lv) (Ps : List Rp) : Prop := ∀ Z H v, Wd F μ Z H → r.ok F Z v → ∃ a vs, v = .ref a ∧ SqT K H a vs ∧ Al (l.hp F Z) Ps vs
theorem SqLs.q {r : Rv} {l : Lv} {Ps : List Rp} (h : SqLs F μ r l Ps) : Sq K F μ r l Ps := fun Z H v w q => by
  obtain ⟨a, vs, h1, h2, h3⟩ := h Z H v w q
  exact ⟨a, vs, h1, .inl h2, h3⟩
theorem SqTs.q {r : Rv} {l : Lv} {Ps : List Rp} (h : SqTs K F μ r l Ps) : Sq K F μ r l Ps := fun Z H v w q => by
  obtain ⟨a, vs, h1, h2, h3⟩ := h Z H v w q
  exact ⟨a, vs, h1, .inr h2, h3⟩
theorem sl_z {Ps : List Rp} : SqLs F μ (.z (LS Ps)) .z Ps := fun Z H v w ⟨a, vs, h1, h2, h3⟩ => ⟨a, vs, h1, w.zh _ _ h2, h3⟩
theorem sl_b {Ps : List Rp} : SqLs F μ (.b (LS Ps)) .b Ps := fun Z H v w ⟨a, vs, h1, h2, h3⟩ => ⟨a, vs, h1, w.hb _ _ h2, h3⟩
theorem sl_o {l : Addr} {Ps : List Rp} {j : Nat} (h : μ[j]? = some (l, obL Ps)) : SqLs F μ (.o l) .z Ps := fun Z H v w e => by
  obtain ⟨_, _, o, h3, vs, rfl, h4⟩ := w.own _ (List.mem_of_getElem? h)
  exact ⟨l, vs, e, h3, h4⟩
theorem st_z {Ps : List Rp} : SqTs K F μ (.z (TP K Ps)) .z Ps := fun Z H v w ⟨a, vs, h1, h2, h3⟩ => ⟨a, vs, h1, same_t w.zh h2, h3⟩
theorem st_b {Ps : List Rp} : SqTs K F μ (.b (TP K Ps)) .b Ps := fun Z H v w ⟨a, vs, h1, h2, h3⟩ => ⟨a, vs, h1, same_t w.hb h2, h3⟩
theorem sq_z {Ps : List Rp} : Sq K F μ (.z (SQ K Ps)) .z Ps := fun Z H v w ⟨a, vs, h1, h2, h3⟩ => ⟨a, vs, h1, h2.imp (fun z => w.zh _ _ z) (fun z => same_t w.zh z), h3⟩
theorem sq_b {Ps : List Rp} : Sq K F μ (.b (SQ K Ps)) .b Ps := fun Z H v w ⟨a, vs, h1, h2, h3⟩ => ⟨a, vs, h1, h2.imp (fun z => w.hb _ _ z) (fun z => same_t w.hb z), h3⟩
theorem rop_ix {x : Rv} {l : Lv} {Ps : List Rp} {i : Int} {P : Rp} (h : Sq K F μ x l Ps) (e : atI Ps i = some P) (s : S (l.rv P)) : Rop F μ (rIx K) x (.z (vI i)) S := fun Z H w v v2 h1 h2 Q k => by
  have e2 : v2 = .int i := h2
  subst e2
  obtain ⟨a, vs, rfl, q, al⟩ := h Z H v w h1
  obtain ⟨y, hy, hp⟩ := al.at e
  rcases q with q | q
  · exact .inl ⟨a, vs, i, y, rfl, rfl, SqL.of q, hy, k _ _ Z H s w (Same.refl Z) (Lv.ok hp)⟩
  · exact .inr (.inl ⟨a, vs, i, y, rfl, rfl, q, hy, k _ _ Z H s w (Same.refl Z) (Lv.ok hp)⟩)
/-- the same where the items are just values -/
theorem rop_ixE {x : Rv} {l : Lv} {Ps : List Rp} {i : Int} {u : V} (h : Sq K F μ x l Ps) (e : atI Ps i = some (vE u)) (s : S (.z (vE u))) : Rop F μ (rIx K) x (.z (vI i)) S := fun Z H w v v2 h1 h2 Q k => by
  have e2 : v2 = .int i := h2
  subst e2
  obtain ⟨a, vs, rfl, q, al⟩ := h Z H v w h1
  obtain ⟨y, hy, hp⟩ := al.at e
  have hp2 : y = u := hp
  rcases q with q | q
  · exact .inl ⟨a, vs, i, y, rfl, rfl, SqL.of q, hy, k _ _ Z H s w (Same.refl Z) hp2⟩
  · exact .inr (.inl ⟨a, vs, i, y, rfl, rfl, q, hy, k _ _ Z H s w (Same.refl Z) hp2⟩)
def gi (ns : List Int) (i : Int) : Int := ns.getD i.toNat 0
theorem at_nat {α : Type} {xs : List α} {i : Int} {x : α} (h0 : 0 ≤ i) (h : xs[i.toNat]? = some x) : atI xs i = some x := by
  unfold atI ixN
  have lt := (List.getElem?_eq_some_iff.mp h).1
  rw [if_pos h0, if_pos (by omega)]
  exact h
theorem at_last {α : Type} {xs : List α} {x : α} (h : xs[xs.length - 1]? = some x) : atI xs (-1) = some x := by
  unfold atI ixN
  have lt := (List.getElem?_eq_some_iff.mp h).1
  rw [if_neg (by decide), if_pos (by omega)]
  have e : (-1 + (xs.length : Int)).toNat = xs.length - 1 := by omega
  show xs[(-1 + (xs.length : Int)).toNat]? = some x
  rw [e]
  exact h
theorem at_gi {ns : List Int} {i : Int} (h0 : 0 ≤ i) (h : i < ns.length) : atI (ns.map vI) i = some (vE (.int (gi ns i))) := by
  refine at_nat h0 ?_
  unfold gi
  rw [List.getElem?_map]
  have lt : i.toNat < ns.length := by omega
  rw [List.getElem?_eq_getElem lt, List.getD_eq_getElem?_getD, List.getElem?_eq_getElem lt]
  rfl
theorem at_giL {ns : List Int} (h : 0 < ns.length) : atI (ns.map vI) (-1) = some (vE (.int (gi ns ((ns.length : Int) - 1)))) := by
  refine at_last ?_
  unfold gi
  rw [List.length_map, List.getElem?_map]
  have lt : ns.length - 1 < ns.length := by omega
  have e : ((ns.length : Int) - 1).toNat = ns.length - 1 := by omega
  rw [e, List.getElem?_eq_getElem lt, List.getD_eq_getElem?_getD, List.getElem?_eq_getElem lt]
  rfl
theorem rop_in {neg : Bool} {x : V} {y : Rv} {l : Lv} {vs : List V} (h : Sq K F μ y l (vs.map vE)) (hx : flatV x = true) (hv : vs.all flatV = true) (s : S (.z (vB (if neg then !inV x vs else inV x vs)))) : Rop F μ (rIn K neg) (.z (vE x)) y S := fun Z H w v v2 h1 h2 Q k => by
  have e1 : v = x := h1
  subst e1
  obtain ⟨a, ws, rfl, q, al⟩ := h Z H v2 w h2
  have e := al.ofE
  subst e
  refine ⟨a, _, rfl, q.imp (fun z => SqL.of z) id, hx, hv, k _ _ Z H s w (Same.refl Z) rfl⟩
theorem inV_int {i : Int} {ns : List Int} : inV (.int i) (ns.map V.int) = decide (i ∈ ns) := by
  unfold inV
  induction ns with
  | nil => rfl
  | cons n r ih =>
    rw [List.map_cons, List.any_cons, ih]
    by_cases h : i = n
    · subst h
      simp [eqV]
    · have h2 : ¬ n = i := fun z => h z.symm
      simp [eqV, h, h2]
theorem flat_ints (ns : List Int) : (ns.map V.int).all flatV = true := by
  rw [List.all_map]
  exact List.all_eq_true.mpr fun _ _ => rfl
theorem rop_inI {y : Rv} {l : Lv} {i : Int} {ns : List Int} (h : Sq K F μ y l (ns.map vI)) (s : S (.z (vB (decide (i ∈ ns))))) : Rop F μ (rIn K false) (.z (vI i)) y S :=
  rop_in (neg := false) (l := l) (vs := ns.map V.int) (by rw [List.map_map]; exact h) rfl (flat_ints ns) (by rw [if_neg Bool.false_ne_true, inV_int]; exact s)
theorem rop_niI {y : Rv} {l : Lv} {i : Int} {ns : List Int} (h : Sq K F μ y l (ns.map vI)) (s : S (.z (vB (!decide (i ∈ ns))))) : Rop F μ (rIn K true) (.z (vI i)) y S :=
  rop_in (neg := true) (l := l) (vs := ns.map V.int) (by rw [List.map_map]; exact h) rfl (flat_ints ns) (by rw [if_pos rfl, inV_int]; exact s)
theorem te_un {r : V → Hp → VK → Prop} (h : TEv F Γ μ ta (fun x => ∀ Z H, Wd F μ Z H → ∀ v, x.ok F Z v → ∀ Q : VK, (∀ u t, S t → t.ok F Z u → Q u H) → r v H Q)) : TEv F Γ μ (tUn r ta) S := fun σ Z H w e Q k =>
  h σ Z H w e _ fun v x Z1 H1 s1 w1 z1 p1 => s1 Z1 H1 w1 v p1 Q fun u t s p => k u t Z1 H1 s w1 z1 p
theorem te_unI {g : Int → V} (h : TEv F Γ μ ta (fun x => ∃ i, x = .z (vI i) ∧ S (.z (vE (g i))))) : TEv F Γ μ (tUn (rU g) ta) S := te_un (te_imp h fun x ⟨i, hx, s⟩ Z H w v hv Q k => by
  subst hx
  have e : v = .int i := hv
  subst e
  exact ⟨i, rfl, k _ _ s rfl⟩)

/-! ### tests -/
theorem tt_test (h : TEv F Γ μ te (fun x => ∃ b, x = .z (vB b) ∧ SB b)) : TTv F Γ μ (tTest te) SB := fun σ Z H w e Q k => h σ Z H w e _ fun v x Z1 H1 s1 w1 z1 p1 => by
  obtain ⟨b, rfl, s⟩ := s1
  exact ⟨b, p1, k b Z1 H1 s w1 z1⟩
theorem tt_B (h : TEv F Γ μ te (fun x => ∃ b, x = .z (vB b) ∧ SB b)) : TTv F Γ μ (tB te) SB := fun σ Z H w e Q k => h σ Z H w e _ fun v x Z1 H1 s1 w1 z1 p1 => by
  obtain ⟨b, rfl, s⟩ := s1
  exact ⟨b, p1, k b Z1 H1 s w1 z1⟩
theorem tt_not (h : TTv F Γ μ t (fun b => SB (!b))) : TTv F Γ μ (tNot t) SB := fun σ Z H w e Q k => h σ Z H w e _ fun b Z1 H1 s1 w1 z1 => k _ Z1 H1 s1 w1 z1
theorem tt_and (h : TTv F Γ μ t (fun b => (b = true → TTv F Γ μ u SB) ∧ (b = false → SB false))) : TTv F Γ μ (tAnd t u) SB := fun σ Z H w e Q k => h σ Z H w e _ fun b Z1 H1 s1 w1 z1 => by
  cases b with
  | true => exact s1.1 rfl σ Z1 H1 w1 (e.mono z1) Q fun b Z2 H2 s2 w2 z2 => k b Z2 H2 s2 w2 (z1.trans z2)
  | false => exact k false Z1 H1 (s1.2 rfl) w1 z1
theorem tt_or (h : TTv F Γ μ t (fun b => (b = true → SB true) ∧ (b = false → TTv F Γ μ u SB))) : TTv F Γ μ (tOr t u) SB := fun σ Z H w e Q k => h σ Z H w e _ fun b Z1 H1 s1 w1 z1 => by
  cases b with
  | true => exact k true Z1 H1 (s1.1 rfl) w1 z1
  | false => exact s1.2 rfl σ Z1 H1 w1 (e.mono z1) Q fun b Z2 H2 s2 w2 z2 => k b Z2 H2 s2 w2 (z1.trans z2)
theorem te_andV (h : TEv F Γ μ ta (fun x => ∃ b, x = .z (vB b) ∧ (b = true → TEv F Γ μ tb S) ∧ (b = false → S (.z (vB false))))) : TEv F Γ μ (tAndV ta tb) S := fun σ Z H w e Q k => h σ Z H w e _ fun v x Z1 H1 s1 w1 z1 p1 => by
  obtain ⟨b, rfl, s2, s3⟩ := s1
  refine ⟨b, p1, ?_⟩
  cases b with
  | true => exact s2 rfl σ Z1 H1 w1 (e.mono z1) Q fun v r Z2 H2 s2 w2 z2 => k v r Z2 H2 s2 w2 (z1.trans z2)
  | false => exact k _ _ Z1 H1 (s3 rfl) w1 z1 rfl
theorem te_orV (h : TEv F Γ μ ta (fun x => ∃ b, x = .z (vB b) ∧ (b = true → S (.z (vB true))) ∧ (b = false → TEv F Γ μ tb S))) : TEv F Γ μ (tOrV ta tb) S := fun σ Z H w e Q k => h σ Z H w e _ fun v x Z1 H1 s1 w1 z1 p1 => by
  obtain ⟨b, rfl, s2, s3⟩ := s1
  refine ⟨b, p1, ?_⟩
  cases b with
  | true => exact k _ _ Z1 H1 (s2 rfl) w1 z1 rfl
  | false => exact s3 rfl σ Z1 H1 w1 (e.mono z1) Q fun v r Z2 H2 s2 w2 z2 => k v r Z2 H2 s2 w2 (z1.trans z2)
theorem te_notV (h : TEv F Γ μ ta (fun x => ∃ b, x = .z (vB b) ∧ S (.z (vB (!b))))) : TEv F Γ μ (tNotV ta) S := fun σ Z H w e Q k => h σ Z H w e _ fun v x Z1 H1 s1 w1 z1 p1 => by
  obtain ⟨b, rfl, s2⟩ := s1
  exact ⟨b, p1, k _ _ Z1 H1 s2 w1 z1 rfl⟩
theorem te_if (h : TTv F Γ μ t (fun b => (b = true → TEv F Γ μ ta S) ∧ (b = false → TEv F Γ μ tb S))) : TEv F Γ μ (tIf t ta tb) S := fun σ Z H w e Q k => h σ Z H w e _ fun b Z1 H1 s1 w1 z1 => by
  cases b with
  | true => exact s1.1 rfl σ Z1 H1 w1 (e.mono z1) Q fun v r Z2 H2 s2 w2 z2 => k v r Z2 H2 s2 w2 (z1.trans z2)
  | false => exact s1.2 rfl σ Z1 H1 w1 (e.mono z1) Q fun v r Z2 H2 s2 w2 z2 => k v r Z2 H2 s2 w2 (z1.trans z2)
theorem tn_if (h : TTv F Γ μ t (fun b => (b = true → TNv F Γ μ ta SN) ∧ (b = false → TNv F Γ μ tb SN))) : TNv F Γ μ (tIf t ta tb) SN := fun σ Z H w e Q k => h σ Z H w e _ fun b Z1 H1 s1 w1 z1 => by
  cases b with
  | true => exact s1.1 rfl σ Z1 H1 w1 (e.mono z1) Q fun l r Z2 H2 s2 w2 z2 => k l r Z2 H2 s2 w2 (z1.trans z2)
  | false => exact s1.2 rfl σ Z1 H1 w1 (e.mono z1) Q fun l r Z2 H2 s2 w2 z2 => k l r Z2 H2 s2 w2 (z1.trans z2)
/-- a < b < c -/
theorem te_chain {r r' : R2} {tc : TE} (h : TEv F Γ μ ta (fun x => TEv F Γ μ tb (fun y => Rop F μ r x y (fun q => ∃ b, q = .z (vB b) ∧ (b = true → TEv F Γ μ tc (fun u => Rop F μ r' y u S)) ∧ (b = false → S (.z (vB false))))))) : TEv F Γ μ (tChain r r' ta tb tc) S := fun σ Z H w e Q k =>
  h σ Z H w e _ fun v x Z1 H1 s1 w1 z1 p1 => s1 σ Z1 H1 w1 (e.mono z1) _ fun v2 y Z2 H2 s2 w2 z2 p2 =>
    s2 Z2 H2 w2 v v2 (p1.mono z2) p2 _ fun u t Z3 H3 s3 w3 z3 p3 => by
      obtain ⟨b, rfl, sT, sF⟩ := s3
      refine ⟨b, p3, ?_⟩
      cases b with
      | true =>
        refine sT rfl σ Z3 H3 w3 (e.mono ((z1.trans z2).trans z3)) _ fun v4 y4 Z4 H4 s4 w4 z4 p4 => ?_
        exact s4 Z4 H4 w4 v2 v4 (p2.mono (z3.trans z4)) p4 Q fun u t Z5 H5 s5 w5 z5 p5 => k u t Z5 H5 s5 w5 ((((z1.trans z2).trans z3).trans z4).trans z5) p5
      | false => exact k _ _ Z3 H3 (sF rfl) w3 ((z1.trans z2).trans z3) rfl

/-! ### arguments, displays -/
theorem ta_nil {S : List Rv → Prop} (s : S []) : TAv F Γ μ tNil S := fun σ Z H w e Q k => k [] [] Z H s w (Same.refl Z) trivial
theorem ta_cons {S : List Rv → Prop} (h : TEv F Γ μ ta (fun x => TAv F Γ μ tr (fun xs => S (x :: xs)))) : TAv F Γ μ (tCons ta tr) S := fun σ Z H w e Q k =>
  h σ Z H w e _ fun v x Z1 H1 s1 w1 z1 p1 => s1 σ Z1 H1 w1 (e.mono z1) _ fun vs xs Z2 H2 s2 w2 z2 p2 => k (v :: vs) (x :: xs) Z2 H2 s2 w2 (z1.trans z2) ⟨p1.mono z2, p2⟩
/-- what of it anybody may hold -/
def Hld : List Rv → List Rp → Prop
  | [], [] => True
  | .z P :: rs, R :: Rs => P = R ∧ Hld rs Rs
  | .o l :: rs, R :: Rs => R = vE (.ref l) ∧ Hld rs Rs
  | .b _ :: rs, R :: Rs => R = vAny ∧ Hld rs Rs
  | _, _ => False
theorem Hld.al {Z : Hp} : ∀ {rs : List Rv} {Rs : List Rp} {vs : List V}, Hld rs Rs → AlR F Z rs vs → Al Z Rs vs
  | [], [], [], _, _ => trivial
  | .z P :: rs, R :: Rs, v :: vs, h, k => by
    obtain ⟨rfl, h⟩ := h
    exact ⟨k.1, Hld.al h k.2⟩
  | .o l :: rs, R :: Rs, v :: vs, h, k => by
    obtain ⟨rfl, h⟩ := h
    exact ⟨k.1, Hld.al h k.2⟩
  | [], [], _ :: _, _, k => k.elim
  | _ :: _, _ :: _, [], _, k => k.elim
  | [], _ :: _, _, h, _ => h.elim
  | .z _ :: _, [], _, h, _ => h.elim
  | .o _ :: _, [], _, h, _ => h.elim
  | .b P :: rs, R :: Rs, v :: vs, h, k => by
    obtain ⟨rfl, h⟩ := h
    exact ⟨trivial, Hld.al h k.2⟩
  | .b _ :: _, [], _, h, _ => h.elim
  | .dv :: _, [], _, h, _ => h.elim
  | .dv :: _, _ :: _, _, h, _ => h.elim
theorem hold_length : ∀ {rs : List Rv} {Rs : List Rp}, Hld rs Rs → rs.length = Rs.length
  | [], [], _ => rfl
  | .z P :: rs, R :: Rs, h => by rw [List.length_cons, List.length_cons, hold_length h.2]
  | .o l :: rs, R :: Rs, h => by rw [List.length_cons, List.length_cons, hold_length h.2]
  | [], _ :: _, h => h.elim
  | .z _ :: _, [], h => h.elim
  | .o _ :: _, [], h => h.elim
  | .b _ :: rs, R :: Rs, h => by rw [List.length_cons, List.length_cons, hold_length h.2]
  | .b _ :: _, [], h => h.elim
  | .dv :: _, [], h => h.elim
  | .dv :: _, _ :: _, h => h.elim
theorem sz_le {n : Nat} (h : n ≤ 100000) : n ≤ sizeLine := Nat.le_trans h (by decide)
theorem sz_lt {n : Nat} (h : n < 100000) : n < sizeLine := Nat.lt_of_lt_of_le h (by decide)
theorem te_tup (h : TAv F Γ μ tr (fun xs => ∃ Rs, Hld xs Rs ∧ Rs.length ≤ 100000 ∧ S (.z (TP K Rs)))) : TEv F Γ μ (tTup tr) S := fun σ Z H w e Q k => h σ Z H w e _ fun vs xs Z1 H1 s1 w1 z1 p1 => by
  obtain ⟨Rs, hh, hl, s⟩ := s1
  have al := hh.al p1
  refine ⟨by rw [← al.length]; exact sz_le hl, fun p hp => ?_⟩
  exact k _ _ _ _ s (w1.new hp) (z1.trans (w1.newZ hp)) ⟨p, vs, rfl, SqT.of upd_same, al.mono (w1.newZ hp)⟩
theorem tn_lst (h : TAv F Γ μ tr (fun xs => ∃ Rs, Hld xs Rs ∧ Rs.length ≤ 100000 ∧ SN Rs)) : TNv F Γ μ (tLst tr) SN := fun σ Z H w e Q k => h σ Z H w e _ fun vs xs Z1 H1 s1 w1 z1 p1 => by
  obtain ⟨Rs, hh, hl, s⟩ := s1
  have al := hh.al p1
  refine ⟨by rw [← al.length]; exact sz_le hl, fun p hp => ?_⟩
  exact k p Rs Z1 _ s (w1.newOwn hp ⟨vs, rfl, al⟩) z1
theorem te_cb {r : List V → Hp → VK → Prop} (h : TAv F Γ μ tr (fun xs => Rcb F μ r xs S)) : TEv F Γ μ (tCB r tr) S := fun σ Z H w e Q k => h σ Z H w e _ fun vs xs Z1 H1 s1 w1 z1 p1 =>
  s1 Z1 H1 w1 vs p1 Q fun u t Z2 H2 s2 w2 z2 p2 => k u t Z2 H2 s2 w2 (z1.trans z2) p2
theorem tn_cb {r : List V → Hp → VK → Prop} (h : TAv F Γ μ tr (fun xs => RcbN F μ r xs SN)) : TNv F Γ μ (tCB r tr) SN := fun σ Z H w e Q k => h σ Z H w e _ fun vs xs Z1 H1 s1 w1 z1 p1 =>
  s1 Z1 H1 w1 vs p1 Q fun l t Z2 H2 s2 w2 z2 => k l t Z2 H2 s2 w2 (z1.trans z2)
theorem alr1 {Z : Hp} {r : Rv} {vs : List V} (h : AlR F Z [r] vs) : ∃ v, vs = [v] ∧ r.ok F Z v := by
  match vs, h with
  | [v], h => exact ⟨v, rfl, h.1⟩
  | [], h => exact h.elim
  | _ :: _ :: _, h => exact h.2.elim
theorem alr2 {Z : Hp} {r s : Rv} {vs : List V} (h : AlR F Z [r, s] vs) : ∃ v w, vs = [v, w] ∧ r.ok F Z v ∧ s.ok F Z w := by
  match vs, h with
  | [v, w], h => exact ⟨v, w, rfl, h.1, h.2.1⟩
  | [], h => exact h.elim
  | [_], h => exact h.2.elim
  | _ :: _ :: _ :: _, h => exact h.2.2.elim
abbrev rLen (K : PySem.W.Frag) : List V → Hp → VK → Prop := fun xs H Q => ∃ p ys, xs = [.ref p] ∧ (SqL K H p ys ∨ SqT K H p ys) ∧ Q (.int (ys.length : Nat)) H
theorem rc_len {x : Rv} {l : Lv} {Ps : List Rp} (h : Sq K F μ x l Ps) (s : S (.z (vI (Ps.length : Nat)))) : Rcb F μ (rLen K) [x] S := fun Z H w vs al Q k => by
  obtain ⟨v, rfl, hv⟩ := alr1 al
  obtain ⟨a, ws, rfl, q, al2⟩ := h Z H v w hv
  refine ⟨a, ws, rfl, q.imp (fun z => SqL.of z) id, ?_⟩
  rw [← al2.length]
  exact k _ _ Z H s w (Same.refl Z) rfl
theorem rc_sum {x : Rv} {l : Lv} {ns : List Int} (h : SqLs F μ x l (ns.map vI)) (s : S (.z (vI ns.sum))) : Rcb F μ (rSum K) [x] S := fun Z H w vs al Q k => by
  obtain ⟨v, rfl, hv⟩ := alr1 al
  obtain ⟨a, ws, rfl, q, al2⟩ := h Z H v w hv
  exact ⟨a, ns, rfl, SqL.of (by rw [← al2.ints]; exact q), k _ _ Z H s w (Same.refl Z) rfl⟩
theorem rc_min {x : Rv} {l : Lv} {ns : List Int} (h : SqLs F μ x l (ns.map vI)) (h0 : 0 < ns.length) (s : ∀ m, m ∈ ns → (∀ y, y ∈ ns → m ≤ y) → S (.z (vI m))) : Rcb F μ (rMin K) [x] S := fun Z H w vs al Q k => by
  obtain ⟨v, rfl, hv⟩ := alr1 al
  obtain ⟨a, ws, rfl, q, al2⟩ := h Z H v w hv
  exact ⟨a, ns, rfl, SqL.of (by rw [← al2.ints]; exact q), h0, fun m h1 h2 => k _ _ Z H (s m h1 h2) w (Same.refl Z) rfl⟩
theorem rc_any {x : Rv} {l : Lv} {bs : List Bool} (h : SqLs F μ x l (bs.map vB)) (s : S (.z (vB (bs.any id)))) : Rcb F μ (rAny K) [x] S := fun Z H w vs al Q k => by
  obtain ⟨v, rfl, hv⟩ := alr1 al
  obtain ⟨a, ws, rfl, q, al2⟩ := h Z H v w hv
  exact ⟨a, bs, rfl, SqL.of (by rw [← al2.bools]; exact q), k _ _ Z H s w (Same.refl Z) rfl⟩
theorem rc_all {x : Rv} {l : Lv} {bs : List Bool} (h : SqLs F μ x l (bs.map vB)) (s : S (.z (vB (bs.all id)))) : Rcb F μ (rAll K) [x] S := fun Z H w vs al Q k => by
  obtain ⟨v, rfl, hv⟩ := alr1 al
  obtain ⟨a, ws, rfl, q, al2⟩ := h Z H v w hv
  exact ⟨a, bs, rfl, SqL.of (by rw [← al2.bools]; exact q), k _ _ Z H s w (Same.refl Z) rfl⟩
abbrev rTupOf (K : PySem.W.Frag) : List V → Hp → VK → Prop := fun xs H Q => ∃ p ys, xs = [.ref p] ∧ ((SqL K H p ys ∧ ∀ l, H l = none → Q (.ref l) (upd H l (.tup ys))) ∨ (SqT K H p ys ∧ Q (.ref p) H))
theorem rc_tuple {x : Rv} {Ps : List Rp} (h : SqLs F μ x .z Ps) (s : S (.z (TP K Ps))) : Rcb F μ (rTupOf K) [x] S := fun Z H w vs al Q k => by
  obtain ⟨v, rfl, hv⟩ := alr1 al
  obtain ⟨a, ws, rfl, q, al2⟩ := h Z H v w hv
  refine ⟨a, ws, rfl, .inl ⟨SqL.of q, fun l hl => ?_⟩⟩
  exact k _ _ _ _ s (w.new hl) (w.newZ hl) ⟨l, ws, rfl, SqT.of upd_same, al2.mono (w.newZ hl)⟩
abbrev rLstOf (K : PySem.W.Frag) : List V → Hp → VK → Prop := fun xs H Q => ∃ p ys, xs = [.ref p] ∧ (SqL K H p ys ∨ SqT K H p ys) ∧ ∀ l, H l = none → Q (.ref l) (upd H l (.lst ys))
theorem rn_list {x : Rv} {Ps : List Rp} (h : Sq K F μ x .z Ps) (s : SN Ps) : RcbN F μ (rLstOf K) [x] SN := fun Z H w vs al Q k => by
  obtain ⟨v, rfl, hv⟩ := alr1 al
  obtain ⟨a, ws, rfl, q, al2⟩ := h Z H v w hv
  exact ⟨a, ws, rfl, q.imp (fun z => SqL.of z) id, fun l hl => k l Ps Z _ s (w.newOwn hl ⟨ws, rfl, al2⟩) (Same.refl Z)⟩
/-- list(..) of what is borrowed, its items values -/
theorem rn_listE {x : Rv} {l : Lv} {us : List V} (h : Sq K F μ x l (us.map vE)) (s : SN (us.map vE)) : RcbN F μ (rLstOf K) [x] SN := fun Z H w vs al Q k => by
  obtain ⟨v, rfl, hv⟩ := alr1 al
  obtain ⟨a, ws, rfl, q, al2⟩ := h Z H v w hv
  have e := al2.ofE
  subst e
  exact ⟨a, _, rfl, q.imp (fun z => SqL.of z) id, fun l hl => k l _ Z _ s (w.newOwn hl ⟨_, rfl, Al.toE _⟩) (Same.refl Z)⟩
abbrev rIntOf : List V → Hp → VK → Prop := fun xs H Q => (∃ i, xs = [.int i] ∧ Q (.int i) H) ∨ ∃ b, xs = [.bl b] ∧ Q (.int (if b then 1 else 0)) H
end
end Eb
namespace Eb
open PySem PySem.Spec PyProof.Rows L2

/-! ### calls of the text's own defs -/
/-- where arguments may be looked at -/
structure Vw (F : Fr) (μ : Mu) (Z H : Hp) : Prop where
  z : Same Z H
  b : Same F.Hb H
  o : ∀ q, q ∈ μ → ∃ o, H q.1 = some o ∧ q.2.ok Z o
theorem Wd.vw {F : Fr} {μ : Mu} {Z H : Hp} (w : Wd F μ Z H) : Vw F μ Z H := ⟨w.zh, w.hb, fun q hq => (w.own q hq).2.2⟩
def hidA (l : Addr) (H : Hp) : Hp := fun a => if a = l then none else H a
theorem hidA_ne {l a : Addr} {H : Hp} (h : a ≠ l) : hidA l H a = H a := if_neg h
theorem hidA_same {l : Addr} {H : Hp} : Same (hidA l H) H := fun a o e => by
  unfold hidA at e
  split at e
  · cases e
  · exact e
theorem Fr.hb_dv {F : Fr} {d : Addr × Ob} (h : F.dv = some d) : F.Hb = hidA d.1 F.Hf := by
  unfold Fr.Hb
  rw [h]
  rfl
theorem Wd.vwD {F : Fr} {μ : Mu} {Z H : Hp} {d : Addr × Ob} (w : Wd F μ Z H) (hd : F.dv = some d) : Vw F μ Z (hidA d.1 H) := by
  obtain ⟨h1, h2, _, _⟩ := w.dev d hd
  have hz : Z d.1 = none := (w.zf _ h1).trans h2
  refine ⟨fun a o e => ?_, fun a o e => ?_, fun q hq => ?_⟩
  · rw [hidA_ne (fun z => by rw [z, hz] at e; cases e)]
    exact w.zh a o e
  · have ne : a ≠ d.1 := fun z => by
      rw [Fr.hb_dv hd, z] at e
      unfold hidA at e
      rw [if_pos rfl] at e
      cases e
    rw [hidA_ne ne]
    exact w.hb a o e
  · obtain ⟨_, hf, o, h3, h4⟩ := w.own q hq
    exact ⟨o, by rw [hidA_ne (fun z => h1 (by rw [← z]; exact hf))]; exact h3, h4⟩
def Cv (F : Fr) (μ : Mu) (r : Rv) (P : Rp) : Prop := ∀ Z H v, Vw F μ Z H → r.ok F Z v → P.p H v
def CvA (F : Fr) (μ : Mu) : List Rv → List Rp → Prop
  | [], [] => True
  | r :: rs, P :: Ps => Cv F μ r P ∧ CvA F μ rs Ps
  | _, _ => False
section
variable {F : Fr} {μ : Mu} {K : PySem.W.Frag}
theorem cv_z {P R : Rp} (l : P.Le R) : Cv F μ (.z P) R := fun Z H v w h => R.mono w.z (l _ _ h)
theorem cv_b {P R : Rp} (l : P.Le R) : Cv F μ (.b P) R := fun Z H v w h => R.mono w.b (l _ _ h)
theorem cv_o {l : Addr} {j : Nat} {Ps : List Rp} {R : Rp} (h : μ[j]? = some (l, obL Ps)) (e : (LS Ps).Le R) : Cv F μ (.o l) R := fun Z H v w hv => by
  obtain ⟨o, h3, vs, rfl, h4⟩ := w.o _ (List.mem_of_getElem? h)
  exact e _ _ ⟨l, vs, hv, h3, h4.mono w.z⟩
/-- a new pair of two of one's own -/
theorem cv_t {l1 l2 : Addr} {P1 P2 : Rp} {R : Rp} (h1 : Cv F μ (.o l1) P1) (h2 : Cv F μ (.o l2) P2) (e : (TP K [P1, P2]).Le R) : Cv F μ (.z (TP K [vE (.ref l1), vE (.ref l2)])) R := fun Z H v w hv => by
  obtain ⟨a, vs, rfl, q, al⟩ := hv
  refine e _ _ ⟨a, vs, rfl, same_t w.z q, ?_⟩
  match vs, al with
  | [x, y], al => exact ⟨h1 Z H x w al.1, h2 Z H y w al.2.1, trivial⟩
  | [], al => exact al.elim
  | [_], al => exact al.2.elim
  | _ :: _ :: _ :: _, al => exact al.2.2.elim
theorem cv_t12 {l1 : Addr} {R1 P1 P2 : Rp} {R : Rp} (h1 : Cv F μ (.o l1) P1) (h2 : R1.Le P2) (e : (TP K [P1, P2]).Le R) : Cv F μ (.z (TP K [vE (.ref l1), R1])) R := fun Z H v w hv => by
  obtain ⟨a, vs, rfl, q, al⟩ := hv
  refine e _ _ ⟨a, vs, rfl, same_t w.z q, ?_⟩
  match vs, al with
  | [x, y], al => exact ⟨h1 Z H x w al.1, P2.mono w.z (h2 _ _ al.2.1), trivial⟩
  | [], al => exact al.elim
  | [_], al => exact al.2.elim
  | _ :: _ :: _ :: _, al => exact al.2.2.elim
theorem CvA.al {Z H : Hp} (w : Vw F μ Z H) : ∀ {rs : List Rv} {Ps : List Rp} {vs : List V}, CvA F μ rs Ps → AlR F Z rs vs → Al H Ps vs
  | [], [], [], _, _ => trivial
  | _ :: _, _ :: _, v :: vs, c, h => ⟨c.1 Z H v w h.1, CvA.al w c.2 h.2⟩
  | [], [], _ :: _, _, h => h.elim
  | _ :: _, _ :: _, [], _, h => h.elim
  | [], _ :: _, _, c, _ => c.elim
  | _ :: _, [], _, c, _ => c.elim
end
/-- what a def does: A, the arguments may be told so; S, what comes is one of these -/
abbrev Spc := (List Rp → Prop) → (Rp → Prop) → Prop
def toSp (s : Spc) : Sp := fun vs H Q _ => ∃ (A : List Rp → Prop) (S : Rp → Prop) (Z : Hp), s A S ∧ (∀ Ps, A Ps → Al H Ps vs) ∧ Same Z H ∧
  ∀ v P Z' H', S P → Same Z Z' → Same H H' → Same Z' H' → (∀ a, H a ≠ none → Z' a = Z a) → P.p Z' v → Q v H'
/-- the same, its arguments anybody's -/
def toSpZ (s : Spc) : Sp := fun vs H Q _ => ∃ (A : List Rp → Prop) (S : Rp → Prop) (Z : Hp), s A S ∧ (∀ Ps, A Ps → Al Z Ps vs) ∧ Same Z H ∧
  ∀ v P Z' H', S P → Same Z Z' → Same H H' → Same Z' H' → (∀ a, H a ≠ none → Z' a = Z a) → P.p Z' v → Q v H'
/-- a def whose first argument is the device -/
def toSpD (ob : Ob) (s : Spc) : Sp := fun vs H Q _ => ∃ (ld : Addr) (rest : List V) (A : List Rp → Prop) (S : Rp → Prop) (Z : Hp), vs = .ref ld :: rest ∧ s A S ∧ (∀ Ps, A Ps → Al (hidA ld H) Ps rest) ∧ Same Z H ∧ Z ld = none ∧
  ∃ Zd, Same Zd Z ∧ (∃ o, H ld = some o ∧ ob.ok Zd o) ∧
  ∀ v P Z' H', S P → Same Z Z' → (∀ a o, a ≠ ld → H a = some o → H' a = some o) → Same Z' H' → (∀ a, H a ≠ none → Z' a = Z a) → (∃ o, H' ld = some o ∧ ob.ok Zd o) → P.p Z' v → Q v H'
/-- the same, its other arguments anybody's -/
def toSpDZ (ob : Ob) (s : Spc) : Sp := fun vs H Q _ => ∃ (ld : Addr) (rest : List V) (A : List Rp → Prop) (S : Rp → Prop) (Z : Hp), vs = .ref ld :: rest ∧ s A S ∧ (∀ Ps, A Ps → Al Z Ps rest) ∧ Same Z H ∧ Z ld = none ∧
  ∃ Zd, Same Zd Z ∧ (∃ o, H ld = some o ∧ ob.ok Zd o) ∧
  ∀ v P Z' H', S P → Same Z Z' → (∀ a o, a ≠ ld → H a = some o → H' a = some o) → Same Z' H' → (∀ a, H a ≠ none → Z' a = Z a) → (∃ o, H' ld = some o ∧ ob.ok Zd o) → P.p Z' v → Q v H'
/-- what anybody may hold -/
def ZvA : List Rv → List Rp → Prop
  | [], [] => True
  | .z P :: rs, R :: Rs => P.Le R ∧ ZvA rs Rs
  | _, _ => False
theorem ZvA.al {F : Fr} {Z : Hp} : ∀ {rs : List Rv} {Ps : List Rp} {vs : List V}, ZvA rs Ps → AlR F Z rs vs → Al Z Ps vs
  | [], [], [], _, _ => trivial
  | .z _ :: _, _ :: _, v :: vs, c, h => ⟨c.1 _ _ h.1, ZvA.al c.2 h.2⟩
  | [], [], _ :: _, _, h => h.elim
  | .z _ :: _, _ :: _, [], _, h => h.elim
  | [], _ :: _, _, c, _ => c.elim
  | .z _ :: _, [], _, c, _ => c.elim
  | .b _ :: _, [], _, c, _ => c.elim
  | .b _ :: _, _ :: _, _, c, _ => c.elim
  | .o _ :: _, [], _, c, _ => c.elim
  | .o _ :: _, _ :: _, _, c, _ => c.elim
  | .dv :: _, [], _, c, _ => c.elim
  | .dv :: _, _ :: _, _, c, _ => c.elim

section
variable {K : PySem.W.Frag} {F : Fr} {Γ : List En} {μ : Mu} {ta tb te : TE} {tr : TA} {t u : TT} {S : Rv → Prop} {SN : List Rp → Prop} {SB : Bool → Prop} {E : XK}
theorem te_call {s : Spc} (h : TAv F Γ μ tr (fun rs => s (CvA F μ rs) (fun P => S (.z P)))) : TEv F Γ μ (tCall (toSp s) [] E tr) S := fun σ Z H w e Q k => h σ Z H w e _ fun vs rs Z1 H1 s1 w1 z1 p1 => by
  show toSp s (vs ++ []) H1 Q E
  rw [List.append_nil]
  exact ⟨_, _, Z1, s1, fun Ps c => c.al w1.vw p1, w1.zh, fun v P Z2 H2 s2 z2 h2 zh n p2 => k v (.z P) Z2 H2 s2 (w1.step z2 h2 zh n) (z1.trans z2) p2⟩
theorem te_callZ {s : Spc} (h : TAv F Γ μ tr (fun rs => s (ZvA rs) (fun P => S (.z P)))) : TEv F Γ μ (tCall (toSpZ s) [] E tr) S := fun σ Z H w e Q k => h σ Z H w e _ fun vs rs Z1 H1 s1 w1 z1 p1 => by
  show toSpZ s (vs ++ []) H1 Q E
  rw [List.append_nil]
  exact ⟨_, _, Z1, s1, fun Ps c => c.al p1, w1.zh, fun v P Z2 H2 s2 z2 h2 zh n p2 => k v (.z P) Z2 H2 s2 (w1.step z2 h2 zh n) (z1.trans z2) p2⟩
theorem te_callD {s : Spc} {d : Addr × Ob} (hd : F.dv = some d) (h : TAv F Γ μ tr (fun rs => ∃ rs', rs = .dv :: rs' ∧ s (CvA F μ rs') (fun P => S (.z P)))) : TEv F Γ μ (tCall (toSpD d.2 s) [] E tr) S := fun σ Z H w e Q k => h σ Z H w e _ fun vs rs Z1 H1 s1 w1 z1 p1 => by
  obtain ⟨rs', rfl, s1⟩ := s1
  show toSpD d.2 s (vs ++ []) H1 Q E
  rw [List.append_nil]
  match vs, p1 with
  | v :: vs, p1 =>
    obtain ⟨⟨d', h1, rfl⟩, p2⟩ := p1
    rw [hd] at h1
    cases h1
    obtain ⟨k1, k2, ks, kn⟩ := w1.dev d hd
    exact ⟨d.1, vs, _, _, Z1, rfl, s1, fun Ps c => c.al (w1.vwD hd) p2, w1.zh, (w1.zf _ k1).trans k2, F.Zd, ks.trans w1.z0, kn, fun v P Z2 H2 s2 z2 h2 zh n hn p3 =>
      k v (.z P) Z2 H2 s2 (w1.stepD hd z2 h2 zh n hn) (z1.trans z2) p3⟩
  | [], p1 => exact p1.elim
theorem te_callDZ {s : Spc} {d : Addr × Ob} (hd : F.dv = some d) (h : TAv F Γ μ tr (fun rs => ∃ rs', rs = .dv :: rs' ∧ s (ZvA rs') (fun P => S (.z P)))) : TEv F Γ μ (tCall (toSpDZ d.2 s) [] E tr) S := fun σ Z H w e Q k => h σ Z H w e _ fun vs rs Z1 H1 s1 w1 z1 p1 => by
  obtain ⟨rs', rfl, s1⟩ := s1
  show toSpDZ d.2 s (vs ++ []) H1 Q E
  rw [List.append_nil]
  match vs, p1 with
  | v :: vs, p1 =>
    obtain ⟨⟨d', h1, rfl⟩, p2⟩ := p1
    rw [hd] at h1
    cases h1
    obtain ⟨k1, k2, ks, kn⟩ := w1.dev d hd
    exact ⟨d.1, vs, _, _, Z1, rfl, s1, fun Ps c => c.al p2, w1.zh, (w1.zf _ k1).trans k2, F.Zd, ks.trans w1.z0, kn, fun v P Z2 H2 s2 z2 h2 zh n hn p3 =>
      k v (.z P) Z2 H2 s2 (w1.stepD hd z2 h2 zh n hn) (z1.trans z2) p3⟩
  | [], p1 => exact p1.elim

end
/-! ### statements -/
structure TD where
  nx : List En → Mu → Prop
  rt : Rp → Prop
  bk : List En → Mu → Prop := fun _ _ => False
  ct : List En → Mu → Prop := fun _ _ => False
structure Tk (F : Fr) (Z : Hp) (D : TD) (D' : Ends) : Prop where
  nx : ∀ Γ μ σ Z' H, D.nx Γ μ → Wd F μ Z' H → EnvOk F Z' Γ σ → Same Z Z' → D'.nx σ H
  rt : ∀ P v μ Z' H, D.rt P → Wd F μ Z' H → Same Z Z' → P.p Z' v → D'.rt v H
  bk : ∀ Γ μ σ Z' H, D.bk Γ μ → Wd F μ Z' H → EnvOk F Z' Γ σ → Same Z Z' → D'.bk σ H
  ct : ∀ Γ μ σ Z' H, D.ct Γ μ → Wd F μ Z' H → EnvOk F Z' Γ σ → Same Z Z' → D'.ct σ H
theorem Tk.mono {F : Fr} {Z Z' : Hp} {D : TD} {D' : Ends} (e : Same Z Z') (t : Tk F Z D D') : Tk F Z' D D' :=
  ⟨fun Γ μ σ Z2 H h w n z => t.nx Γ μ σ Z2 H h w n (e.trans z), fun P v μ Z2 H h w z => t.rt P v μ Z2 H h w (e.trans z),
    fun Γ μ σ Z2 H h w n z => t.bk Γ μ σ Z2 H h w n (e.trans z), fun Γ μ σ Z2 H h w n z => t.ct Γ μ σ Z2 H h w n (e.trans z)⟩
def TSv (F : Fr) (Γ : List En) (μ : Mu) (ts : TS) (D : TD) : Prop := ∀ σ Z H, Wd F μ Z H → EnvOk F Z Γ σ → ∀ D', Tk F Z D D' → ts D' σ H
def TGv (F : Fr) (Γ : List En) (μ : Mu) (g : TG) (n : En) (S : List En → Prop) : Prop := ∀ σ Z H v, Wd F μ Z H → EnvOk F Z Γ σ → EnOk F Z n (some v) → ∀ Q : L2.St → Hp → Prop,
  (∀ Γ' σ' Z' H', S Γ' → Wd F μ Z' H' → EnvOk F Z' Γ' σ' → Same Z Z' → Q σ' H') → g v σ H Q
def Rv.en : Rv → En
  | .z P => .rp P
  | .b P => .bo P
  | .o l => .ow l
  | .dv => .dv
theorem Rv.enok {F : Fr} {Z : Hp} {v : V} : ∀ {r : Rv}, r.ok F Z v → EnOk F Z r.en (some v)
  | .z _, h => ⟨v, rfl, h⟩
  | .b _, h => ⟨v, rfl, h⟩
  | .o _, h => congrArg some h
  | .dv, ⟨d, h1, h2⟩ => ⟨d, h1, congrArg some h2⟩
section
variable {K : PySem.W.Frag} {F : Fr} {Γ : List En} {μ : Mu} {ta tb te : TE} {tr : TA} {t u : TT} {S : Rv → Prop} {SN : List Rp → Prop} {SB : Bool → Prop} {E : XK}
variable {D : TD} {t1 t2 ts tb2 : TS} {g : TG} {tl : TE}
theorem ts_seq (h : TSv F Γ μ t1 { D with nx := fun Γ1 μ1 => TSv F Γ1 μ1 t2 D }) : TSv F Γ μ (tSeq t1 t2) D := fun σ Z H w e D' k =>
  h σ Z H w e { D' with nx := t2 D' } ⟨fun Γ1 μ1 σ1 Z1 H1 h1 w1 e1 z1 => h1 σ1 Z1 H1 w1 e1 D' (k.mono z1), k.rt, k.bk, k.ct⟩
theorem ts_next (h : D.nx Γ μ) : TSv F Γ μ tNext D := fun σ Z H w e D' k => k.nx _ _ _ _ _ h w e (Same.refl Z)
theorem ts_imp {D1 : TD} (h : TSv F Γ μ ts D1) (n : ∀ Γ1 μ1, D1.nx Γ1 μ1 → D.nx Γ1 μ1) (r : ∀ P, D1.rt P → D.rt P) (b : ∀ Γ1 μ1, D1.bk Γ1 μ1 → D.bk Γ1 μ1) (c : ∀ Γ1 μ1, D1.ct Γ1 μ1 → D.ct Γ1 μ1) : TSv F Γ μ ts D := fun σ Z H w e D' k =>
  h σ Z H w e D' ⟨fun Γ1 μ1 σ1 Z1 H1 h1 => k.nx Γ1 μ1 σ1 Z1 H1 (n _ _ h1), fun P v μ1 Z1 H1 h1 => k.rt P v μ1 Z1 H1 (r _ h1), fun Γ1 μ1 σ1 Z1 H1 h1 => k.bk Γ1 μ1 σ1 Z1 H1 (b _ _ h1), fun Γ1 μ1 σ1 Z1 H1 h1 => k.ct Γ1 μ1 σ1 Z1 H1 (c _ _ h1)⟩
theorem ts_asg (h : TEv F Γ μ te (fun r => TGv F Γ μ g r.en (fun Γ1 => D.nx Γ1 μ))) : TSv F Γ μ (tAsg te g) D := fun σ Z H w e D' k =>
  h σ Z H w e _ fun v r Z1 H1 s1 w1 z1 p1 => s1 σ Z1 H1 v w1 (e.mono z1) (Rv.enok p1) _ fun Γ2 σ2 Z2 H2 s2 w2 e2 z2 => k.nx _ _ _ _ _ s2 w2 e2 (z1.trans z2)
theorem tg_name {i : Nat} {n : En} {S : List En → Prop} (h : S (Γ.set i n)) : TGv F Γ μ (gName i) n S := fun σ Z H v w e p Q k => k _ _ Z H h w (e.set p i) (Same.refl Z)
theorem ts_set {i : Nat} (h : TEv F Γ μ te (fun r => D.nx (Γ.set i r.en) μ)) : TSv F Γ μ (tAsg te (gName i)) D := ts_asg (te_imp h fun _ s => tg_name s)
theorem ts_setN {i : Nat} (h : TNv F Γ μ te (fun Ps => ∀ l, D.nx (Γ.set i (.ow l)) ((l, obL Ps) :: μ))) : TSv F Γ μ (tAsg te (gName i)) D := fun σ Z H w e D' k =>
  h σ Z H w e _ fun l Ps Z1 H1 s1 w1 z1 => k.nx _ _ _ _ _ (s1 l) w1 (EnvOk.set (n := .ow l) (o := some (.ref l)) rfl i (e.mono z1)) z1
theorem ts_drop (h : TEv F Γ μ te (fun _ => D.nx Γ μ)) : TSv F Γ μ (tDrop te) D := fun σ Z H w e D' k => h σ Z H w e _ fun v r Z1 H1 s1 w1 z1 p1 => k.nx _ _ _ _ _ s1 w1 (e.mono z1) z1
theorem ts_ret (h : TEv F Γ μ te (fun r => ∃ P, r = .z P ∧ D.rt P)) : TSv F Γ μ (tRet te) D := fun σ Z H w e D' k => h σ Z H w e _ fun v r Z1 H1 s1 w1 z1 p1 => by
  obtain ⟨P, rfl, s⟩ := s1
  exact k.rt P v _ _ _ s w1 z1 p1
/-- a list of one's own is handed back -/
theorem ts_retO {i j : Nat} {l : Addr} {Ps : List Rp} (hi : Γ[i]? = some (.ow l)) (hj : μ[j]? = some (l, obL Ps)) (h : D.rt (LS Ps)) : TSv F Γ μ (tRet (tVar i)) D := fun σ Z H w e D' k => by
  obtain ⟨o, h1, h2⟩ := e.get hi
  cases h2
  have w2 : Wd F [(l, obL Ps)] Z H := w.drop (List.singleton_sublist.mpr (List.mem_of_getElem? hj))
  obtain ⟨u, ⟨vs, rfl, al⟩, sm, w3⟩ := w2.free
  exact ⟨.ref l, h1, k.rt _ _ _ _ _ h w3 sm ⟨l, vs, rfl, upd_same, al.mono sm⟩⟩
/-- a list of one's own is anybody's from here on -/
theorem ts_free {i : Nat} {l : Addr} {Ps : List Rp} {μ' : Mu} (hi : Γ[i]? = some (.ow l)) (hj : μ.Perm ((l, obL Ps) :: μ')) (h : TSv F (Γ.set i (.rp (LS Ps))) μ' ts D) : TSv F Γ μ ts D := fun σ Z H w e D' k => by
  obtain ⟨u, ⟨vs, rfl, al⟩, sm, w3⟩ := (w.perm hj.symm).free
  refine h σ _ H w3 ((e.mono sm).setG i fun o ho => ?_) D' (k.mono sm)
  obtain ⟨o2, h1, h2⟩ := e.get hi
  rw [ho] at h1
  cases h1
  cases h2
  exact ⟨.ref l, rfl, l, vs, rfl, upd_same, al.mono sm⟩
theorem ts_no {i : Nat} (h : TSv F (Γ.set i .no) μ ts D) : TSv F Γ μ ts D := fun σ Z H w e D' k => h σ Z H w (e.setG i fun _ _ => trivial) D' k
theorem ts_never : False → TSv F Γ μ ts D := fun z => z.elim
theorem ts_if (h : TTv F Γ μ t (fun b => (b = true → TSv F Γ μ t1 D) ∧ (b = false → TSv F Γ μ t2 D))) : TSv F Γ μ (tIfS t t1 t2) D := fun σ Z H w e D' k => h σ Z H w e _ fun b Z1 H1 s1 w1 z1 => by
  cases b with
  | true => exact s1.1 rfl σ Z1 H1 w1 (e.mono z1) D' (k.mono z1)
  | false => exact s1.2 rfl σ Z1 H1 w1 (e.mono z1) D' (k.mono z1)
/-- the ways of an if join -/
theorem ts_join (J : List En → Mu → Prop) (h : TSv F Γ μ ts { D with nx := J }) (n : ∀ Γ1 μ1, J Γ1 μ1 → D.nx Γ1 μ1) : TSv F Γ μ ts D := ts_imp h n (fun _ z => z) (fun _ _ z => z) fun _ _ z => z
theorem ts_aug {i : Nat} {f : Int → Int → Int} {a : Int} (hi : Γ[i]? = some (.rp (vI a))) (h : TEv F Γ μ te (fun r => ∃ b, r = .z (vI b) ∧ D.nx (Γ.set i (.rp (vI (f a b)))) μ)) : TSv F Γ μ (tAug i te (ipI f)) D := fun σ Z H w e D' k => by
  obtain ⟨o, h1, v, rfl, hv⟩ := e.get hi
  have hv2 : v = .int a := hv
  subst hv2
  refine ⟨_, h1, h σ Z H w e _ fun v r Z1 H1 s1 w1 z1 p1 => ?_⟩
  obtain ⟨b, rfl, s⟩ := s1
  exact ⟨a, b, rfl, p1, k.nx _ _ _ _ _ s w1 (EnvOk.set (n := .rp (vI (f a b))) (o := some (.int (f a b))) (show EnOk F Z1 (.rp (vI (f a b))) (some (.int (f a b))) from ⟨_, rfl, rfl⟩) i (e.mono z1)) z1⟩
/-- x[i] = e, x one's own -/
theorem ts_item {i j : Nat} {ti : TE} {l : Addr} {Ps : List Rp} (hi : Γ[i]? = some (.ow l)) (hj : μ[j]? = some (l, obL Ps)) (h : TEv F Γ μ te (fun r => ∃ P, Hld [r] [P] ∧ TEv F Γ μ ti (fun q => ∃ (n : Int) (jj : Nat), q = .z (vI n) ∧ ixN Ps.length n = some jj ∧ D.nx Γ (μ.set j (l, obL (Ps.set jj P)))))) :
    TSv F Γ μ (tAsg te (gSub (tVar i) ti rSetL)) D := fun σ Z H w e D' k => h σ Z H w e _ fun v r Z1 H1 s1 w1 z1 p1 => by
  obtain ⟨P, hh, s1⟩ := s1
  obtain ⟨o, h1, h2⟩ := e.get hi
  cases h2
  refine ⟨.ref l, h1, s1 σ Z1 H1 w1 (e.mono z1) _ fun v2 r2 Z2 H2 s2 w2 z2 p2 => ?_⟩
  obtain ⟨n, jj, rfl, hx, s⟩ := s2
  have e2 : v2 = .int n := p2
  subst e2
  obtain ⟨_, _, o3, h3, vs, rfl, al⟩ := w2.own _ (List.mem_of_getElem? hj)
  have hp : P.p Z2 v := P.mono z2 (hh.al (vs := [v]) ⟨p1, trivial⟩).1
  refine ⟨l, vs, n, jj, rfl, rfl, h3, by rw [← al.length]; exact hx, ?_⟩
  exact k.nx _ _ _ _ _ s (w2.mut hj ⟨_, rfl, al.set hp jj⟩) (e.mono (z1.trans z2)) (z1.trans z2)
/-- x.append(e), x one's own -/
theorem ts_app {i j : Nat} {l : Addr} {Ps : List Rp} (hi : Γ[i]? = some (.ow l)) (hj : μ[j]? = some (l, obL Ps)) (hl : Ps.length < 100000) (h : TEv F Γ μ te (fun r => ∃ P, Hld [r] [P] ∧ D.nx Γ (μ.set j (l, obL (Ps ++ [P]))))) :
    TSv F Γ μ (tDrop (tBM K "list" rAppend (tVar i) (tCons te tNil))) D := fun σ Z H w e D' k => by
  obtain ⟨o, h1, h2⟩ := e.get hi
  cases h2
  obtain ⟨_, _, o3, h3, vs0, rfl, al0⟩ := w.own _ (List.mem_of_getElem? hj)
  refine ⟨.ref l, h1, .inl ⟨rfl, _, SqL.of h3⟩, h σ Z H w e _ fun v r Z1 H1 s1 w1 z1 p1 => ?_⟩
  obtain ⟨P, hh, s⟩ := s1
  obtain ⟨_, _, o3, h3, vs, rfl, al⟩ := w1.own _ (List.mem_of_getElem? hj)
  refine ⟨l, vs, v, rfl, rfl, h3, by rw [← al.length]; exact sz_lt hl, ?_⟩
  exact k.nx _ _ _ _ _ s (w1.mut hj ⟨_, rfl, al.append (hh.al (vs := [v]) ⟨p1, trivial⟩)⟩) (e.mono z1) z1
/-- x.extend(e), x one's own -/
theorem ts_ext {i j : Nat} {l : Addr} {Ps : List Rp} (hi : Γ[i]? = some (.ow l)) (hj : μ[j]? = some (l, obL Ps)) (h : TEv F Γ μ te (fun r => ∃ Rs, r = .z (LS Rs) ∧ Ps.length + Rs.length < 100000 ∧ D.nx Γ (μ.set j (l, obL (Ps ++ Rs))))) :
    TSv F Γ μ (tDrop (tBM K "list" rExtend (tVar i) (tCons te tNil))) D := fun σ Z H w e D' k => by
  obtain ⟨o, h1, h2⟩ := e.get hi
  cases h2
  obtain ⟨_, _, o3, h3, vs0, rfl, al0⟩ := w.own _ (List.mem_of_getElem? hj)
  refine ⟨.ref l, h1, .inl ⟨rfl, _, SqL.of h3⟩, h σ Z H w e _ fun v r Z1 H1 s1 w1 z1 p1 => ?_⟩
  obtain ⟨Rs, rfl, hl, s⟩ := s1
  obtain ⟨a, ws, rfl, h5, al5⟩ := p1
  obtain ⟨_, _, o3, h3, vs, rfl, al⟩ := w1.own _ (List.mem_of_getElem? hj)
  refine ⟨l, a, vs, ws, rfl, rfl, h3, w1.zh _ _ h5, by rw [← al.length, ← al5.length]; exact sz_le (Nat.le_of_lt hl), ?_⟩
  exact k.nx _ _ _ _ _ s (w1.mut hj ⟨_, rfl, al.append al5⟩) (e.mono z1) z1
/-- a, b = a tuple -/
theorem tg_tup2 {i j : Nat} {lv : Lv} {P1 P2 : Rp} {S : List En → Prop} (h : S ((Γ.set i (lv.en P1)).set j (lv.en P2))) : TGv F Γ μ (gTup K 2 (gCons (gName i) (gCons (gName j) gNil))) (lv.en (TP K [P1, P2])) S := fun σ Z H v w e p Q k => by
  have p2 : (TP K [P1, P2]).p (lv.hp F Z) v := by
    cases lv with
    | z =>
      obtain ⟨v', e1, h1⟩ := p
      cases e1
      exact h1
    | b =>
      obtain ⟨v', e1, h1⟩ := p
      cases e1
      exact h1
  obtain ⟨a, vs, rfl, q, al⟩ := p2
  match vs, al with
  | [x, y], al =>
    have q2 : SqT K H a [x, y] := by
      cases lv with
      | z => exact same_t w.zh q
      | b => exact same_t w.hb q
    exact ⟨a, _, rfl, q2, rfl, _, _, rfl, _, _, rfl, rfl, k _ _ Z H h w ((e.set (Lv.enok al.1) i).set (Lv.enok al.2.1) j) (Same.refl Z)⟩
  | [], al => exact al.elim
  | [_], al => exact al.2.elim
  | _ :: _ :: _ :: _, al => exact al.2.2.elim
theorem tg_tup3 {i j m : Nat} {lv : Lv} {P1 P2 P3 : Rp} {S : List En → Prop} (h : S (((Γ.set i (lv.en P1)).set j (lv.en P2)).set m (lv.en P3))) : TGv F Γ μ (gTup K 3 (gCons (gName i) (gCons (gName j) (gCons (gName m) gNil)))) (lv.en (TP K [P1, P2, P3])) S := fun σ Z H v w e p Q k => by
  have p2 : (TP K [P1, P2, P3]).p (lv.hp F Z) v := by
    cases lv with
    | z =>
      obtain ⟨v', e1, h1⟩ := p
      cases e1
      exact h1
    | b =>
      obtain ⟨v', e1, h1⟩ := p
      cases e1
      exact h1
  obtain ⟨a, vs, rfl, q, al⟩ := p2
  match vs, al with
  | [x, y, y2], al =>
    have q2 : SqT K H a [x, y, y2] := by
      cases lv with
      | z => exact same_t w.zh q
      | b => exact same_t w.hb q
    exact ⟨a, _, rfl, q2, rfl, _, _, rfl, _, _, rfl, _, _, rfl, rfl, k _ _ Z H h w (((e.set (Lv.enok al.1) i).set (Lv.enok al.2.1) j).set (Lv.enok al.2.2.1) m) (Same.refl Z)⟩
  | [], al => exact al.elim
  | [_], al => exact al.2.elim
  | [_, _], al => exact al.2.2.elim
  | _ :: _ :: _ :: _ :: _, al => exact al.2.2.2.elim

end
/-! ### loops -/
/-- a list, a tuple that stays -/
inductive IsL : Rv → Lv → List Rp → Prop
  | z (Ps : List Rp) : IsL (.z (LS Ps)) .z Ps
  | b (Ps : List Rp) : IsL (.b (LS Ps)) .b Ps
inductive IsT (K : PySem.W.Frag) : Rv → Lv → List Rp → Prop
  | z (Ps : List Rp) : IsT K (.z (TP K Ps)) .z Ps
  | b (Ps : List Rp) : IsT K (.b (TP K Ps)) .b Ps
abbrev TurnD (D : TD) (I : List En → Mu → Prop) : TD := { nx := I, rt := D.rt, bk := D.nx, ct := I }
section
variable {K : PySem.W.Frag} {F : Fr} {Γ : List En} {μ : Mu} {ta tb te : TE} {tr : TA} {t u : TT} {S : Rv → Prop} {SN : List Rp → Prop} {SB : Bool → Prop} {E : XK}
variable {D : TD} {t1 t2 ts tb2 : TS} {g : TG} {tl : TE}
theorem Wd.lv {Z H : Hp} (w : Wd F μ Z H) : ∀ l : Lv, Same (l.hp F Z) H
  | .z => w.zh
  | .b => w.hb
theorem IsL.at {r : Rv} {l : Lv} {Ps : List Rp} (h : IsL r l Ps) {Z : Hp} {v : V} (o : r.ok F Z v) : ∃ a vs, v = .ref a ∧ l.hp F Z a = some (.lst vs) ∧ Al (l.hp F Z) Ps vs := by
  cases h with
  | z => exact o
  | b => exact o
theorem IsT.at {r : Rv} {l : Lv} {Ps : List Rp} (h : IsT K r l Ps) {Z : Hp} {v : V} (o : r.ok F Z v) : ∃ a vs, v = .ref a ∧ SqT K (l.hp F Z) a vs ∧ Al (l.hp F Z) Ps vs := by
  cases h with
  | z => exact o
  | b => exact o
theorem ts_forL (h : TEv F Γ μ tl (fun x => ∃ l Ps, IsL x l Ps ∧ ∃ I : Nat → List En → Mu → Prop, I 0 Γ μ ∧
    (∀ i Γ1 μ1 P, Ps[i]? = some P → I i Γ1 μ1 → TGv F Γ1 μ1 g (l.en P) (fun Γ2 => TSv F Γ2 μ1 tb2 (TurnD D (I (i + 1))))) ∧ ∀ Γ1 μ1, I Ps.length Γ1 μ1 → D.nx Γ1 μ1)) : TSv F Γ μ (tFor (iList K tl) g tb2) D := fun σ Z H w e D' k =>
  h σ Z H w e _ fun v x Z1 H1 s1 w1 z1 p1 => by
    obtain ⟨l, Ps, hx, I, i0, st, en⟩ := s1
    obtain ⟨a, vs, rfl, q, al⟩ := hx.at p1
    have rd : ∀ {μ2 : Mu} {Z2 H2 : Hp}, Wd F μ2 Z2 H2 → Same Z1 Z2 → H2 a = some (.lst vs) := fun w2 z2 => w2.lv l a _ (Lv.mono z2 a _ q)
    refine ⟨a, rfl, ⟨vs, SqL.of (rd w1 (Same.refl Z1))⟩, for_list (K := K) (a := a) (xs := vs) (fun i σ2 H2 => ∃ Γ2 μ2 Z2, I i Γ2 μ2 ∧ Wd F μ2 Z2 H2 ∧ EnvOk F Z2 Γ2 σ2 ∧ Same Z1 Z2)
      ⟨Γ, μ, Z1, i0, w1, e.mono z1, Same.refl Z1⟩ (fun i σ2 H2 _ ⟨Γ2, μ2, Z2, _, w2, _, z2⟩ => SqL.of (rd w2 z2)) ?_ ?_⟩
    · rintro i x σ2 H2 hi ⟨Γ2, μ2, Z2, i2, w2, e2, z2⟩
      obtain ⟨P, hP, px⟩ := al.get' hi
      refine st i Γ2 μ2 P hP i2 σ2 Z2 H2 x w2 e2 (Lv.enok (P.mono (Lv.mono z2) px)) _ fun Γ3 σ3 Z3 H3 s3 w3 e3 z3 => ?_
      refine s3 σ3 Z3 H3 w3 e3 _ ⟨?_, ?_, ?_, ?_⟩
      · exact fun Γ4 μ4 σ4 Z4 H4 i4 w4 e4 z4 => ⟨Γ4, μ4, Z4, i4, w4, e4, (z2.trans z3).trans z4⟩
      · exact fun P v μ4 Z4 H4 r w4 z4 p4 => k.rt P v μ4 Z4 H4 r w4 (((z1.trans z2).trans z3).trans z4) p4
      · exact fun Γ4 μ4 σ4 Z4 H4 i4 w4 e4 z4 => k.nx _ _ _ _ _ i4 w4 e4 (((z1.trans z2).trans z3).trans z4)
      · exact fun Γ4 μ4 σ4 Z4 H4 i4 w4 e4 z4 => ⟨Γ4, μ4, Z4, i4, w4, e4, (z2.trans z3).trans z4⟩
    · rintro σ2 H2 ⟨Γ2, μ2, Z2, i2, w2, e2, z2⟩
      rw [← al.length] at i2
      exact k.nx _ _ _ _ _ (en _ _ i2) w2 e2 (z1.trans z2)
theorem ts_forR1 (h : TAv F Γ μ tr (fun xs => ∃ n : Int, xs = [.z (vI n)] ∧ -100000 < n ∧ n < 100000 ∧ ∃ I : Nat → List En → Mu → Prop, I 0 Γ μ ∧
    (∀ (i : Nat) Γ1 μ1, (i : Int) < n → I i Γ1 μ1 → TGv F Γ1 μ1 g (.rp (vI (i : Nat))) (fun Γ2 => TSv F Γ2 μ1 tb2 (TurnD D (I (i + 1))))) ∧ ∀ Γ1 μ1, I n.toNat Γ1 μ1 → D.nx Γ1 μ1) ) :
    TSv F Γ μ (tFor (iRng1 tr) g tb2) D := fun σ Z H w e D' k =>
  h σ Z H w e _ fun vs xs Z1 H1 s1 w1 z1 p1 => by
    obtain ⟨n, rfl, hn0, hn, I, i0, st, en⟩ := s1
    obtain ⟨v, rfl, hv⟩ := alr1 p1
    have hv2 : v = .int n := hv
    subst hv2
    · refine ⟨n, rfl, by omega, by omega, for_range (lo := 0) (n := n.toNat) (fun i σ2 H2 => ∃ Γ2 μ2 Z2, I i Γ2 μ2 ∧ Wd F μ2 Z2 H2 ∧ EnvOk F Z2 Γ2 σ2 ∧ Same Z1 Z2) ⟨Γ, μ, Z1, i0, w1, e.mono z1, Same.refl Z1⟩ ?_ ?_⟩
      · rintro i σ2 H2 hi ⟨Γ2, μ2, Z2, i2, w2, e2, z2⟩
        refine st i Γ2 μ2 (by omega) i2 σ2 Z2 H2 _ w2 e2 ⟨_, rfl, by show V.int (0 + (i : Int)) = V.int (i : Int); rw [Int.zero_add]⟩ _ fun Γ3 σ3 Z3 H3 s3 w3 e3 z3 => ?_
        refine s3 σ3 Z3 H3 w3 e3 _ ⟨?_, ?_, ?_, ?_⟩
        · exact fun Γ4 μ4 σ4 Z4 H4 i4 w4 e4 z4 => ⟨Γ4, μ4, Z4, i4, w4, e4, (z2.trans z3).trans z4⟩
        · exact fun P v μ4 Z4 H4 r w4 z4 p4 => k.rt P v μ4 Z4 H4 r w4 (((z1.trans z2).trans z3).trans z4) p4
        · exact fun Γ4 μ4 σ4 Z4 H4 i4 w4 e4 z4 => k.nx _ _ _ _ _ i4 w4 e4 (((z1.trans z2).trans z3).trans z4)
        · exact fun Γ4 μ4 σ4 Z4 H4 i4 w4 e4 z4 => ⟨Γ4, μ4, Z4, i4, w4, e4, (z2.trans z3).trans z4⟩
      · rintro σ2 H2 ⟨Γ2, μ2, Z2, i2, w2, e2, z2⟩
        exact k.nx _ _ _ _ _ (en _ _ i2) w2 e2 (z1.trans z2)
end
end Eb
namespace Eb
open PySem PySem.Spec PyProof.Rows L2
section
variable {K : PySem.W.Frag} {F : Fr} {Γ : List En} {μ : Mu} {ta tb te : TE} {tr : TA} {t u tt : TT} {S : Rv → Prop} {SN : List Rp → Prop} {SB : Bool → Prop} {E : XK}
variable {D : TD} {t1 t2 ts tb2 : TS} {g : TG} {tl : TE}
theorem ts_forR2 (h : TAv F Γ μ tr (fun xs => ∃ a n : Int, xs = [.z (vI a), .z (vI n)] ∧ -100000 < a ∧ a < 100000 ∧ -100000 < n ∧ n < 100000 ∧ ∃ I : Nat → List En → Mu → Prop, I 0 Γ μ ∧
    (∀ (i : Nat) Γ1 μ1, a + (i : Int) < n → I i Γ1 μ1 → TGv F Γ1 μ1 g (.rp (vI (a + (i : Nat)))) (fun Γ2 => TSv F Γ2 μ1 tb2 (TurnD D (I (i + 1))))) ∧ ∀ Γ1 μ1, I (n - a).toNat Γ1 μ1 → D.nx Γ1 μ1) ) :
    TSv F Γ μ (tFor (iRng2 tr) g tb2) D := fun σ Z H w e D' k =>
  h σ Z H w e _ fun vs xs Z1 H1 s1 w1 z1 p1 => by
    obtain ⟨a, n, rfl, ha0, ha1, hn0, hn, I, i0, st, en⟩ := s1
    obtain ⟨v, v', rfl, hv, hv'⟩ := alr2 p1
    have hv2 : v = .int a := hv
    have hv3 : v' = .int n := hv'
    subst hv2 hv3
    refine ⟨a, n, rfl, ⟨by omega, by omega, by omega, by omega⟩, for_range (lo := a) (n := (n - a).toNat) (fun i σ2 H2 => ∃ Γ2 μ2 Z2, I i Γ2 μ2 ∧ Wd F μ2 Z2 H2 ∧ EnvOk F Z2 Γ2 σ2 ∧ Same Z1 Z2) ⟨Γ, μ, Z1, i0, w1, e.mono z1, Same.refl Z1⟩ ?_ ?_⟩
    · rintro i σ2 H2 hi ⟨Γ2, μ2, Z2, i2, w2, e2, z2⟩
      refine st i Γ2 μ2 (by omega) i2 σ2 Z2 H2 _ w2 e2 ⟨_, rfl, rfl⟩ _ fun Γ3 σ3 Z3 H3 s3 w3 e3 z3 => ?_
      refine s3 σ3 Z3 H3 w3 e3 _ ⟨?_, ?_, ?_, ?_⟩
      · exact fun Γ4 μ4 σ4 Z4 H4 i4 w4 e4 z4 => ⟨Γ4, μ4, Z4, i4, w4, e4, (z2.trans z3).trans z4⟩
      · exact fun P v μ4 Z4 H4 r w4 z4 p4 => k.rt P v μ4 Z4 H4 r w4 (((z1.trans z2).trans z3).trans z4) p4
      · exact fun Γ4 μ4 σ4 Z4 H4 i4 w4 e4 z4 => k.nx _ _ _ _ _ i4 w4 e4 (((z1.trans z2).trans z3).trans z4)
      · exact fun Γ4 μ4 σ4 Z4 H4 i4 w4 e4 z4 => ⟨Γ4, μ4, Z4, i4, w4, e4, (z2.trans z3).trans z4⟩
    · rintro σ2 H2 ⟨Γ2, μ2, Z2, i2, w2, e2, z2⟩
      exact k.nx _ _ _ _ _ (en _ _ i2) w2 e2 (z1.trans z2)
/-- for i, x in enumerate(a list) -/
theorem ts_forE {i j : Nat} (h : TAv F Γ μ tr (fun xs => ∃ x l Ps, xs = [x] ∧ IsL x l Ps ∧ ∃ I : Nat → List En → Mu → Prop, I 0 Γ μ ∧
    (∀ (n : Nat) Γ1 μ1 P, Ps[n]? = some P → I n Γ1 μ1 → TSv F ((Γ1.set i (.rp (vI (n : Nat)))).set j (l.en P)) μ1 tb2 (TurnD D (I (n + 1)))) ∧ ∀ Γ1 μ1, I Ps.length Γ1 μ1 → D.nx Γ1 μ1)) :
    TSv F Γ μ (tFor (iEnum K tr) (gTup K 2 (gCons (gName i) (gCons (gName j) gNil))) tb2) D := fun σ Z H w e D' k =>
  h σ Z H w e _ fun vs xs Z1 H1 s1 w1 z1 p1 => by
    obtain ⟨x, l, Ps, rfl, hx, I, i0, st, en⟩ := s1
    obtain ⟨v, rfl, hv⟩ := alr1 p1
    obtain ⟨a, vs, rfl, q, al⟩ := hx.at hv
    have rd : ∀ {μ2 : Mu} {Z2 H2 : Hp}, Wd F μ2 Z2 H2 → Same Z1 Z2 → H2 a = some (.lst vs) := fun w2 z2 => w2.lv l a _ (Lv.mono z2 a _ q)
    refine ⟨a, vs, rfl, SqL.of (rd w1 (Same.refl Z1)), for_it (walk_enum (K := K) (a := a) (xs := vs)) (fun i σ2 H2 => ∃ Γ2 μ2 Z2, I i Γ2 μ2 ∧ Wd F μ2 Z2 H2 ∧ EnvOk F Z2 Γ2 σ2 ∧ Same Z1 Z2)
      ⟨Γ, μ, Z1, i0, w1, e.mono z1, Same.refl Z1⟩ (fun i σ2 H2 _ ⟨Γ2, μ2, Z2, _, w2, _, z2⟩ => SqL.of (rd w2 z2)) ?_ ?_⟩
    · rintro n y σ2 H2 H3 hi ⟨Γ2, μ2, Z2, i2, w2, e2, z2⟩ ⟨T, y1, y2, rfl, hT, rfl, hy1, hy2⟩
      cases hy1
      obtain ⟨P, hP, px⟩ := al.get' hy2
      have w3 := w2.new (o := .tup [.int (n : Nat), y2]) hT
      have z3 : Same Z2 (upd Z2 T (.tup [.int (n : Nat), y2])) := w2.newZ hT
      refine ⟨T, _, rfl, SqT.of upd_same, rfl, _, _, rfl, _, _, rfl, rfl, ?_⟩
      refine st n Γ2 μ2 P hP i2 _ _ _ w3 (((e2.mono z3).set (n := .rp (vI (n : Nat))) (o := some (.int (n : Nat))) ⟨_, rfl, rfl⟩ i).set (Lv.enok (P.mono (Lv.mono (z2.trans z3)) px)) j) _ ⟨?_, ?_, ?_, ?_⟩
      · exact fun Γ4 μ4 σ4 Z4 H4 i4 w4 e4 z4 => ⟨Γ4, μ4, Z4, i4, w4, e4, (z2.trans z3).trans z4⟩
      · exact fun P v μ4 Z4 H4 r w4 z4 p4 => k.rt P v μ4 Z4 H4 r w4 (((z1.trans z2).trans z3).trans z4) p4
      · exact fun Γ4 μ4 σ4 Z4 H4 i4 w4 e4 z4 => k.nx _ _ _ _ _ i4 w4 e4 (((z1.trans z2).trans z3).trans z4)
      · exact fun Γ4 μ4 σ4 Z4 H4 i4 w4 e4 z4 => ⟨Γ4, μ4, Z4, i4, w4, e4, (z2.trans z3).trans z4⟩
    · rintro σ2 H2 ⟨Γ2, μ2, Z2, i2, w2, e2, z2⟩
      rw [← al.length] at i2
      exact k.nx _ _ _ _ _ (en _ _ i2) w2 e2 (z1.trans z2)
/-- while: W by a measure -/
theorem ts_while {tc : TT} (W : Nat → List En → Mu → Prop) (m0 : Nat) (h0 : W m0 Γ μ) (hs : ∀ m Γ1 μ1, W m Γ1 μ1 → TTv F Γ1 μ1 tc (fun b => (b = true → TSv F Γ1 μ1 tb2 (TurnD D (fun Γ2 μ2 => ∃ m', m' < m ∧ W m' Γ2 μ2))) ∧ (b = false → D.nx Γ1 μ1))) :
    TSv F Γ μ (tWhile tc tb2) D := fun σ Z H w e D' k => by
  refine ⟨fun m σ2 H2 => ∃ Γ2 μ2 Z2, W m Γ2 μ2 ∧ Wd F μ2 Z2 H2 ∧ EnvOk F Z2 Γ2 σ2 ∧ Same Z Z2, ⟨m0, Γ, μ, Z, h0, w, e, Same.refl Z⟩, ?_⟩
  rintro m σ2 H2 ⟨Γ2, μ2, Z2, i2, w2, e2, z2⟩
  refine hs m Γ2 μ2 i2 σ2 Z2 H2 w2 e2 _ fun b Z3 H3 s3 w3 z3 => ?_
  cases b with
  | true =>
    refine ⟨fun σ4 H4 => ∃ m', m' < m ∧ ∃ Γ2 μ2 Z2, W m' Γ2 μ2 ∧ Wd F μ2 Z2 H4 ∧ EnvOk F Z2 Γ2 σ4 ∧ Same Z Z2, fun σ4 H4 q => q, ?_⟩
    refine s3.1 rfl σ2 Z3 H3 w3 (e2.mono z3) _ ⟨?_, ?_, ?_, ?_⟩
    · exact fun Γ4 μ4 σ4 Z4 H4 ⟨m', l, i4⟩ w4 e4 z4 => ⟨m', l, Γ4, μ4, Z4, i4, w4, e4, (z2.trans z3).trans z4⟩
    · exact fun P v μ4 Z4 H4 r w4 z4 p4 => k.rt P v μ4 Z4 H4 r w4 ((z2.trans z3).trans z4) p4
    · exact fun Γ4 μ4 σ4 Z4 H4 i4 w4 e4 z4 => k.nx _ _ _ _ _ i4 w4 e4 ((z2.trans z3).trans z4)
    · exact fun Γ4 μ4 σ4 Z4 H4 ⟨m', l, i4⟩ w4 e4 z4 => ⟨m', l, Γ4, μ4, Z4, i4, w4, e4, (z2.trans z3).trans z4⟩
  | false => exact k.nx _ _ _ _ _ (s3.2 rfl) w3 (e2.mono z3) (z2.trans z3)

/-! ### comprehensions -/
theorem wipe1 {σ : L2.St} {i : Nat} {x : Option V} : wipe ((wipe σ [i]).set i x) [i] = wipe σ [i] := by
  show (((σ.set i none).set i x).set i none) = σ.set i none
  rw [List.set_set, List.set_set]
theorem wipe1s {σ : L2.St} {i : Nat} {x : Option V} : (wipe σ [i]).set i x = σ.set i x := by
  show ((σ.set i none).set i x) = σ.set i x
  rw [List.set_set]
theorem tt_yes (s : SB true) : TTv F Γ μ tYes SB := fun σ Z H w e Q k => k true Z H s w (Same.refl Z)
/-- what a turn asks: the element, its test -/
abbrev LcTurn (F : Fr) (Γ2 : List En) (μ : Mu) (tt : TT) (te : TE) (acc : List Rp) (I : List Rp → Prop) : Prop := ∀ L, TTv F Γ2 ((L, obL acc) :: μ) tt (fun b => (b = true → TEv F Γ2 ((L, obL acc) :: μ) te (fun r => ∃ R, Hld [r] [R] ∧ I (acc ++ [R]))) ∧ (b = false → I acc))
theorem lc_turn {Γ2 : List En} {acc : List Rp} {I : List Rp → Prop} {L : Addr} {Z H : Hp} {σ : L2.St} {R : Hp → Prop} (h : LcTurn F Γ2 μ tt te acc I) (w : Wd F ((L, obL acc) :: μ) Z H) (e : EnvOk F Z Γ2 σ) (hl : acc.length < 100000)
    (k : ∀ acc' Z' H', I acc' → acc'.length ≤ acc.length + 1 → Wd F ((L, obL acc') :: μ) Z' H' → Same Z Z' → R H') :
    tt σ H fun b H3 => if b = true then te σ H3 fun y H4 => ∃ acc, H4 L = some (.lst acc) ∧ acc.length < sizeLine ∧ R (upd H4 L (.lst (acc ++ [y]))) else R H3 := by
  refine h L σ Z H w e _ fun b Z1 H1 s1 w1 z1 => ?_
  cases b with
  | true =>
    refine iteT ?_
    refine s1.1 rfl σ Z1 H1 w1 (e.mono z1) _ fun y r Z2 H2 s2 w2 z2 p2 => ?_
    obtain ⟨P, hh, i2⟩ := s2
    obtain ⟨_, _, o, ho, vs, rfl, al⟩ := w2.own _ (List.mem_cons_self ..)
    refine ⟨vs, ho, by rw [← al.length]; exact sz_lt hl, ?_⟩
    refine k (acc ++ [P]) Z2 _ i2 (by simp) ?_ (z1.trans z2)
    exact w2.mut (j := 0) rfl ⟨_, rfl, al.append (hh.al (vs := [y]) ⟨p2, trivial⟩)⟩
  | false =>
    refine iteF ?_
    exact k acc Z1 H1 (s1.2 rfl) (Nat.le_succ _) w1 z1
theorem tn_lcL {i : Nat} (h : TEv F Γ μ tl (fun x => ∃ l Ps, IsL x l Ps ∧ Ps.length < 100000 ∧ ∃ I : Nat → List Rp → Prop, I 0 [] ∧
    (∀ n acc P, Ps[n]? = some P → I n acc → LcTurn F (Γ.set i (l.en P)) μ tt te acc (I (n + 1))) ∧ ∀ acc, I Ps.length acc → SN acc)) :
    TNv F Γ μ (tLc (iList K tl) (gName i) tt te [i]) SN := fun σ Z H w e Q k => h σ Z H w e _ fun v x Z1 H1 s1 w1 z1 p1 => by
  obtain ⟨l, Ps, hx, hlen, I, i0, st, en⟩ := s1
  obtain ⟨a, vs, rfl, q, al⟩ := hx.at p1
  have rd : ∀ {μ2 : Mu} {Z2 H2 : Hp}, Wd F μ2 Z2 H2 → Same Z1 Z2 → H2 a = some (.lst vs) := fun w2 z2 => w2.lv l a _ (Lv.mono z2 a _ q)
  refine ⟨a, rfl, ⟨vs, SqL.of (rd w1 (Same.refl Z1))⟩, fun L hL => lc_it (walk_list (K := K) (a := a) (xs := vs)) (fun n H2 => ∃ acc Z2, I n acc ∧ acc.length ≤ n ∧ Wd F ((L, obL acc) :: μ) Z2 H2 ∧ Same Z1 Z2)
    ⟨[], Z1, i0, Nat.le_refl _, w1.newOwn hL ⟨[], rfl, trivial⟩, Same.refl Z1⟩ (fun n H2 _ ⟨acc, Z2, _, _, w2, z2⟩ => SqL.of (rd w2 z2)) ?_ ?_⟩
  · rintro n y H2 H3 hi ⟨acc, Z2, i2, hacc, w2, z2⟩ ⟨rfl, hy⟩
    obtain ⟨P, hP, px⟩ := al.get' hy
    have ln := al.length
    refine ⟨wipe1, ?_⟩
    have e2 : EnvOk F Z2 (Γ.set i (l.en P)) ((wipe σ [i]).set i (some y)) := by
      rw [wipe1s]
      exact (e.mono (z1.trans z2)).set (Lv.enok (P.mono (Lv.mono z2) px)) i
    exact lc_turn (R := fun H' => ∃ acc Z2, I (n + 1) acc ∧ acc.length ≤ n + 1 ∧ Wd F ((L, obL acc) :: μ) Z2 H' ∧ Same Z1 Z2) (st n acc P hP i2) w2 e2 (by omega) fun acc' Z' H' i3 h3 w3 z3 => ⟨acc', Z', i3, by omega, w3, z2.trans z3⟩
  · rintro H2 ⟨acc, Z2, i2, hacc, w2, z2⟩
    rw [← al.length] at i2
    exact k L acc Z2 H2 (en _ i2) w2 (z1.trans z2)
theorem tn_lcT {i : Nat} (h : TEv F Γ μ tl (fun x => ∃ l Ps, IsT K x l Ps ∧ Ps.length < 100000 ∧ ∃ I : Nat → List Rp → Prop, I 0 [] ∧
    (∀ n acc P, Ps[n]? = some P → I n acc → LcTurn F (Γ.set i (l.en P)) μ tt te acc (I (n + 1))) ∧ ∀ acc, I Ps.length acc → SN acc)) :
    TNv F Γ μ (tLc (iTup K tl) (gName i) tt te [i]) SN := fun σ Z H w e Q k => h σ Z H w e _ fun v x Z1 H1 s1 w1 z1 p1 => by
  obtain ⟨l, Ps, hx, hlen, I, i0, st, en⟩ := s1
  obtain ⟨a, vs, rfl, q, al⟩ := hx.at p1
  have rd : ∀ {μ2 : Mu} {Z2 H2 : Hp}, Wd F μ2 Z2 H2 → Same Z1 Z2 → SqT K H2 a vs := fun w2 z2 => same_t (w2.lv l) (same_t (Lv.mono z2) q)
  refine ⟨a, rfl, ⟨vs, rd w1 (Same.refl Z1)⟩, fun L hL => lc_it (walk_tup (K := K) (a := a) (xs := vs)) (fun n H2 => ∃ acc Z2, I n acc ∧ acc.length ≤ n ∧ Wd F ((L, obL acc) :: μ) Z2 H2 ∧ Same Z1 Z2)
    ⟨[], Z1, i0, Nat.le_refl _, w1.newOwn hL ⟨[], rfl, trivial⟩, Same.refl Z1⟩ (fun n H2 _ ⟨acc, Z2, _, _, w2, z2⟩ => rd w2 z2) ?_ ?_⟩
  · rintro n y H2 H3 hi ⟨acc, Z2, i2, hacc, w2, z2⟩ ⟨rfl, hy⟩
    obtain ⟨P, hP, px⟩ := al.get' hy
    have ln := al.length
    refine ⟨wipe1, ?_⟩
    have e2 : EnvOk F Z2 (Γ.set i (l.en P)) ((wipe σ [i]).set i (some y)) := by
      rw [wipe1s]
      exact (e.mono (z1.trans z2)).set (Lv.enok (P.mono (Lv.mono z2) px)) i
    exact lc_turn (R := fun H' => ∃ acc Z2, I (n + 1) acc ∧ acc.length ≤ n + 1 ∧ Wd F ((L, obL acc) :: μ) Z2 H' ∧ Same Z1 Z2) (st n acc P hP i2) w2 e2 (by omega) fun acc' Z' H' i3 h3 w3 z3 => ⟨acc', Z', i3, by omega, w3, z2.trans z3⟩
  · rintro H2 ⟨acc, Z2, i2, hacc, w2, z2⟩
    rw [← al.length] at i2
    exact k L acc Z2 H2 (en _ i2) w2 (z1.trans z2)
theorem tn_lcR1 {i : Nat} (h : TAv F Γ μ tr (fun xs => ∃ m : Int, xs = [.z (vI m)] ∧ -100000 < m ∧ m < 100000 ∧ ∃ I : Nat → List Rp → Prop, I 0 [] ∧
    (∀ (n : Nat) acc, (n : Int) < m → I n acc → LcTurn F (Γ.set i (.rp (vI (n : Nat)))) μ tt te acc (I (n + 1))) ∧ ∀ acc, I m.toNat acc → SN acc)) :
    TNv F Γ μ (tLc (iRng1 tr) (gName i) tt te [i]) SN := fun σ Z H w e Q k => h σ Z H w e _ fun vs xs Z1 H1 s1 w1 z1 p1 => by
  obtain ⟨m, rfl, hm0, hm, I, i0, st, en⟩ := s1
  obtain ⟨v, rfl, hv⟩ := alr1 p1
  have hv2 : v = .int m := hv
  subst hv2
  refine ⟨m, rfl, by omega, by omega, fun L hL => lc_range (lo := 0) (n := m.toNat) (fun n H2 => ∃ acc Z2, I n acc ∧ acc.length ≤ n ∧ Wd F ((L, obL acc) :: μ) Z2 H2 ∧ Same Z1 Z2)
    ⟨[], Z1, i0, Nat.le_refl _, w1.newOwn hL ⟨[], rfl, trivial⟩, Same.refl Z1⟩ ?_ ?_⟩
  · rintro n H2 hi ⟨acc, Z2, i2, hacc, w2, z2⟩
    refine ⟨wipe1, ?_⟩
    have e2 : EnvOk F Z2 (Γ.set i (.rp (vI (n : Nat)))) ((wipe σ [i]).set i (some (.int (0 + (n : Nat))))) := by
      rw [wipe1s]
      exact (e.mono (z1.trans z2)).set (n := .rp (vI (n : Nat))) (o := some (.int (0 + (n : Nat)))) ⟨_, rfl, by show V.int (0 + (n : Int)) = V.int (n : Int); rw [Int.zero_add]⟩ i
    exact lc_turn (R := fun H' => ∃ acc Z2, I (n + 1) acc ∧ acc.length ≤ n + 1 ∧ Wd F ((L, obL acc) :: μ) Z2 H' ∧ Same Z1 Z2) (st n acc (by omega) i2) w2 e2 (by omega) fun acc' Z' H' i3 h3 w3 z3 => ⟨acc', Z', i3, by omega, w3, z2.trans z3⟩
  · rintro H2 ⟨acc, Z2, i2, hacc, w2, z2⟩
    exact k L acc Z2 H2 (en _ i2) w2 (z1.trans z2)

/-! ### a def's entry -/
theorem env_bo {Z : Hp} : ∀ {Ps : List Rp} {vs : List V} {m : Nat}, Al F.Hb Ps vs → EnvOk F Z (Ps.map En.bo ++ List.replicate m .no) (vs.map some ++ List.replicate m none)
  | [], [], 0, _ => trivial
  | [], [], m + 1, _ => ⟨trivial, env_bo (Ps := []) (vs := []) (m := m) trivial⟩
  | _ :: _, v :: _, _, h => ⟨⟨v, rfl, h.1⟩, env_bo h.2⟩
  | [], _ :: _, _, h => h.elim
  | _ :: _, [], _, h => h.elim
theorem env_rp {Z : Hp} : ∀ {Ps : List Rp} {vs : List V} {m : Nat}, Al Z Ps vs → EnvOk F Z (Ps.map En.rp ++ List.replicate m .no) (vs.map some ++ List.replicate m none)
  | [], [], 0, _ => trivial
  | [], [], m + 1, _ => ⟨trivial, env_rp (Ps := []) (vs := []) (m := m) trivial⟩
  | _ :: _, v :: _, _, h => ⟨⟨v, rfl, h.1⟩, env_rp h.2⟩
  | [], _ :: _, _, h => h.elim
  | _ :: _, [], _, h => h.elim
theorem wd_start {H Z : Hp} (z : Same Z H) : Wd ⟨H, Z, Z, none⟩ [] Z H :=
  ⟨fun a o e _ => e, fun a e => e, Same.refl Z, fun _ _ => rfl, z, fun q hq => (nomatch hq), List.Pairwise.nil, fun d e => (nomatch e)⟩
theorem run_sp {s : Spc} {vs : List V} {H : Hp} {Q : VK} {E : XK} {N : List Str} (h : toSp s vs H Q E) (hb : ∀ A S, s A S → ∃ Ps, A Ps ∧ ∀ F : Fr, F.dv = none → TSv F (Ps.map En.bo ++ List.replicate (N.length - Ps.length) .no) [] ts { nx := fun _ _ => S vN, rt := S }) :
    ts { nx := fun _ H' => Q .non H', rt := Q } (L2.start N vs) H := by
  obtain ⟨A, S, Z, s1, al, zh, k⟩ := h
  obtain ⟨Ps, hA, b⟩ := hb A S s1
  have al2 := al Ps hA
  refine b ⟨H, Z, Z, none⟩ rfl _ Z H (wd_start zh) (by unfold L2.start; rw [← al2.length]; exact env_bo (show Al (Fr.Hb ⟨H, Z, Z, none⟩) Ps vs from al2)) _ ⟨?_, ?_, ?_, ?_⟩
  · exact fun Γ μ σ Z1 H1 q w _ z => k .non vN Z1 H1 q z (fun a o e => w.fr a o e fun d x => nomatch x) w.zh (fun a e => w.zf a e) rfl
  · exact fun P v μ Z1 H1 q w z p => k v P Z1 H1 q z (fun a o e => w.fr a o e fun d x => nomatch x) w.zh (fun a e => w.zf a e) p
  · exact fun _ _ _ _ _ q => q.elim
  · exact fun _ _ _ _ _ q => q.elim
theorem run_spZ {s : Spc} {vs : List V} {H : Hp} {Q : VK} {E : XK} {N : List Str} (h : toSpZ s vs H Q E) (hb : ∀ A S, s A S → ∃ Ps, A Ps ∧ ∀ F : Fr, F.dv = none → TSv F (Ps.map En.rp ++ List.replicate (N.length - Ps.length) .no) [] ts { nx := fun _ _ => S vN, rt := S }) :
    ts { nx := fun _ H' => Q .non H', rt := Q } (L2.start N vs) H := by
  obtain ⟨A, S, Z, s1, al, zh, k⟩ := h
  obtain ⟨Ps, hA, b⟩ := hb A S s1
  have al2 := al Ps hA
  refine b ⟨H, Z, Z, none⟩ rfl _ Z H (wd_start zh) (by unfold L2.start; rw [← al2.length]; exact env_rp al2) _ ⟨?_, ?_, ?_, ?_⟩
  · exact fun Γ μ σ Z1 H1 q w _ z => k .non vN Z1 H1 q z (fun a o e => w.fr a o e fun d x => nomatch x) w.zh (fun a e => w.zf a e) rfl
  · exact fun P v μ Z1 H1 q w z p => k v P Z1 H1 q z (fun a o e => w.fr a o e fun d x => nomatch x) w.zh (fun a e => w.zf a e) p
  · exact fun _ _ _ _ _ q => q.elim
  · exact fun _ _ _ _ _ q => q.elim
theorem wd_startD {H Z Zd : Hp} {ld : Addr} {ob : Ob} (z : Same Z H) (zl : Z ld = none) (zd : Same Zd Z) (h : ∃ o, H ld = some o ∧ ob.ok Zd o) : Wd ⟨H, Z, Zd, some (ld, ob)⟩ [] Z H :=
  ⟨fun a o e _ => e, fun a e => e, Same.refl Z, fun _ _ => rfl, z, fun q hq => (nomatch hq), List.Pairwise.nil, fun d e => by
    cases e
    obtain ⟨o, h1, h2⟩ := h
    exact ⟨by show H ld ≠ none; rw [h1]; exact fun z => (nomatch z), zl, zd, o, h1, h2⟩⟩
theorem run_spD {ob : Ob} {s : Spc} {vs : List V} {H : Hp} {Q : VK} {E : XK} {N : List Str} (h : toSpD ob s vs H Q E) (hb : ∀ A S, s A S → ∃ Ps, A Ps ∧ ∀ (F : Fr) (l : Addr), F.dv = some (l, ob) → TSv F (.dv :: (Ps.map En.bo ++ List.replicate (N.length - (Ps.length + 1)) .no)) [] ts { nx := fun _ _ => S vN, rt := S }) :
    ts { nx := fun _ H' => Q .non H', rt := Q } (L2.start N vs) H := by
  obtain ⟨ld, rest, A, S, Z, rfl, s1, al, zh, zl, Zd, zd, ho, k⟩ := h
  obtain ⟨Ps, hA, b⟩ := hb A S s1
  have al2 := al Ps hA
  refine b ⟨H, Z, Zd, some (ld, ob)⟩ ld rfl _ Z H (wd_startD zh zl zd ho) ?_ _ ⟨?_, ?_, ?_, ?_⟩
  · unfold L2.start
    rw [List.length_cons, ← al2.length]
    exact ⟨⟨_, rfl, rfl⟩, env_bo (show Al (Fr.Hb ⟨H, Z, Zd, some (ld, ob)⟩) Ps rest from al2)⟩
  · exact fun Γ μ σ Z1 H1 q w _ z => k .non vN Z1 H1 q z (fun a o ne e => w.fr a o e fun d x => by cases x; exact fun z => ne z.symm) w.zh (fun a e => w.zf a e) (w.dev _ rfl).2.2.2 rfl
  · exact fun P v μ Z1 H1 q w z p => k v P Z1 H1 q z (fun a o ne e => w.fr a o e fun d x => by cases x; exact fun z => ne z.symm) w.zh (fun a e => w.zf a e) (w.dev _ rfl).2.2.2 p
  · exact fun _ _ _ _ _ q => q.elim
  · exact fun _ _ _ _ _ q => q.elim
theorem run_spDZ {ob : Ob} {s : Spc} {vs : List V} {H : Hp} {Q : VK} {E : XK} {N : List Str} (h : toSpDZ ob s vs H Q E) (hb : ∀ A S, s A S → ∃ Ps, A Ps ∧ ∀ (F : Fr) (l : Addr), F.dv = some (l, ob) → TSv F (.dv :: (Ps.map En.rp ++ List.replicate (N.length - (Ps.length + 1)) .no)) [] ts { nx := fun _ _ => S vN, rt := S }) :
    ts { nx := fun _ H' => Q .non H', rt := Q } (L2.start N vs) H := by
  obtain ⟨ld, rest, A, S, Z, rfl, s1, al, zh, zl, Zd, zd, ho, k⟩ := h
  obtain ⟨Ps, hA, b⟩ := hb A S s1
  have al2 := al Ps hA
  refine b ⟨H, Z, Zd, some (ld, ob)⟩ ld rfl _ Z H (wd_startD zh zl zd ho) ?_ _ ⟨?_, ?_, ?_, ?_⟩
  · unfold L2.start
    rw [List.length_cons, ← al2.length]
    exact ⟨⟨_, rfl, rfl⟩, env_rp al2⟩
  · exact fun Γ μ σ Z1 H1 q w _ z => k .non vN Z1 H1 q z (fun a o ne e => w.fr a o e fun d x => by cases x; exact fun z => ne z.symm) w.zh (fun a e => w.zf a e) (w.dev _ rfl).2.2.2 rfl
  · exact fun P v μ Z1 H1 q w z p => k v P Z1 H1 q z (fun a o ne e => w.fr a o e fun d x => by cases x; exact fun z => ne z.symm) w.zh (fun a e => w.zf a e) (w.dev _ rfl).2.2.2 p
  · exact fun _ _ _ _ _ q => q.elim
  · exact fun _ _ _ _ _ q => q.elim
end
end Eb
namespace Eb
open PySem PySem.Spec PyProof.Rows L2
structure Ctx (K : PySem.W.Frag) (mg : Str → Option Value) : Prop where
  d : He.SaysD fa fn K
  gl : ∀ x, He.Fa.glo x ∈ fa → mg x = some (.ref (He.ga K x))
  fr : ∀ x, He.Fa.free x ∈ fa → mg x = none
  gr : ∀ H, SqT K H (He.ga K "GROUND") [.str "ground", .int 0, .int 0]
theorem Ctx.g {K : PySem.W.Frag} {mg : Str → Option Value} (C : Ctx K mg) (i : Nat) {x : Str} (h : fa[i]? = some (.glo x) := by rfl) : mg x = some (.ref (He.ga K x)) := C.gl x (List.mem_of_getElem? h)
theorem Ctx.f {K : PySem.W.Frag} {mg : Str → Option Value} (C : Ctx K mg) (i : Nat) {x : Str} (h : fa[i]? = some (.free x) := by rfl) : mg x = none := C.fr x (List.mem_of_getElem? h)
/-- a def of the text keeps its promise -/
structure Fn (P : Program) (w : World) (K : PySem.W.Frag) (mg : Str → Option Value) (base : Heap) (x : Str) (k : Nat) (ps : List Str) (sp : Sp) : Prop where
  ex : ∃ f fd, mg x = some (.ref f) ∧ PySem.W.keepIn K (.ref f) = true ∧ Binds K fd ps [] ∧ FnOk P w K mg base CX0 k f fd ps sp
section
variable {P : Program} {w : World} {K : PySem.W.Frag} {mg : Str → Option Value} {base : Heap}
theorem Ctx.fn (C : Ctx K mg) (i : Nat) {x : Str} {st : Stmt} {N ps : List Str} {k : Nat} {sp : Sp} (hd : fn[i]? = some (mkD x st)) (hg : fa[i]? = some (.glo x)) (sc : FnScope N ps (defScope st))
    (hb : ∀ (kV doc pm : Value) (an : Option Addr) (cdv ct : Value) (us : List Value), us.length = ps.length → bindArgs (PySem.W.fnOf x x (defArgs st) (defBody st) (defScope st) .none kV doc pm an cdv ct) ⟨us, []⟩ = pure (ps.zip us))
    (len : ∀ vs H Q E, sp vs H Q E → vs.length = ps.length)
    (body : ∀ (cdv : Value) (A : Around) (outer : List Env) (s : Shared) (H : Hp) (vs : List V) (Q : VK) (E : XK), Room k (A.deeper (envOfC x (defScope st) s.heap.objs.size (He.ga K x) cdv)) → sp vs H Q E →
      ∃ t, PSs (cxOf CX0 P w K mg base N x (defScope st) (He.ga K x) cdv A outer s H E).nox (defBody st) t ∧ t { nx := fun _ H' => Q .non H', rt := Q } (L2.start N vs) H) : Fn P w K mg base x (k + 1) ps sp := by
  obtain ⟨fd, F⟩ := C.d.def_ i hd
  refine ⟨He.ga K x, fd, C.gl x (List.mem_of_getElem? hg), F.kp, F.bindsN hb, F.ok sc len fun cdv A outer s H vs Q E hr h => ?_⟩
  obtain ⟨t, h1, h2⟩ := body cdv A outer s H vs Q E hr h
  exact ⟨t, h1.nox, h2⟩
theorem len_sp {s : Spc} {n : Nat} (h : ∀ A S, s A S → ∃ Ps, A Ps ∧ Ps.length = n) : ∀ vs H Q E, toSp s vs H Q E → vs.length = n := fun vs H Q E ⟨A, S, Z, s1, al, _⟩ => by
  obtain ⟨Ps, hA, hn⟩ := h A S s1
  rw [← (al Ps hA).length, hn]
theorem len_spZ {s : Spc} {n : Nat} (h : ∀ A S, s A S → ∃ Ps, A Ps ∧ Ps.length = n) : ∀ vs H Q E, toSpZ s vs H Q E → vs.length = n := fun vs H Q E ⟨A, S, Z, s1, al, _⟩ => by
  obtain ⟨Ps, hA, hn⟩ := h A S s1
  rw [← (al Ps hA).length, hn]
theorem len_spD {ob : Ob} {s : Spc} {n : Nat} (h : ∀ A S, s A S → ∃ Ps, A Ps ∧ Ps.length + 1 = n) : ∀ vs H Q E, toSpD ob s vs H Q E → vs.length = n := fun vs H Q E ⟨ld, rest, A, S, Z, e, s1, al, _⟩ => by
  obtain ⟨Ps, hA, hn⟩ := h A S s1
  rw [e, List.length_cons, ← (al Ps hA).length, hn]
theorem len_spDZ {ob : Ob} {s : Spc} {n : Nat} (h : ∀ A S, s A S → ∃ Ps, A Ps ∧ Ps.length + 1 = n) : ∀ vs H Q E, toSpDZ ob s vs H Q E → vs.length = n := fun vs H Q E ⟨ld, rest, A, S, Z, e, s1, al, _⟩ => by
  obtain ⟨Ps, hA, hn⟩ := h A S s1
  rw [e, List.length_cons, ← (al Ps hA).length, hn]
end
section
variable {X : Cx} {x : Str} {k : Nat} {ps : List Str} {sp : Sp} {e : Expr} {es : List Expr} {t : TA} {p pos : Pos}
theorem pe_fn (G : Fn X.prog X.w X.K X.mg X.base x k ps sp) (hr : Room k X.A) (hg : Gl X x) (ha : PA X (e :: es) t) (hdb : (x == ("__debug__" : Str)) = false := by decide)
    (he : starEach (e :: es) X.env = (false, eval e X.env) :: starEach es X.env := by rfl) (hpl : (backTo pos (starEach es X.env)).any (·.1) = false := by rfl) : PE X (.Call (.Name x p) (e :: es) [] pos) (tCall sp [] E0 t) := by
  obtain ⟨f, fd, hm, hk, hb, G⟩ := G.ex
  exact pe_call G hr hg hm hk hb .nil pass0 ha hdb he hpl
end
end Eb
namespace Eb
open PySem PySem.Spec PyProof.Rows L2
section
variable {K : PySem.W.Frag} {F : Fr} {Γ : List En} {μ : Mu} {S : Rv → Prop}
theorem te_boE {i : Nat} {v : V} (h : Γ[i]? = some (.bo (vE v))) (s : S (.z (vE v))) : TEv F Γ μ (tVar i) S := fun σ Z H w e Q k => by
  obtain ⟨o, h1, u, rfl, h2⟩ := e.get h
  have e2 : u = v := h2
  subst e2
  exact ⟨_, h1, k _ _ Z H s w (Same.refl Z) rfl⟩
/-- how a name is told: its place, then what is known -/
def EnT (F : Fr) (Γ : List En) (μ : Mu) (i : Nat) (n : En) (S : Rv → Prop) : Prop := Γ[i]? = some n → TEv F Γ μ (tVar i) S
theorem te_at {i : Nat} {n : En} (h : Γ[i]? = some n) (s : EnT F Γ μ i n S) : TEv F Γ μ (tVar i) S := s h
theorem ent_boE {i : Nat} {v : V} (s : S (.z (vE v))) : EnT F Γ μ i (.bo (vE v)) S := fun h => te_boE h s
theorem ent_lbE {i : Nat} {v : V} (s : S (.z (vE v))) : EnT F Γ μ i (Lv.en (vE v) .b) S := fun h => te_boE h s
theorem ent_rp {i : Nat} {P : Rp} (s : S (.z P)) : EnT F Γ μ i (.rp P) S := fun h => te_rp h s
theorem ent_lz {i : Nat} {P : Rp} (s : S (.z P)) : EnT F Γ μ i (Lv.en P .z) S := fun h => te_rp h s
theorem ent_rz {i : Nat} {P : Rp} (s : S (.z P)) : EnT F Γ μ i (Rv.en (.z P)) S := fun h => te_rp h s
theorem ent_bo {i : Nat} {P : Rp} (s : S (.b P)) : EnT F Γ μ i (.bo P) S := fun h => te_bo h s
theorem ent_lb {i : Nat} {P : Rp} (s : S (.b P)) : EnT F Γ μ i (Lv.en P .b) S := fun h => te_bo h s
theorem ent_rb {i : Nat} {P : Rp} (s : S (.b P)) : EnT F Γ μ i (Rv.en (.b P)) S := fun h => te_bo h s
theorem ent_ow {i : Nat} {l : Addr} (s : S (.o l)) : EnT F Γ μ i (.ow l) S := fun h => te_ow h s
theorem ent_dv {i : Nat} (s : S .dv) : EnT F Γ μ i .dv S := fun h => te_dv h s
theorem rc_lenI {x : Rv} {l : Lv} {ns : List Int} (h : Sq K F μ x l (ns.map vI)) (s : S (.z (vI (ns.length : Nat)))) : Rcb F μ (rLen K) [x] S := rc_len h (by rw [List.length_map]; exact s)
theorem rop_isN {x : V} (s : S (.z (vB (decide (x = .non))))) : Rop F μ (fun x y H Q => y = .non ∧ Q (.bl (decide (x = .non))) H) (.z (vE x)) (.z (vE .non)) S := fun Z H w v v2 h1 h2 Q k => by
  have e1 : v = x := h1
  have e2 : v2 = .non := h2
  subst e1 e2
  exact ⟨rfl, k _ _ Z H s w (Same.refl Z) rfl⟩
theorem rop_notN {x : V} (s : S (.z (vB (!decide (x = .non))))) : Rop F μ (fun x y H Q => y = .non ∧ Q (.bl (!decide (x = .non))) H) (.z (vE x)) (.z (vE .non)) S := fun Z H w v v2 h1 h2 Q k => by
  have e1 : v = x := h1
  have e2 : v2 = .non := h2
  subst e1 e2
  exact ⟨rfl, k _ _ Z H s w (Same.refl Z) rfl⟩
theorem rop_mulL {i j : Int} (h1 : -(2 ^ 64) < i) (h2 : i < 2 ^ 64) (s : S (.z (vI (i * j)))) : Rop F μ (rI CMul fun i j => .int (i * j)) (.z (vI i)) (.z (vI j)) S := rop_C (.inl ⟨h1, h2⟩) s
theorem rop_mulR {i j : Int} (h1 : -(2 ^ 64) < j) (h2 : j < 2 ^ 64) (s : S (.z (vI (i * j)))) : Rop F μ (rI CMul fun i j => .int (i * j)) (.z (vI i)) (.z (vI j)) S := rop_C (.inr ⟨h1, h2⟩) s
theorem rop_mod {i j : Int} (h : 0 < j) (s : S (.z (vI (i % j)))) : Rop F μ (rI (fun _ j => j ≠ 0) fun i j => .int (i.fmod j)) (.z (vI i)) (.z (vI j)) S := rop_C (Int.ne_of_gt h) (by rw [Int.fmod_eq_emod_of_nonneg i (Int.le_of_lt h)]; exact s)
theorem rop_fdiv {i j : Int} (h : 0 < j) (h2 : j < 1073741824) (s : S (.z (vI (i / j)))) : Rop F μ (rI CDivN fun i j => .int (i.fdiv j)) (.z (vI i)) (.z (vI j)) S := rop_C ⟨Int.ne_of_gt h, by omega⟩ (by rw [Int.fdiv_eq_ediv_of_nonneg i (Int.le_of_lt h)]; exact s)
theorem cx_K {P : Program} {w : World} {K : PySem.W.Frag} {mg : Str → Option Value} {base : Heap} {N : List Str} {q : Str} {sc : Scope} {f : Addr} {cd : Value} {A : Around} {outer : List Env} {s : Shared} {H : Hp} {E : XK} :
    (cxOf CX0 P w K mg base N q sc f cd A outer s H E).nox.K = K := rfl
theorem cx_K2 {P : Program} {w : World} {K : PySem.W.Frag} {mg : Str → Option Value} {base : Heap} {N : List Str} {q : Str} {sc : Scope} {f : Addr} {cd : Value} {A : Around} {outer : List Env} {s : Shared} {H : Hp} {E : XK} :
    (cxOf CX0 P w K mg base N q sc f cd A outer s H E).K = K := rfl
/-- an int or None -/
def vO : Option Int → Rp
  | some i => vI i
  | none => vN
end
/-- a moment or None -/
def vM : Option Nat → Rp
  | some n => vI (n : Nat)
  | none => vN
theorem vM_some (n : Nat) : vM (some n) = vI (n : Nat) := rfl
theorem vM_none : vM none = vN := rfl
theorem vO_some (i : Int) : vO (some i) = vI i := rfl
theorem vO_none : vO none = vN := rfl

/-! ### more operations -/
section
variable {K : PySem.W.Frag} {F : Fr} {Γ : List En} {μ : Mu} {S : Rv → Prop} {SN : List Rp → Prop} {te tl ta : TE} {to th : TO}
theorem to_none {S : Option Int → Prop} (s : S none) : TOv F Γ μ tNoPart S := fun σ Z H w e Q k => k none Z H s w (Same.refl Z)
theorem to_some {S : Option Int → Prop} (h : TEv F Γ μ te (fun r => ∃ i, r = .z (vI i) ∧ S (some i))) : TOv F Γ μ (tPart te) S := fun σ Z H w e Q k => h σ Z H w e _ fun v r Z1 H1 s1 w1 z1 p1 => by
  obtain ⟨i, rfl, s⟩ := s1
  exact ⟨i, p1, k _ Z1 H1 s w1 z1⟩
def cutR {α : Type} (xs : List α) (lo hi : Option Int) : List α := (xs.drop (HT.sIx xs.length 0 lo)).take (HT.sIx xs.length xs.length hi - HT.sIx xs.length 0 lo)
theorem cut_al {H : Hp} {Ps : List Rp} {vs : List V} (h : Al H Ps vs) (lo hi : Option Int) : Al H (cutR Ps lo hi) (cutV vs lo hi) := by
  unfold cutR cutV
  rw [h.length]
  exact (h.drop _).take _
theorem cut_map {α β : Type} (f : α → β) (xs : List α) (lo hi : Option Int) : cutR (xs.map f) lo hi = (cutR xs lo hi).map f := by
  unfold cutR
  rw [List.length_map, List.map_take, List.map_drop]
theorem tn_sl {x : Rv} (h : TEv F Γ μ te (fun x => TOv F Γ μ to (fun lo => TOv F Γ μ th (fun hi => ∃ Ps, SqLs F μ x .z Ps ∧ SN (cutR Ps lo hi))))) : TNv F Γ μ (tSl (rSlL K) te to th) SN := fun σ Z H w e Q k =>
  h σ Z H w e _ fun v x Z1 H1 s1 w1 z1 p1 => s1 σ Z1 H1 w1 (e.mono z1) _ fun lo Z2 H2 s2 w2 z2 => s2 σ Z2 H2 w2 (e.mono (z1.trans z2)) _ fun hi Z3 H3 s3 w3 z3 => by
    obtain ⟨Ps, hs, s⟩ := s3
    obtain ⟨a, vs, rfl, q, al⟩ := hs Z3 H3 v w3 (p1.mono (z2.trans z3))
    exact ⟨a, vs, rfl, SqL.of q, fun p hp => k p _ Z3 _ s (w3.newOwn hp ⟨_, rfl, cut_al al lo hi⟩) ((z1.trans z2).trans z3)⟩
theorem tn_slI (h : TEv F Γ μ te (fun x => TOv F Γ μ to (fun lo => TOv F Γ μ th (fun hi => ∃ (l : Lv) (ns : List Int), SqLs F μ x l (ns.map vI) ∧ SN ((cutR ns lo hi).map vI))))) : TNv F Γ μ (tSl (rSlL K) te to th) SN := fun σ Z H w e Q k =>
  h σ Z H w e _ fun v x Z1 H1 s1 w1 z1 p1 => s1 σ Z1 H1 w1 (e.mono z1) _ fun lo Z2 H2 s2 w2 z2 => s2 σ Z2 H2 w2 (e.mono (z1.trans z2)) _ fun hi Z3 H3 s3 w3 z3 => by
    obtain ⟨l, ns, hs, s⟩ := s3
    obtain ⟨a, vs, rfl, q, al⟩ := hs Z3 H3 v w3 (p1.mono (z2.trans z3))
    have e2 := al.ints
    subst e2
    refine ⟨a, _, rfl, SqL.of q, fun p hp => k p _ Z3 _ s (w3.newOwn hp ⟨_, rfl, ?_⟩) ((z1.trans z2).trans z3)⟩
    have h2 := cut_al (H := Z3) (Al.toInts ns) lo hi
    rw [cut_map] at h2
    exact h2
theorem rn_rep {P : Rp} {n : Int} (h0 : -100000 < n) (h : n < 100000) (s : SN (List.replicate n.toNat P)) : RopN F μ rRep (.z (LS [P])) (.z (vI n)) SN := fun Z H w v v2 h1 h2 Q k => by
  have e2 : v2 = .int n := h2
  subst e2
  obtain ⟨a, vs, rfl, q, al⟩ := h1
  match vs, al with
  | [x], al =>
    refine ⟨a, n, [x], rfl, rfl, w.zh _ _ q, by omega, by omega, by rw [List.length_singleton, Nat.one_mul]; exact sz_le (by omega), fun p hp => k p _ Z _ s (w.newOwn hp ⟨_, rfl, ?_⟩) (Same.refl Z)⟩
    have hx := al.1
    generalize n.toNat = m
    induction m with
    | zero => trivial
    | succ m ih =>
      rw [List.replicate_succ, List.replicate_succ, List.flatten_cons]
      exact ⟨hx, ih⟩
  | [], al => exact al.elim
  | _ :: _ :: _, al => exact al.2.elim
def rgI (n : Int) : List Int := (List.range n.toNat).map fun (k : Nat) => (k : Int)
theorem tn_lrg (h : TEv F Γ μ te (fun r => ∃ n, r = .z (vI n) ∧ -100000 < n ∧ n < 100000 ∧ SN ((rgI n).map vI))) : TNv F Γ μ (tLstRg (tRg1 te)) SN := fun σ Z H w e Q k => h σ Z H w e _ fun v r Z1 H1 s1 w1 z1 p1 => by
  obtain ⟨n, rfl, h0, h1, s⟩ := s1
  have e2 : v = .int n := p1
  subst e2
  refine ⟨n, rfl, ?_, fun q hq => k q _ Z1 _ s (w1.newOwn hq ⟨_, rfl, ?_⟩) z1⟩
  · unfold RgOk
    first
      | omega
      | exact ⟨by omega, by omega, by omega, by omega, by omega⟩
      | exact ⟨by omega, by omega, by omega⟩
  · have e : rgV 0 n = (rgI n).map V.int := by
      unfold rgV rgI
      rw [Int.sub_zero, List.map_map]
      exact List.map_congr_left fun k _ => by
        show V.int (0 + (k : Int)) = V.int (k : Int)
        rw [Int.zero_add]
    rw [e]
    exact Al.toInts _
theorem tn_rev (h : TEv F Γ μ te (fun x => ∃ (l : Lv) (ns : List Int), SqLs F μ x l (ns.map vI) ∧ SN (ns.reverse.map vI))) : TNv F Γ μ (tRevL K te) SN := fun σ Z H w e Q k => h σ Z H w e _ fun v x Z1 H1 s1 w1 z1 p1 => by
  obtain ⟨l, ns, hs, s⟩ := s1
  obtain ⟨a, vs, rfl, q, al⟩ := hs Z1 H1 v w1 p1
  have e2 := al.ints
  subst e2
  refine ⟨a, _, rfl, SqL.of q, fun p hp => k p _ Z1 _ s (w1.newOwn hp ⟨_, rfl, ?_⟩) z1⟩
  rw [← List.map_reverse]
  exact Al.toInts _
theorem rc_intB {b : Bool} (s : S (.z (vI (if b then 1 else 0)))) : Rcb F μ (fun xs H Q => (∃ i, xs = [.int i] ∧ Q (.int i) H) ∨ ∃ k, xs = [.bl k] ∧ Q (.int (if k then 1 else 0)) H) [.z (vB b)] S := fun Z H w vs al Q k => by
  obtain ⟨v, rfl, hv⟩ := alr1 al
  have e2 : v = .bl b := hv
  subst e2
  exact .inr ⟨b, rfl, k _ _ Z H s w (Same.refl Z) rfl⟩
theorem rc_intI {i : Int} (s : S (.z (vI i))) : Rcb F μ (fun xs H Q => (∃ i, xs = [.int i] ∧ Q (.int i) H) ∨ ∃ k, xs = [.bl k] ∧ Q (.int (if k then 1 else 0)) H) [.z (vI i)] S := fun Z H w vs al Q k => by
  obtain ⟨v, rfl, hv⟩ := alr1 al
  have e2 : v = .int i := hv
  subst e2
  exact .inl ⟨i, rfl, k _ _ Z H s w (Same.refl Z) rfl⟩
theorem rc_max2 {i j : Int} (s : S (.z (vI (if j > i then j else i)))) : Rcb F μ (fun xs H Q => ∃ i j, xs = [.int i, .int j] ∧ Q (.int (if j > i then j else i)) H) [.z (vI i), .z (vI j)] S := fun Z H w vs al Q k => by
  obtain ⟨v, v2, rfl, hv, hv2⟩ := alr2 al
  have e1 : v = .int i := hv
  have e2 : v2 = .int j := hv2
  subst e1 e2
  exact ⟨i, j, rfl, k _ _ Z H s w (Same.refl Z) rfl⟩
theorem rc_min2 {i j : Int} (s : S (.z (vI (if j < i then j else i)))) : Rcb F μ (fun xs H Q => ∃ i j, xs = [.int i, .int j] ∧ Q (.int (if j < i then j else i)) H) [.z (vI i), .z (vI j)] S := fun Z H w vs al Q k => by
  obtain ⟨v, v2, rfl, hv, hv2⟩ := alr2 al
  have e1 : v = .int i := hv
  have e2 : v2 = .int j := hv2
  subst e1 e2
  exact ⟨i, j, rfl, k _ _ Z H s w (Same.refl Z) rfl⟩
end

/-! ### comprehensions that filter and map -/
section
variable {K : PySem.W.Frag} {F : Fr} {Γ : List En} {μ : Mu} {SN : List Rp → Prop} {te tl : TE} {tt : TT} {tr : TA}
theorem fm_step {α : Type} {xs : List α} {n : Nat} {x : α} (p : α → Bool) (f : α → Rp) (h : xs[n]? = some x) : ((xs.take (n + 1)).filter p).map f = if p x = true then ((xs.take n).filter p).map f ++ [f x] else ((xs.take n).filter p).map f := by
  have lt := (List.getElem?_eq_some_iff.mp h).1
  have e : xs[n] = x := (List.getElem?_eq_some_iff.mp h).2
  rw [List.take_succ_eq_append_getElem lt, e, List.filter_append, List.map_append]
  by_cases q : p x = true
  · rw [if_pos q]
    simp [q]
  · rw [if_neg q]
    simp [q]
/-- what a turn over x is to do -/
abbrev FmTurn (F : Fr) (Γ2 : List En) (μ : Mu) (tt : TT) (te : TE) (b0 : Bool) (R : Rp) : Prop := ∀ L acc, TTv F Γ2 ((L, obL acc) :: μ) tt (fun b => b = b0 ∧ (b = true → TEv F Γ2 ((L, obL acc) :: μ) te (fun r => Hld [r] [R])))
theorem fm_lc {α : Type} {xs : List α} {n : Nat} {x : α} {Γ2 : List En} {p : α → Bool} {f : α → Rp} (h : xs[n]? = some x) (t : FmTurn F Γ2 μ tt te (p x) (f x)) {acc : List Rp} (ha : acc = ((xs.take n).filter p).map f) :
    LcTurn F Γ2 μ tt te acc (fun acc => acc = ((xs.take (n + 1)).filter p).map f) := fun L => tt_imp (t L acc) fun b ⟨hb, he⟩ => ⟨fun hb1 => te_imp (he hb1) fun r hr => ⟨_, hr, by rw [fm_step p f h, if_pos (by rw [← hb]; exact hb1), ha]⟩,
      fun hb1 => by rw [fm_step p f h, if_neg (by rw [← hb, hb1]; exact Bool.false_ne_true), ha]⟩
theorem tn_fmL {α : Type} {i : Nat} (h : TEv F Γ μ tl (fun x => ∃ (l : Lv) (xs : List α) (g : α → Rp) (p : α → Bool) (f : α → Rp), IsL x l (xs.map g) ∧ xs.length < 100000 ∧ (∀ x, x ∈ xs → FmTurn F (Γ.set i (l.en (g x))) μ tt te (p x) (f x)) ∧ SN ((xs.filter p).map f))) :
    TNv F Γ μ (tLc (iList K tl) (gName i) tt te [i]) SN := tn_lcL (te_imp h fun x ⟨l, xs, g, p, f, hx, hl, st, s⟩ => ⟨l, _, hx, by rw [List.length_map]; exact hl, fun n acc => acc = ((xs.take n).filter p).map f, rfl, fun n acc P hP ha => by
      rw [List.getElem?_map] at hP
      cases q : xs[n]? with
      | none =>
        rw [q] at hP
        cases hP
      | some y =>
        rw [q] at hP
        cases hP
        exact fm_lc q (st y (List.mem_of_getElem? q)) ha, fun acc ha => by
      rw [List.length_map, List.take_length] at ha
      rw [ha]
      exact s⟩)
theorem tn_fmT {α : Type} {i : Nat} (h : TEv F Γ μ tl (fun x => ∃ (l : Lv) (xs : List α) (g : α → Rp) (p : α → Bool) (f : α → Rp), IsT K x l (xs.map g) ∧ xs.length < 100000 ∧ (∀ x, x ∈ xs → FmTurn F (Γ.set i (l.en (g x))) μ tt te (p x) (f x)) ∧ SN ((xs.filter p).map f))) :
    TNv F Γ μ (tLc (iTup K tl) (gName i) tt te [i]) SN := tn_lcT (te_imp h fun x ⟨l, xs, g, p, f, hx, hl, st, s⟩ => ⟨l, _, hx, by rw [List.length_map]; exact hl, fun n acc => acc = ((xs.take n).filter p).map f, rfl, fun n acc P hP ha => by
      rw [List.getElem?_map] at hP
      cases q : xs[n]? with
      | none =>
        rw [q] at hP
        cases hP
      | some y =>
        rw [q] at hP
        cases hP
        exact fm_lc q (st y (List.mem_of_getElem? q)) ha, fun acc ha => by
      rw [List.length_map, List.take_length] at ha
      rw [ha]
      exact s⟩)
theorem tn_fmR {i : Nat} (h : TAv F Γ μ tr (fun xs => ∃ (m : Int) (p : Nat → Bool) (f : Nat → Rp), xs = [.z (vI m)] ∧ -100000 < m ∧ m < 100000 ∧ (∀ n : Nat, (n : Int) < m → FmTurn F (Γ.set i (.rp (vI (n : Nat)))) μ tt te (p n) (f n)) ∧ SN (((List.range m.toNat).filter p).map f))) :
    TNv F Γ μ (tLc (iRng1 tr) (gName i) tt te [i]) SN := tn_lcR1 (fun σ Z H w e Q k => h σ Z H w e Q fun vs rs Z1 H1 ⟨m, p, f, hx, h0, h1, st, s⟩ => k vs rs Z1 H1 ⟨m, hx, h0, h1, fun n acc => acc = (((List.range m.toNat).take n).filter p).map f, rfl, fun n acc hn ha => by
      have q : (List.range m.toNat)[n]? = some n := by
        rw [List.getElem?_range (by omega)]
      exact fm_lc q (st n hn) ha, fun acc ha => by
      have e : (List.range m.toNat).take m.toNat = List.range m.toNat := List.take_of_length_le (by rw [List.length_range] <;> exact Nat.le_refl _)
      have h2 : acc = (((List.range m.toNat).take m.toNat).filter p).map f := ha
      rw [e] at h2
      rw [h2]
      exact s⟩)
theorem filt_all {α : Type} {xs : List α} : xs.filter (fun _ => true) = xs := by
  induction xs with
  | nil => rfl
  | cons x r ih => simp
end
section
variable {F : Fr} {μ : Mu}
theorem hl_z {P : Rp} {k : Rp → Prop} (h : k P) : ∃ R, Hld [.z P] [R] ∧ k R := ⟨P, ⟨rfl, trivial⟩, h⟩
theorem hl0 {k : List Rp → Prop} (h : k []) : ∃ Rs, Hld [] Rs ∧ Rs.length ≤ 100000 ∧ k Rs := ⟨[], trivial, Nat.zero_le _, h⟩
theorem hl1 {P : Rp} {k : List Rp → Prop} (h : k [P]) : ∃ Rs, Hld [.z P] Rs ∧ Rs.length ≤ 100000 ∧ k Rs := ⟨[P], ⟨rfl, trivial⟩, (by show 1 ≤ 100000; decide), h⟩
theorem hl2 {P P2 : Rp} {k : List Rp → Prop} (h : k [P, P2]) : ∃ Rs, Hld [.z P, .z P2] Rs ∧ Rs.length ≤ 100000 ∧ k Rs := ⟨[P, P2], ⟨rfl, rfl, trivial⟩, (by show 2 ≤ 100000; decide), h⟩
theorem hl3 {P P2 P3 : Rp} {k : List Rp → Prop} (h : k [P, P2, P3]) : ∃ Rs, Hld [.z P, .z P2, .z P3] Rs ∧ Rs.length ≤ 100000 ∧ k Rs := ⟨[P, P2, P3], ⟨rfl, rfl, rfl, trivial⟩, (by show 3 ≤ 100000; decide), h⟩
end
/-! ### tariffs -/
structure Tar where
  rates : List Int
  wakes : List Int
def Tar.rate (T : Tar) (s : Int) : Int := if s = (T.rates.length : Int) then 0 else gi T.rates s
def Tar.wake (T : Tar) (s : Int) : Int := gi T.wakes s
def Tar.cost (T : Tar) (s t : Int) : Int := T.rate s * t + T.wake s
def Tar.idleUp (T : Tar) (t : Int) : Nat → Int
  | 0 => 0
  | k + 1 => if T.cost ((k : Int) + 1) t < T.cost (T.idleUp t k) t then (k : Int) + 1 else T.idleUp t k
def Tar.idle (T : Tar) (t : Int) : Int := T.idleUp t T.rates.length
def Tar.step (T : Tar) (b a : Int) : Option Int := if b ≤ a then some 0 else if a = 0 then some (T.wake b) else none
structure Tar.Ok (T : Tar) : Prop where
  len : T.wakes.length = T.rates.length + 1
  pos : 1 ≤ T.rates.length
  le : T.rates.length ≤ 4
  rb : ∀ i : Int, 0 ≤ i → i < T.rates.length → 1 ≤ gi T.rates i ∧ gi T.rates i ≤ 100000
  wb : ∀ i : Int, 0 ≤ i → i < T.wakes.length → 0 ≤ gi T.wakes i ∧ gi T.wakes i ≤ 100000
  w0 : gi T.wakes 0 = 0
  rd : ∀ i j : Int, 0 ≤ i → i < j → j < T.rates.length → gi T.rates j < gi T.rates i
  wa : ∀ i j : Int, 0 ≤ i → i < j → j < T.wakes.length → gi T.wakes i < gi T.wakes j
abbrev TF (K : PySem.W.Frag) (T : Tar) : Rp := TP K [TP K (T.rates.map vI), TP K (T.wakes.map vI)]
theorem Tar.Ok.rate {T : Tar} (o : T.Ok) {s : Int} (h0 : 0 ≤ s) (h1 : s ≤ (T.rates.length : Int)) : 0 ≤ T.rate s ∧ T.rate s ≤ 100000 := by
  unfold Tar.rate
  split
  · exact ⟨by decide, by decide⟩
  · have := o.rb s h0 (by omega)
    omega
theorem Tar.Ok.wake {T : Tar} (o : T.Ok) {s : Int} (h0 : 0 ≤ s) (h1 : s ≤ (T.rates.length : Int)) : 0 ≤ T.wake s ∧ T.wake s ≤ 100000 := o.wb s h0 (by have := o.len; omega)
theorem Tar.idleUp_range (T : Tar) (t : Int) : ∀ k : Nat, 0 ≤ T.idleUp t k ∧ T.idleUp t k ≤ k
  | 0 => ⟨by simp [Tar.idleUp], by simp [Tar.idleUp]⟩
  | k + 1 => by
    have := Tar.idleUp_range T t k
    unfold Tar.idleUp
    split <;> omega
end Eb
/-! max(xs, default=d) -/
namespace MxD
open PySem PyProof.Rows
theorem args_ok (a v : Value) : argsOk "max" ⟨[a], [(Str.ofString "default", v)]⟩ := by unfold argsOk; kernel_rfl
section
variable {prog : Program} {w : World} {A : Around} {R : Result → Shared → Prop} {I : Addr} {fp wr : List Addr} {n : Nat} {P : Nat → Value → Prop} {St : Nat → Heap → Prop} {kw : List (Str × Value)}
theorem loop_on (W : Walks prog w A.in1 I fp wr n P St) (bt : Nat → Nat → Bool) (hcmp : CmpOf prog w A.in1 .Gt P bt) (S : Addr) (hSf : S ∉ fp) :
    ∀ (k j : Nat) (s : Shared) (vb : Value) (c : Nat), n - (j + 1) = k → j + 1 ≤ n → St (j + 1) s.heap → P (argBest bt j) vb → s.heap.get? S = some { cls := .type "list", dict := none, data := .seq #[vb, vb] c, slots := #[] } →
    (∀ v h' tk, P (argBest bt (n - 1)) v → (∀ b o, b ∉ wr → b ≠ S → s.heap.get? b = some o → h'.get? b = some o) → R (.ok (.ret v)) { s with heap := h', toks := tk }) →
    codeAny (model prog w) A (.builtin "max.loop" ⟨[.ref I, .none, .ref S], kw⟩) R s := by
  have nsw : S ∉ wr := fun h => hSf (W.sub _ h)
  have nm : (toString "max" ++ toString ".loop" : String) = "max.loop" := by decide
  intro k
  induction k with
  | zero =>
    intro j s vb c hk hj hst hpb hs hr
    have hin : j + 1 = n := by omega
    refine codeAny_builtin F.entry_max_loop ?_
    rw [Around.under_plainId F.plain_max_loop _]
    refine wpAny_bind (wpAny_seqItems hs rfl ?_)
    show wpAny _ A.in1 (tryCatch (pyNext (.ref I)) _ >>= _) _ _ s
    refine wpAny_bind (wpAny_tryCatch (W.done s _ _ (hin ▸ hst) fun h1 tk h2 => ?_))
    have hs1 := h2 S _ nsw hs
    refine wpAny_bind ?_
    refine wpAny_updateSeq hs1 rfl (wpAny_bind (wpAny_letGo (wpAny_pure ?_)))
    exact hr vb _ tk (by rw [← hin]; exact hpb) fun b o hbw hbS e => (Heap.get?_update_other _ _ (Ne.symm hbS)).trans (h2 b o hbw e)
  | succ k ih =>
    intro j s vb c hk hj hst hpb hs hr
    have hlt : j + 1 < n := by omega
    refine codeAny_builtin F.entry_max_loop ?_
    rw [Around.under_plainId F.plain_max_loop _]
    refine wpAny_bind (wpAny_seqItems hs rfl ?_)
    show wpAny _ A.in1 (tryCatch (pyNext (.ref I)) _ >>= _) _ _ s
    refine wpAny_bind (wpAny_tryCatch (W.item (j + 1) s _ _ hlt hst fun v h1 tk hp hst1 h2 => ?_))
    have hs1 := h2 S _ nsw hs
    show wpAny _ A.in1 (tryCatch (holding [v, v] (richCompare .Gt v vb >>= _)) _ >>= _) _ _ _
    refine wpAny_bind (wpAny_tryCatch (wpAny_holding (wpAny_bind (hcmp (j + 1) (argBest bt j) v vb _ _ _ hp hpb ?_))))
    refine wpAny_bind (wpAny_holding (wpAny_truthy_bool ?_))
    refine wpAny_bind (wpAny_letGo (wpAny_pure ?_))
    cases hb : bt (j + 1) (argBest bt j) with
    | true =>
      simp only [if_true]
      refine wpAny_bind ?_
      refine wpAny_updateSeq hs1 rfl (wpAny_bind (wpAny_letGo ?_))
      rw [nm]
      refine wpAny_pure ⟨plainId_quiet F.plain_max_loop _, ih (j + 1) _ v _ (by omega) hlt (W.frame _ _ _ hst1 fun b hbf o e => ?_) (by simp only [argBest, hb, if_true]; exact hp) (Heap.get?_update_self _ hs1 rfl) fun v3 h3 tk3 hp3 hk3 => ?_⟩
      · exact (Heap.get?_update_other _ _ (fun h : S = b => hSf (by rw [h]; exact hbf))).trans e
      · exact hr v3 h3 tk3 hp3 fun b o hbw hbS e => hk3 b o hbw hbS ((Heap.get?_update_other _ _ (Ne.symm hbS)).trans (h2 b o hbw e))
    | false =>
      simp only [Bool.false_eq_true, if_false]
      refine wpAny_bind (wpAny_letGo ?_)
      rw [nm]
      refine wpAny_pure ⟨plainId_quiet F.plain_max_loop _, ih (j + 1) _ vb c (by omega) hlt hst1 (by simp only [argBest, hb, Bool.false_eq_true, if_false]; exact hpb) hs1 fun v3 h3 tk3 hp3 hk3 => ?_⟩
      exact hr v3 h3 tk3 hp3 fun b o hbw hbS e => hk3 b o hbw hbS (h2 b o hbw e)
theorem loop_first (W : Walks prog w A.in1 I fp wr n P St) (bt : Nat → Nat → Bool) (hcmp : CmpOf prog w A.in1 .Gt P bt) (S : Addr) (hSf : S ∉ fp) (hn : 0 < n) {s : Shared} {c : Nat} (hst : St 0 s.heap) (hs : s.heap.get? S = some { cls := .type "list", dict := none, data := .seq #[] c, slots := #[] })
    (hr : ∀ v h' tk, P (argBest bt (n - 1)) v → (∀ b o, b ∉ wr → b ≠ S → s.heap.get? b = some o → h'.get? b = some o) → R (.ok (.ret v)) { s with heap := h', toks := tk }) :
    codeAny (model prog w) A (.builtin "max.loop" ⟨[.ref I, .none, .ref S], kw⟩) R s := by
  have nsw : S ∉ wr := fun h => hSf (W.sub _ h)
  have nm : (toString "max" ++ toString ".loop" : String) = "max.loop" := by decide
  refine codeAny_builtin F.entry_max_loop ?_
  rw [Around.under_plainId F.plain_max_loop _]
  refine wpAny_bind (wpAny_seqItems hs rfl ?_)
  show wpAny _ A.in1 (tryCatch (pyNext (.ref I)) _ >>= _) _ _ s
  refine wpAny_bind (wpAny_tryCatch (W.item 0 s _ _ hn hst fun v h1 tk hp hst1 h2 => ?_))
  have hs1 := h2 S _ nsw hs
  show wpAny _ A.in1 (updateSeq S (fun _ => #[v, v]) >>= _) _ _ _
  refine wpAny_bind ?_
  refine wpAny_updateSeq hs1 rfl ?_
  rw [nm]
  refine wpAny_pure ⟨plainId_quiet F.plain_max_loop _, loop_on W bt hcmp S hSf _ 0 _ v _ rfl hn (W.frame _ _ _ hst1 fun b hbf o e => ?_) hp (Heap.get?_update_self _ hs1 rfl) fun v3 h3 tk3 hp3 hk3 => ?_⟩
  · exact (Heap.get?_update_other _ _ (fun h : S = b => hSf (by rw [h]; exact hbf))).trans e
  · exact hr v3 h3 tk3 hp3 fun b o hbw hbS e => hk3 b o hbw hbS ((Heap.get?_update_other _ _ (Ne.symm hbS)).trans (h2 b o hbw e))
/-- nothing to walk: what was given -/
theorem loop_none (W : Walks prog w A.in1 I fp wr 0 P St) (S : Addr) (hSf : S ∉ fp) {s : Shared} {c : Nat} {dn : Str} {d : Value} (hst : St 0 s.heap) (hs : s.heap.get? S = some { cls := .type "list", dict := none, data := .seq #[] c, slots := #[] })
    (hr : ∀ h' tk, (∀ b o, b ∉ wr → b ≠ S → s.heap.get? b = some o → h'.get? b = some o) → R (.ok (.ret d)) { s with heap := h', toks := tk }) :
    codeAny (model prog w) A (.builtin "max.loop" ⟨[.ref I, .none, .ref S], [(dn, d)]⟩) R s := by
  refine codeAny_builtin F.entry_max_loop ?_
  rw [Around.under_plainId F.plain_max_loop _]
  refine wpAny_bind (wpAny_seqItems hs rfl ?_)
  show wpAny _ A.in1 (tryCatch (pyNext (.ref I)) _ >>= _) _ _ s
  refine wpAny_bind (wpAny_tryCatch (W.done s _ _ hst fun h1 tk h2 => ?_))
  refine wpAny_bind (wpAny_rule (wpAny_pure ?_))
  exact hr h1 tk fun b o hbw _ e => h2 b o hbw e
end
section
variable {prog : Program} {w : World} {A : Around} {E : Value → Shared → Prop} {s : Shared} {l : Addr} {xs : Array (Int × Tok)}
theorem call_maxD {d : Value} {Q : Value → Shared → Prop} (hh : A.handled = none) (hl : s.heap.IsList l (intItems xs))
    (h0 : xs.size = 0 → ∀ h' tk, (∀ b o, s.heap.get? b = some o → h'.get? b = some o) → Q d { s with heap := h', toks := tk })
    (h : 0 < xs.size → ∀ v h' tk, (intItems xs)[argBest (fun i j => decide (numAt xs i > numAt xs j)) (xs.size - 1)]? = some v → (∀ b o, s.heap.get? b = some o → h'.get? b = some o) → Q v { s with heap := h', toks := tk }) :
    wpAny (model prog w) A (call (.builtin "max") [.ref l] [(Str.ofString "default", d)]) Q E s := by
  have nm : (toString "max" ++ toString ".loop" : String) = "max.loop" := by decide
  refine kmk_tree F.kind_max F.plain_max F.entry_max (args_ok _ _) ?_
  show wpAny _ A.in1 (Builtin.Builtins.bindParams "max" ["key", "default"] 0 ⟨[], [(Str.ofString "default", d)]⟩ >>= _) _ _ s
  refine wpAny_bind (wpAny_of_eq (show Builtin.Builtins.bindParams "max" ["key", "default"] 0 ⟨[], [(Str.ofString "default", d)]⟩ = pure [none, some d] from rfl) ?_)
  refine wpAny_bind (wpAny_pure ?_)
  refine wpAny_bind (iter_intList hl fun s2 e st hfp hlI => ?_)
  subst e
  refine wpAny_bind (wpAny_newObj_type ?_ (Nat.zero_le _))
  have hSf : (s.heap.push { cls := .type "list_iterator", data := .fields #[.ref l, .int 0 0] }).objs.size ∉ [s.heap.objs.size, l] := fun hm => Nat.lt_irrefl _ (hfp _ hm)
  have W := Walks.list (prog := prog) (w := w) (A := A.in1) hh s.heap.objs.size l hlI (intItems xs)
  rw [nm]
  refine wpAny_pure ⟨plainId_quiet F.plain_max_loop _, ?_⟩
  have fin : ∀ (h' : Heap), (∀ b o, b ∉ [s.heap.objs.size] → b ≠ (s.heap.push { cls := .type "list_iterator", data := .fields #[.ref l, .int 0 0] }).objs.size → ((s.heap.push { cls := .type "list_iterator", data := .fields #[.ref l, .int 0 0] }).push { cls := .type "list", data := .seq #[] }).get? b = some o → h'.get? b = some o) →
      ∀ b o, s.heap.get? b = some o → h'.get? b = some o := fun h' k b o e => by
    have lt := Heap.lt_size e
    refine k b o (fun hm => ?_) (fun z => ?_) (Heap.get?_push_of_some _ (Heap.get?_push_of_some _ e))
    · have z : b = s.heap.objs.size := by simpa using hm
      exact absurd z (Nat.ne_of_lt lt)
    · rw [Heap.size_push] at z
      exact absurd z (Nat.ne_of_lt (Nat.lt_succ_of_lt lt))
  have st2 := W.frame 0 _ ((s.heap.push { cls := .type "list_iterator", data := .fields #[.ref l, .int 0 0] }).push { cls := .type "list", data := .seq #[] }) st fun b _ o e => Heap.get?_push_of_some _ e
  by_cases hz : xs.size = 0
  · have hz2 : (intItems xs).size = 0 := by simpa [intItems] using hz
    rw [hz2] at W
    exact loop_none W _ hSf st2 (Heap.get?_push_size _ rfl) fun h' tk k => h0 hz h' tk (fin h' k)
  · have hp : 0 < xs.size := by omega
    have hz2 : 0 < (intItems xs).size := by simpa [intItems] using hp
    exact loop_first W _ (CmpOf.ints_gt (numAt xs) (fun _ _ => intItems_at)) _ hSf hz2 st2 (Heap.get?_push_size _ rfl) fun v h' tk hP k => h hp v h' tk (by simpa [intItems] using hP) (fin h' k)
end
end MxD
namespace Eb
open PySem PySem.Spec PyProof.Rows L2
def rMaxD (K : PySem.W.Frag) : List V → List V → Hp → VK → Prop := fun xs zs H Q => ∃ (a : Addr) (ns : List Int) (d : Int), xs = [.ref a] ∧ zs = [.int d] ∧ SqL K H a (ns.map V.int) ∧ ∀ m, (ns = [] ∧ m = d ∨ m ∈ ns ∧ ∀ y, y ∈ ns → y ≤ m) → Q (.int m) H
theorem cr_maxD {X : Cx} (hc : X.calm = true) : CallRK X (.builtin "max") ["default"] (rMaxD X.K) := by
  intro pins s σ H xs zs us ws Q I r rz h
  obtain ⟨a, ns, d, rfl, rfl, hs, q⟩ := h
  obtain ⟨its, rv, hl, _⟩ := I.list hs
  rw [Vals.ref1 r]
  obtain ⟨u, rfl, t, rfl⟩ : ∃ u, ws = [u] ∧ ∃ t, u = Value.int d t := by
    cases rz with
    | cons r1 rr =>
      cases rr
      exact ⟨_, rfl, r1⟩
  have hi := rv.ints
  obtain ⟨xs, e⟩ := hi.allInts.items
  have hn : numsOf (intItems xs).toList = ns := by rw [← e]; exact hi.numsOf
  rw [nums_intItems] at hn
  subst hn
  have hl2 := hl.isList
  rw [e] at hl2
  refine MxD.call_maxD (I.ok.hd hc) hl2 (fun hz h' tk hk => ?_) fun hp v h' tk hv hk => ?_
  · refine ⟨.int d, H, I.kept hk, ⟨_, rfl⟩, q d (.inl ⟨?_, rfl⟩)⟩
    apply List.eq_nil_of_length_eq_zero
    rw [List.length_map, Array.length_toList]
    exact hz
  · obtain ⟨t2, rfl⟩ := intItems_at hv
    obtain ⟨h1, h2⟩ := argBest_gt (numAt xs) (xs.size - 1)
    refine ⟨.int _, H, I.kept hk, ⟨_, rfl⟩, q _ (.inr ⟨?_, fun y hy => ?_⟩)⟩
    · rw [numAt_eq]
      exact PySem.getD_mem (by rw [List.length_map, Array.length_toList]; omega)
    · obtain ⟨j, hj, rfl⟩ := mem_getD hy
      rw [List.length_map, Array.length_toList] at hj
      rw [← numAt_eq]
      exact h2 j (by omega)
section
variable {K : PySem.W.Frag} {F : Fr} {Γ : List En} {μ : Mu} {S : Rv → Prop} {t tk : TA}
def Rck (F : Fr) (μ : Mu) (r : List V → List V → Hp → VK → Prop) (xs zs : List Rv) (S : Rv → Prop) : Prop := ∀ Z H, Wd F μ Z H → ∀ vs ws, AlR F Z xs vs → AlR F Z zs ws → ∀ Q : VK, (∀ u t Z' H', S t → Wd F μ Z' H' → Same Z Z' → t.ok F Z' u → Q u H') → r vs ws H Q
theorem te_ckw {r : List V → List V → Hp → VK → Prop} (h : TAv F Γ μ t (fun xs => TAv F Γ μ tk (fun zs => Rck F μ r xs zs S))) : TEv F Γ μ (tCKw r t tk) S := fun σ Z H w e Q k => h σ Z H w e _ fun vs xs Z1 H1 s1 w1 z1 p1 =>
  s1 σ Z1 H1 w1 (e.mono z1) _ fun ws zs Z2 H2 s2 w2 z2 p2 => s2 Z2 H2 w2 vs ws (p1.mono z2) p2 Q fun u t Z3 H3 s3 w3 z3 p3 => k u t Z3 H3 s3 w3 ((z1.trans z2).trans z3) p3
theorem rck_maxD {x : Rv} {l : Lv} {ns : List Int} {d : Int} (h : SqLs F μ x l (ns.map vI)) (s : ∀ m, (ns = [] ∧ m = d ∨ m ∈ ns ∧ ∀ y, y ∈ ns → y ≤ m) → S (.z (vI m))) : Rck F μ (rMaxD K) [x] [.z (vI d)] S := fun Z H w vs ws al al2 Q k => by
  obtain ⟨v, rfl, hv⟩ := alr1 al
  obtain ⟨v2, rfl, hv2⟩ := alr1 al2
  have e2 : v2 = .int d := hv2
  subst e2
  obtain ⟨a, us, rfl, q, al3⟩ := h Z H v w hv
  exact ⟨a, ns, d, rfl, rfl, SqL.of (by rw [← al3.ints]; exact q), fun m hm => k _ _ Z H (s m hm) w (Same.refl Z) rfl⟩
end
end Eb
namespace Eb
open PySem PySem.Spec PyProof.Rows L2
/-! ### plain words: runs, plans, papers -/
def psum (ps : List Int) (a b : Int) : Int := (cutR ps (some a) (some b)).sum
def brk (br : List Int) (f s : Int) : Bool := br.any fun m => decide (f ≤ m) && decide (m < s)
def gapState (T : Tar) (ps br : List Int) (f s : Int) : Int := if brk br f s = true then (T.rates.length : Int) else T.idle (psum ps (f + 1) s)
def fill (row : List Int) (a b : Nat) (s : Int) : List Int := (List.range row.length).map fun k => if a ≤ k ∧ k < b then s else row.getD k 0
/-- the lane's row behind k moments, the last moment in which it was needed -/
def laneUp (T : Tar) (ps ns br : List Int) (lane : Int) : Nat → List Int × Option Nat
  | 0 => (List.replicate ps.length (T.rates.length : Int), none)
  | k + 1 =>
    let (row, last) := laneUp T ps ns br lane k
    if lane ≤ gi ns k then
      (match last with
        | none => row.set k 0
        | some l => fill (row.set k 0) (l + 1) k (gapState T ps br l k), some k)
    else (row, last)
theorem fill_length (row : List Int) (a b : Nat) (s : Int) : (fill row a b s).length = row.length := by simp [fill]
theorem fill_nil (row : List Int) (a : Nat) (s : Int) : fill row a a s = row := by
  apply List.ext_getElem?
  intro k
  unfold fill
  rw [List.getElem?_map]
  by_cases h : k < row.length
  · rw [List.getElem?_range h]
    have e : ¬ (a ≤ k ∧ k < a) := by omega
    simp [e, h]
  · rw [List.getElem?_eq_none (by rw [List.length_range]; omega), List.getElem?_eq_none (by omega)]
    rfl
theorem fill_get (row : List Int) (a b : Nat) (s : Int) (k : Nat) (h : k < row.length) : (fill row a b s).getD k 0 = if a ≤ k ∧ k < b then s else row.getD k 0 := by
  unfold fill
  rw [List.getD_eq_getElem?_getD, List.getElem?_map, List.getElem?_range h]
  rfl
theorem fill_step (row : List Int) (a j : Nat) (s : Int) (h : a + j < row.length) : fill row a (a + (j + 1)) s = (fill row a (a + j) s).set (a + j) s := by
  apply List.ext_getElem?
  intro k
  rw [List.getElem?_set, fill_length]
  unfold fill
  rw [List.getElem?_map, List.getElem?_map]
  by_cases hk : k < row.length
  · rw [List.getElem?_range hk]
    by_cases e : a + j = k
    · subst e
      simp [h]
    · rw [if_neg e]
      have e1 : (a ≤ k ∧ k < a + (j + 1)) ↔ (a ≤ k ∧ k < a + j) := by omega
      simp [e1]
  · rw [List.getElem?_eq_none (by rw [List.length_range]; omega), if_neg (by omega)]
    rfl
theorem laneUp_length (T : Tar) (ps ns br : List Int) (lane : Int) : ∀ k, (laneUp T ps ns br lane k).1.length = ps.length
  | 0 => by simp [laneUp]
  | k + 1 => by
    have ih := laneUp_length T ps ns br lane k
    unfold laneUp
    dsimp only
    split
    · dsimp only
      split
      · rw [List.length_set, ih]
      · rw [fill_length, List.length_set, ih]
    · exact ih
theorem laneUp_last (T : Tar) (ps ns br : List Int) (lane : Int) : ∀ k l, (laneUp T ps ns br lane k).2 = some l → l < k
  | 0, l, h => by simp [laneUp] at h
  | k + 1, l, h => by
    have ih := laneUp_last T ps ns br lane k l
    unfold laneUp at h
    dsimp only at h
    split at h
    · simp at h
      omega
    · have := ih h
      omega
theorem laneUp_no {T : Tar} {ps ns br : List Int} {lane : Int} {k : Nat} (h : ¬ lane ≤ gi ns k) : laneUp T ps ns br lane (k + 1) = laneUp T ps ns br lane k := by
  conv => lhs; unfold laneUp
  dsimp only
  rw [if_neg h]
theorem laneUp_new {T : Tar} {ps ns br : List Int} {lane : Int} {k : Nat} (h : lane ≤ gi ns k) (hl : (laneUp T ps ns br lane k).2 = none) : laneUp T ps ns br lane (k + 1) = ((laneUp T ps ns br lane k).1.set k 0, some k) := by
  conv => lhs; unfold laneUp
  dsimp only
  rw [if_pos h, hl]
theorem laneUp_go {T : Tar} {ps ns br : List Int} {lane : Int} {k l : Nat} (h : lane ≤ gi ns k) (hl : (laneUp T ps ns br lane k).2 = some l) : laneUp T ps ns br lane (k + 1) = (fill ((laneUp T ps ns br lane k).1.set k 0) (l + 1) k (gapState T ps br l k), some k) := by
  conv => lhs; unfold laneUp
  dsimp only
  rw [if_pos h, hl]
theorem at_map {ns : List Int} {k : Nat} {P : Rp} (h : (ns.map vI)[k]? = some P) : k < ns.length ∧ P = vI (gi ns k) := by
  rw [List.getElem?_map] at h
  cases q : ns[k]? with
  | none =>
    rw [q] at h
    cases h
  | some x =>
    rw [q] at h
    cases h
    have lt := (List.getElem?_eq_some_iff.mp q).1
    refine ⟨lt, ?_⟩
    unfold gi
    rw [Int.toNat_natCast, List.getD_eq_getElem?_getD, q]
    rfl
theorem ixn_nat {n k : Nat} (h : k < n) : ixN n (k : Int) = some k := by
  unfold ixN
  rw [if_pos (by omega), if_pos (by omega), Int.toNat_natCast]
def laneRow (T : Tar) (ps ns br : List Int) (lane : Int) : List Int := (laneUp T ps ns br lane ns.length).1
def maxN (ns : List Int) : Int := ns.foldl (fun m x => if x > m then x else m) 0
def chPlan (T : Tar) (ps ns br : List Int) : List (List Int) := (List.range (maxN ns).toNat).map fun (l : Nat) => laneRow T ps ns br ((l : Int) + 1)
abbrev Fresh (br : List Int) (k : Int) : Prop := k = 0 ∨ k - 1 ∈ br
def bef (T : Tar) (br row : List Int) (k : Int) : Int := if Fresh br k then (T.rates.length : Int) else gi row (k - 1)
def StOk (T : Tar) (br row : List Int) (k : Int) : Prop := 0 ≤ gi row k ∧ gi row k ≤ (T.rates.length : Int) ∧ T.step (bef T br row k) (gi row k) ≠ none
def RowOk (T : Tar) (br row : List Int) (m : Nat) : Prop := row.length = m ∧ ∀ k : Nat, k < m → StOk T br row k
def rowCostUp (T : Tar) (ps br row : List Int) : Nat → Int
  | 0 => 0
  | k + 1 => rowCostUp T ps br row k + T.rate (gi row k) * gi ps k + (T.step (bef T br row k) (gi row k)).getD 0
def rowCost (T : Tar) (ps br row : List Int) : Int := rowCostUp T ps br row row.length
def hotN (plan : List (List Int)) (k : Int) : Nat := (plan.filter fun row => decide (gi row k = 0)).length
def Fits (T : Tar) (m : Nat) (ns br : List Int) (plan : List (List Int)) : Prop := (∀ row ∈ plan, RowOk T br row m) ∧ ∀ k : Nat, k < ns.length → gi ns k ≤ hotN plan k
def planCost (T : Tar) (ps br : List Int) (plan : List (List Int)) : Int := (plan.map (rowCost T ps br)).sum
theorem maxN_le (ns : List Int) : ∀ m : Int, m ≤ ns.foldl (fun m x => if x > m then x else m) m ∧ ∀ y, y ∈ ns → y ≤ ns.foldl (fun m x => if x > m then x else m) m := by
  induction ns with
  | nil => exact fun m => ⟨Int.le_refl m, fun _ h => nomatch h⟩
  | cons n r ih =>
    intro m
    rw [List.foldl_cons]
    obtain ⟨h1, h2⟩ := ih (if n > m then n else m)
    have h3 : m ≤ (if n > m then n else m) ∧ n ≤ (if n > m then n else m) := by split <;> omega
    refine ⟨Int.le_trans h3.1 h1, fun y hy => ?_⟩
    rcases List.mem_cons.mp hy with rfl | hy
    · exact Int.le_trans h3.2 h1
    · exact h2 y hy
theorem maxN_mem (ns : List Int) : ∀ m : Int, ns.foldl (fun m x => if x > m then x else m) m = m ∨ ns.foldl (fun m x => if x > m then x else m) m ∈ ns := by
  induction ns with
  | nil => exact fun m => .inl rfl
  | cons n r ih =>
    intro m
    rw [List.foldl_cons]
    rcases ih (if n > m then n else m) with h | h
    · rw [h]
      split
      · exact .inr (List.mem_cons_self ..)
      · exact .inl rfl
    · exact .inr (List.mem_cons_of_mem _ h)
theorem maxN_is {ns : List Int} (h0 : ∀ x, x ∈ ns → 0 ≤ x) {m : Int} (h : ns = [] ∧ m = 0 ∨ m ∈ ns ∧ ∀ y, y ∈ ns → y ≤ m) : m = maxN ns := by
  rcases h with ⟨rfl, rfl⟩ | ⟨h1, h2⟩
  · rfl
  · have a := (maxN_le ns 0).2 m h1
    rcases maxN_mem ns 0 with e | e
    · have := h0 m h1
      unfold maxN
      omega
    · have := h2 _ e
      unfold maxN
      omega
theorem gi_mem {ns : List Int} {i : Int} (h0 : 0 ≤ i) (h : i < ns.length) : gi ns i ∈ ns := by
  unfold gi
  have lt : i.toNat < ns.length := by omega
  rw [List.getD_eq_getElem?_getD, List.getElem?_eq_getElem lt]
  exact List.getElem_mem lt
theorem mem_gi {ns : List Int} {x : Int} (h : x ∈ ns) : ∃ i : Int, 0 ≤ i ∧ i < ns.length ∧ gi ns i = x := by
  obtain ⟨n, hn, e⟩ := List.mem_iff_getElem.mp h
  refine ⟨(n : Int), by omega, by omega, ?_⟩
  unfold gi
  rw [Int.toNat_natCast, List.getD_eq_getElem?_getD, List.getElem?_eq_getElem hn]
  exact e
theorem at_mapF {α : Type} {xs : List α} {f : α → Rp} {k : Nat} {P : Rp} (h : (xs.map f)[k]? = some P) : ∃ x, xs[k]? = some x ∧ P = f x := by
  rw [List.getElem?_map] at h
  cases q : xs[k]? with
  | none =>
    rw [q] at h
    cases h
  | some x =>
    rw [q] at h
    cases h
    exact ⟨x, rfl, rfl⟩
/-! ### the net -/
inductive Pl where
  | ground
  | inn (t : Int)
  | out (t : Int)
  | asleep (t s : Int)
  deriving DecidableEq
def Pl.w : Pl → Str
  | .ground => "ground"
  | .inn _ => "in"
  | .out _ => "out"
  | .asleep _ _ => "asleep"
def Pl.a : Pl → Int
  | .ground => 0
  | .inn t => t
  | .out t => t
  | .asleep t _ => t
def Pl.b : Pl → Int
  | .asleep _ s => s
  | _ => 0
def plR (K : PySem.W.Frag) (p : Pl) : Rp := TP K [vS p.w, vI p.a, vI p.b]
structure Way where
  s : Pl
  e : Pl
  c : Int
def wayR (K : PySem.W.Frag) (x : Way) : Rp := TP K [plR K x.s, plR K x.e, vI x.c]
def plAfter (T : Tar) (t s : Int) : Pl := if s = (T.rates.length : Int) then .ground else if s = 0 then .out t else .asleep t s
def statesIn (T : Tar) (br : List Int) (k : Int) : List Int := if Fresh br k then [0, (T.rates.length : Int)] else rgI ((T.rates.length : Int) + 1)
def mx1 (b : Int) : Int := if 1 > b then 1 else b
def rg2 (a b : Int) : List Int := (List.range (b - a).toNat).map fun (k : Nat) => a + (k : Int)
def waysB (T : Tar) (ps br : List Int) (t b : Int) : List Way :=
  if b ∈ statesIn T br (t - 1) then ⟨plAfter T (t - 1) b, .inn t, T.wake b⟩ :: (rg2 (mx1 b) T.rates.length).map (fun s => ⟨plAfter T (t - 1) b, .asleep t s, T.rate s * gi ps t⟩) else []
def waysInto (T : Tar) (ps br : List Int) (t : Int) : List Way :=
  [⟨.ground, .inn t, T.wake T.rates.length⟩, ⟨.inn t, .out t, T.rate 0 * gi ps t⟩] ++ if Fresh br t then [] else (rgI T.rates.length).flatMap (waysB T ps br t)
def waysAt (T : Tar) (ps br : List Int) (t : Int) : List Way :=
  waysInto T ps br t ++ ((statesIn T br t).filter fun s => decide (s ≠ (T.rates.length : Int))).map fun s => ⟨plAfter T t s, .ground, 0⟩
def allWays (T : Tar) (ps br : List Int) : List Way := (List.range ps.length).flatMap fun (t : Nat) => waysAt T ps br t
/-- a run's numbers -/
structure RunOk (ps ns br : List Int) : Prop where
  len : ns.length = ps.length
  few : ps.length ≤ 100
  pb : ∀ i : Int, 0 ≤ i → i < ps.length → 0 ≤ gi ps i ∧ gi ps i ≤ 1000
  nb : ∀ i : Int, 0 ≤ i → i < ns.length → 0 ≤ gi ns i ∧ gi ns i ≤ 1000
  bf : br.length ≤ 1000
theorem RunOk.nn {ps ns br : List Int} (r : RunOk ps ns br) : ∀ x, x ∈ ns → 0 ≤ x := fun x hx => by
  obtain ⟨i, h0, h1, e⟩ := mem_gi hx
  have := r.nb i h0 h1
  omega
theorem RunOk.mx {ps ns br : List Int} (r : RunOk ps ns br) : 0 ≤ maxN ns ∧ maxN ns ≤ 1000 := by
  refine ⟨(maxN_le ns 0).1, ?_⟩
  rcases maxN_mem ns 0 with e | e
  · unfold maxN
    omega
  · obtain ⟨i, h0, h1, e2⟩ := mem_gi e
    have := r.nb i h0 h1
    unfold maxN
    omega
end Eb
namespace Eb
open PySem PySem.Spec PyProof.Rows L2
/-! ### papers -/
def rowAt (hs : List (List Int)) (k : Int) : List Int := hs.getD k.toNat []
def hBefore (T : Tar) (br : List Int) (hs : List (List Int)) (k : Int) : List (Int × Int) :=
  if k = 0 then [((T.rates.length : Int), 0)] else (statesIn T br (k - 1)).map fun s => (if Fresh br k then (T.rates.length : Int) else s, gi (rowAt hs (k - 1)) s)
def netC (T : Tar) (ps gs : List Int) (k s : Int) : Int := if s = 0 then T.rate s * gi ps k - gi gs k else T.rate s * gi ps k
def cands (T : Tar) (bf : List (Int × Int)) (own s : Int) : List Int := bf.filterMap fun q => (T.step q.1 s).map fun c => q.2 + c + own
def CellOk (T : Tar) (ps br gs : List Int) (hs : List (List Int)) (k s : Int) : Prop :=
  if s ∈ statesIn T br k then (∀ c, c ∈ cands T (hBefore T br hs k) (netC T ps gs k s) s → gi (rowAt hs k) s ≤ c) ∧ (k = (ps.length : Int) - 1 → 0 ≤ gi (rowAt hs k) s) else gi (rowAt hs k) s = 0
def RowSound (T : Tar) (ps br gs : List Int) (hs : List (List Int)) (k : Int) : Prop := ∀ s : Int, 0 ≤ s → s ≤ (T.rates.length : Int) → CellOk T ps br gs hs k s
def Sized (T : Tar) (ps gs : List Int) (hs : List (List Int)) : Prop := gs.length = ps.length ∧ hs.length = ps.length ∧ ∀ r, r ∈ hs → r.length = T.rates.length + 1
structure PSound (T : Tar) (ps br gs : List Int) (hs : List (List Int)) : Prop where
  sz : Sized T ps gs hs
  pos : ∀ g, g ∈ gs → 0 ≤ g
  ok : ∀ k : Nat, k < ps.length → RowSound T ps br gs hs k
def pSum (ns gs : List Int) : Int := (List.zipWith (fun n g => n * g) ns gs).sum
abbrev rowR (K : PySem.W.Frag) (r : List Int) : Rp := TP K (r.map vI)
abbrev papR (K : PySem.W.Frag) (gs : List Int) (hs : List (List Int)) : Rp := TP K [TP K (gs.map vI), TP K (hs.map (rowR K))]
theorem at_row {K : PySem.W.Frag} {hs : List (List Int)} {i : Int} (h0 : 0 ≤ i) (h : i < hs.length) : atI (hs.map (rowR K)) i = some (rowR K (rowAt hs i)) := by
  refine at_nat h0 ?_
  unfold rowAt
  rw [List.getElem?_map]
  have lt : i.toNat < hs.length := by omega
  rw [List.getElem?_eq_getElem lt, List.getD_eq_getElem?_getD, List.getElem?_eq_getElem lt]
  rfl
theorem rowAt_mem {hs : List (List Int)} {i : Int} (h0 : 0 ≤ i) (h : i < hs.length) : rowAt hs i ∈ hs := by
  unfold rowAt
  have lt : i.toNat < hs.length := by omega
  rw [List.getD_eq_getElem?_getD, List.getElem?_eq_getElem lt]
  exact List.getElem_mem lt
theorem statesIn_range {T : Tar} {br : List Int} {k s : Int} (h : s ∈ statesIn T br k) : 0 ≤ s ∧ s ≤ (T.rates.length : Int) := by
  unfold statesIn at h
  split at h
  · rcases List.mem_cons.mp h with rfl | h
    · omega
    · rcases List.mem_cons.mp h with rfl | h
      · omega
      · cases h
  · unfold rgI at h
    obtain ⟨j, hj, rfl⟩ := List.mem_map.mp h
    have := List.mem_range.mp hj
    omega
theorem statesIn_le {T : Tar} (o : T.Ok) (br : List Int) (k : Int) : (statesIn T br k).length ≤ 5 := by
  have := o.le
  unfold statesIn
  split
  · simp
  · unfold rgI
    rw [List.length_map, List.length_range]
    omega
theorem off_mem (T : Tar) (br : List Int) (k : Int) : (T.rates.length : Int) ∈ statesIn T br k := by
  unfold statesIn
  split
  · simp
  · unfold rgI
    exact List.mem_map.mpr ⟨T.rates.length, List.mem_range.mpr (by omega), rfl⟩
theorem hBefore_le {T : Tar} (o : T.Ok) (br : List Int) (hs : List (List Int)) (k : Int) : (hBefore T br hs k).length ≤ 5 := by
  unfold hBefore
  split
  · simp
  · rw [List.length_map]
    exact statesIn_le o br (k - 1)
theorem hBefore_off {T : Tar} {br : List Int} {hs : List (List Int)} {k : Int} {q : Int × Int} (h : q ∈ hBefore T br hs k) : q.1 ≤ (T.rates.length : Int) ∧ 0 ≤ q.1 := by
  unfold hBefore at h
  split at h
  · rcases List.mem_cons.mp h with rfl | h
    · exact ⟨Int.le_refl _, by show (0 : Int) ≤ (T.rates.length : Int); omega⟩
    · cases h
  · obtain ⟨s, hs, rfl⟩ := List.mem_map.mp h
    have := statesIn_range hs
    dsimp only
    split <;> omega
/-- the ways into a state that there is -/
theorem cands_ne {T : Tar} {br : List Int} {hs : List (List Int)} {k s own : Int} (h : s ∈ statesIn T br k) : cands T (hBefore T br hs k) own s ≠ [] := by
  have hr := statesIn_range h
  have key : ∃ q, q ∈ hBefore T br hs k ∧ T.step q.1 s ≠ none := by
    by_cases h0 : k = 0
    · refine ⟨((T.rates.length : Int), 0), by unfold hBefore; rw [if_pos h0]; exact List.mem_singleton.mpr rfl, ?_⟩
      have : s = 0 ∨ s = (T.rates.length : Int) := by
        unfold statesIn at h
        rw [if_pos (.inl h0)] at h
        simpa using h
      unfold Tar.step
      split
      · simp
      · rw [if_pos (by simp only at *; omega)]
        simp
    · by_cases hf : Fresh br k
      · refine ⟨((T.rates.length : Int), gi (rowAt hs (k - 1)) (T.rates.length : Int)), ?_, ?_⟩
        · unfold hBefore
          rw [if_neg h0]
          exact List.mem_map.mpr ⟨_, off_mem T br (k - 1), by rw [if_pos hf]⟩
        · have : s = 0 ∨ s = (T.rates.length : Int) := by
            unfold statesIn at h
            rw [if_pos hf] at h
            simpa using h
          unfold Tar.step
          split
          · simp
          · rw [if_pos (by simp only at *; omega)]
            simp
      · have z0 : (0 : Int) ∈ statesIn T br (k - 1) := by
          unfold statesIn
          split
          · simp
          · unfold rgI
            exact List.mem_map.mpr ⟨0, List.mem_range.mpr (by omega), rfl⟩
        refine ⟨(0, gi (rowAt hs (k - 1)) 0), ?_, ?_⟩
        · unfold hBefore
          rw [if_neg h0]
          exact List.mem_map.mpr ⟨_, z0, by rw [if_neg hf]⟩
        · unfold Tar.step
          rw [if_pos (by simp only; omega)]
          simp
  obtain ⟨q, hq, hn⟩ := key
  cases e : T.step q.1 s with
  | none => exact absurd e hn
  | some c =>
    intro z
    have : q.2 + c + own ∈ cands T (hBefore T br hs k) own s := List.mem_filterMap.mpr ⟨q, hq, by rw [e]; rfl⟩
    rw [z] at this
    cases this
theorem cands_le (T : Tar) (bf : List (Int × Int)) (own s : Int) : (cands T bf own s).length ≤ bf.length := List.length_filterMap_le ..
def minL : List Int → Int
  | [] => 0
  | x :: r => r.foldl min x
theorem minL_go : ∀ (r : List Int) (x : Int), r.foldl min x ≤ x ∧ (∀ y, y ∈ r → r.foldl min x ≤ y) ∧ (r.foldl min x = x ∨ r.foldl min x ∈ r)
  | [], x => ⟨Int.le_refl _, fun _ h => (nomatch h), .inl rfl⟩
  | y :: r, x => by
    obtain ⟨h1, h2, h3⟩ := minL_go r (min x y)
    rw [List.foldl_cons]
    have hx : min x y ≤ x := Int.min_le_left ..
    have hy : min x y ≤ y := Int.min_le_right ..
    refine ⟨Int.le_trans h1 hx, fun z hz => ?_, ?_⟩
    · rcases List.mem_cons.mp hz with rfl | hz
      · exact Int.le_trans h1 hy
      · exact h2 z hz
    · rcases h3 with e | e
      · rw [e]
        rcases Int.le_total x y with q | q
        · exact .inl (Int.min_eq_left q)
        · exact .inr (by rw [Int.min_eq_right q]; exact List.mem_cons_self ..)
      · exact .inr (List.mem_cons_of_mem _ e)
theorem minL_le {xs : List Int} {y : Int} (h : y ∈ xs) : minL xs ≤ y := by
  cases xs with
  | nil => cases h
  | cons x r =>
    obtain ⟨h1, h2, _⟩ := minL_go r x
    rcases List.mem_cons.mp h with rfl | h
    · exact h1
    · exact h2 y h
theorem minL_mem {xs : List Int} (h : xs ≠ []) : minL xs ∈ xs := by
  cases xs with
  | nil => exact absurd rfl h
  | cons x r =>
    obtain ⟨_, _, h3⟩ := minL_go r x
    rcases h3 with e | e
    · show r.foldl min x ∈ _
      rw [e]
      exact List.mem_cons_self ..
    · exact List.mem_cons_of_mem _ e
theorem minL_is {xs : List Int} {m : Int} (h1 : m ∈ xs) (h2 : ∀ y, y ∈ xs → m ≤ y) : m = minL xs := by
  have hne : xs ≠ [] := fun z => by rw [z] at h1; cases h1
  have := minL_le h1
  have := h2 _ (minL_mem hne)
  omega
end Eb
namespace Eb
open PySem PySem.Spec PyProof.Rows L2
abbrev IL (ns : List Int) : Rp := LS (ns.map vI)
abbrev ILL (xs : List (List Int)) : Rp := LS (xs.map IL)
def spOff (K : PySem.W.Frag) : Spc := fun A S => ∃ T, A [TF K T] ∧ S (vI (T.rates.length : Nat))
abbrev OkPoff (P : Program) (w : World) (K : PySem.W.Frag) (mg : Str → Option Value) (base : Heap) : Prop := Fn P w K mg base "off" 1 ["tariff"] (toSp (spOff K))
def spRate (K : PySem.W.Frag) : Spc := fun A S => ∃ T s, A [TF K T, vI s] ∧ 0 ≤ s ∧ s ≤ (T.rates.length : Int) ∧ S (vI (T.rate s))
abbrev OkPrate (P : Program) (w : World) (K : PySem.W.Frag) (mg : Str → Option Value) (base : Heap) : Prop := Fn P w K mg base "rate" 2 ["tariff", "state"] (toSp (spRate K))
def spWake (K : PySem.W.Frag) : Spc := fun A S => ∃ T s, A [TF K T, vI s] ∧ 0 ≤ s ∧ s < (T.wakes.length : Int) ∧ S (vI (T.wake s))
abbrev OkPwake (P : Program) (w : World) (K : PySem.W.Frag) (mg : Str → Option Value) (base : Heap) : Prop := Fn P w K mg base "wake" 1 ["tariff", "state"] (toSp (spWake K))
def spStateCost (K : PySem.W.Frag) : Spc := fun A S => ∃ T s t, A [TF K T, vI s, vI t] ∧ T.Ok ∧ 0 ≤ s ∧ s ≤ (T.rates.length : Int) ∧ S (vI (T.cost s t))
abbrev OkPstatecost (P : Program) (w : World) (K : PySem.W.Frag) (mg : Str → Option Value) (base : Heap) : Prop := Fn P w K mg base "state_cost" 3 ["tariff", "state", "total"] (toSp (spStateCost K))
def spStep (K : PySem.W.Frag) : Spc := fun A S => ∃ T b a, A [TF K T, vI b, vI a] ∧ T.Ok ∧ 0 ≤ a ∧ b ≤ (T.rates.length : Int) ∧ S (vO (T.step b a))
abbrev OkPstepcost (P : Program) (w : World) (K : PySem.W.Frag) (mg : Str → Option Value) (base : Heap) : Prop := Fn P w K mg base "step_cost" 2 ["tariff", "before", "after"] (toSp (spStep K))
def spIdle (K : PySem.W.Frag) : Spc := fun A S => ∃ T t, A [TF K T, vI t] ∧ T.Ok ∧ S (vI (T.idle t))
abbrev OkPidlestate (P : Program) (w : World) (K : PySem.W.Frag) (mg : Str → Option Value) (base : Heap) : Prop := Fn P w K mg base "idle_state" 4 ["tariff", "total"] (toSp (spIdle K))
def spBroken : Spc := fun A S => ∃ br f s, A [IL br, vI f, vI s] ∧ br.length ≤ 1000 ∧ S (vB (brk br f s))
abbrev OkPisbroken (P : Program) (w : World) (K : PySem.W.Frag) (mg : Str → Option Value) (base : Heap) : Prop := Fn P w K mg base "is_broken" 1 ["breaks", "first", "second"] (toSp (spBroken))
def spGapState (K : PySem.W.Frag) : Spc := fun A S => ∃ T ps br f s, A [TF K T, IL ps, IL br, vI f, vI s] ∧ T.Ok ∧ br.length ≤ 1000 ∧ S (vI (gapState T ps br f s))
abbrev OkPgapstate (P : Program) (w : World) (K : PySem.W.Frag) (mg : Str → Option Value) (base : Heap) : Prop := Fn P w K mg base "gap_state" 5 ["tariff", "prices", "breaks", "first", "second"] (toSp (spGapState K))
def spLaneRow (K : PySem.W.Frag) : Spc := fun A S => ∃ T ps ns br lane, A [TF K T, IL ps, IL ns, IL br, vI lane] ∧ T.Ok ∧ RunOk ps ns br ∧ S (IL (laneRow T ps ns br lane))
abbrev OkPlanerow (P : Program) (w : World) (K : PySem.W.Frag) (mg : Str → Option Value) (base : Heap) : Prop := Fn P w K mg base "lane_row" 6 ["tariff", "prices", "needs", "breaks", "lane"] (toSp (spLaneRow K))
def spCheapest (K : PySem.W.Frag) : Spc := fun A S => ∃ T ps ns br, A [TF K T, IL ps, IL ns, IL br] ∧ T.Ok ∧ RunOk ps ns br ∧ S (ILL (chPlan T ps ns br))
abbrev OkPcheapest (P : Program) (w : World) (K : PySem.W.Frag) (mg : Str → Option Value) (base : Heap) : Prop := Fn P w K mg base "cheapest" 7 ["tariff", "prices", "needs", "breaks"] (toSp (spCheapest K))
def spBefore (K : PySem.W.Frag) : Spc := fun A S => ∃ T br row k, A [TF K T, IL br, IL row, vI k] ∧ 0 ≤ k ∧ k ≤ row.length ∧ S (vI (bef T br row k))
abbrev OkPbeforeof (P : Program) (w : World) (K : PySem.W.Frag) (mg : Str → Option Value) (base : Heap) : Prop := Fn P w K mg base "before_of" 2 ["tariff", "breaks", "row", "moment"] (toSp (spBefore K))
def spIsRow (K : PySem.W.Frag) : Spc := fun A S => ∃ T br row, ∃ m : Nat, A [TF K T, IL br, IL row, vI (m : Nat)] ∧ T.Ok ∧ ∀ b : Bool, (b = true ↔ RowOk T br row m) → S (vB b)
abbrev OkPisrow (P : Program) (w : World) (K : PySem.W.Frag) (mg : Str → Option Value) (base : Heap) : Prop := Fn P w K mg base "is_row" 3 ["tariff", "breaks", "row", "size"] (toSp (spIsRow K))
def spFits (K : PySem.W.Frag) : Spc := fun A S => ∃ T ps ns br pl, A [TF K T, IL ps, IL ns, IL br, ILL pl] ∧ T.Ok ∧ RunOk ps ns br ∧ pl.length ≤ 1000 ∧ ∀ b : Bool, (b = true ↔ Fits T ps.length ns br pl) → S (vB b)
abbrev OkPfits (P : Program) (w : World) (K : PySem.W.Frag) (mg : Str → Option Value) (base : Heap) : Prop := Fn P w K mg base "fits" 4 ["tariff", "prices", "needs", "breaks", "plan"] (toSp (spFits K))
def spRowCost (K : PySem.W.Frag) : Spc := fun A S => ∃ T ps br row, A [TF K T, IL ps, IL br, IL row] ∧ T.Ok ∧ RowOk T br row ps.length ∧ S (vI (rowCost T ps br row))
abbrev OkProwcost (P : Program) (w : World) (K : PySem.W.Frag) (mg : Str → Option Value) (base : Heap) : Prop := Fn P w K mg base "row_cost" 3 ["tariff", "prices", "breaks", "row"] (toSp (spRowCost K))
def spPlanCost (K : PySem.W.Frag) : Spc := fun A S => ∃ T ps br pl, A [TF K T, IL ps, IL br, ILL pl] ∧ T.Ok ∧ (∀ row, row ∈ pl → RowOk T br row ps.length) ∧ pl.length ≤ 1000 ∧ S (vI (planCost T ps br pl))
abbrev OkPplancost (P : Program) (w : World) (K : PySem.W.Frag) (mg : Str → Option Value) (base : Heap) : Prop := Fn P w K mg base "plan_cost" 4 ["tariff", "prices", "breaks", "plan"] (toSp (spPlanCost K))
theorem te_ground {F : Fr} {Γ : List En} {μ : Mu} {K : PySem.W.Frag} {mg : Str → Option Value} {S : Rv → Prop} (C : Ctx K mg) (s : S (.z (plR K .ground))) : TEv F Γ μ (tC (.ref (He.ga K "GROUND"))) S :=
  te_cP (P := plR K .ground) (fun H => ⟨_, [.str "ground", .int 0, .int 0], rfl, C.gr H, rfl, rfl, rfl, trivial⟩) s
def spPlaceAfter (K : PySem.W.Frag) : Spc := fun A S => ∃ T t s, A [TF K T, vI t, vI s] ∧ S (plR K (plAfter T t s))
abbrev OkPplaceafter (P : Program) (w : World) (K : PySem.W.Frag) (mg : Str → Option Value) (base : Heap) : Prop := Fn P w K mg base "place_after" 2 ["tariff", "moment", "state"] (toSp (spPlaceAfter K))
def spFresh : Spc := fun A S => ∃ br k, A [IL br, vI k] ∧ S (vB (decide (Fresh br k)))
abbrev OkPisfresh (P : Program) (w : World) (K : PySem.W.Frag) (mg : Str → Option Value) (base : Heap) : Prop := Fn P w K mg base "is_fresh" 1 ["breaks", "moment"] (toSp (spFresh))
def spStates (K : PySem.W.Frag) : Spc := fun A S => ∃ T br k, A [TF K T, IL br, vI k] ∧ T.Ok ∧ S (IL (statesIn T br k))
abbrev OkPstatesin (P : Program) (w : World) (K : PySem.W.Frag) (mg : Str → Option Value) (base : Heap) : Prop := Fn P w K mg base "states_in" 2 ["tariff", "breaks", "moment"] (toSp (spStates K))
def spWaysInto (K : PySem.W.Frag) : Spc := fun A S => ∃ T ps br t, A [TF K T, IL ps, IL br, vI t] ∧ T.Ok ∧ 0 ≤ t ∧ t < ps.length ∧ S (LS ((waysInto T ps br t).map (wayR K)))
abbrev OkPwaysinto (P : Program) (w : World) (K : PySem.W.Frag) (mg : Str → Option Value) (base : Heap) : Prop := Fn P w K mg base "ways_into" 3 ["tariff", "prices", "breaks", "moment"] (toSp (spWaysInto K))
def spAllWays (K : PySem.W.Frag) : Spc := fun A S => ∃ T ps br, A [TF K T, IL ps, IL br] ∧ T.Ok ∧ ps.length ≤ 100 ∧ S (LS ((allWays T ps br).map (wayR K)))
abbrev OkPallways (P : Program) (w : World) (K : PySem.W.Frag) (mg : Str → Option Value) (base : Heap) : Prop := Fn P w K mg base "all_ways" 4 ["tariff", "prices", "breaks"] (toSp (spAllWays K))
def spHeadsB (K : PySem.W.Frag) : Spc := fun A S => ∃ T br hs k, A [TF K T, IL br, SQ K (hs.map (rowR K)), vI k] ∧ T.Ok ∧ 0 ≤ k ∧ k ≤ hs.length ∧ (∀ r, r ∈ hs → r.length = T.rates.length + 1) ∧ S (LS ((hBefore T br hs k).map fun q => TP K [vI q.1, vI q.2]))
abbrev OkPheadsbefore (P : Program) (w : World) (K : PySem.W.Frag) (mg : Str → Option Value) (base : Heap) : Prop := Fn P w K mg base "heads_before" 3 ["tariff", "breaks", "heads", "moment"] (toSp (spHeadsB K))
def spNet (K : PySem.W.Frag) : Spc := fun A S => ∃ T ps gs k s, A [TF K T, IL ps, SQ K (gs.map vI), vI k, vI s] ∧ T.Ok ∧ 0 ≤ k ∧ k < ps.length ∧ k < gs.length ∧ 0 ≤ s ∧ s ≤ (T.rates.length : Int) ∧ S (vI (netC T ps gs k s))
abbrev OkPnetcost (P : Program) (w : World) (K : PySem.W.Frag) (mg : Str → Option Value) (base : Heap) : Prop := Fn P w K mg base "net_cost" 3 ["tariff", "prices", "gains", "moment", "state"] (toSp (spNet K))
def spLeastHead (K : PySem.W.Frag) : Spc := fun A S => ∃ T ps gs bf k s, A [TF K T, IL ps, SQ K (gs.map vI), LS (bf.map fun q => TP K [vI q.1, vI q.2]), vI k, vI s] ∧ T.Ok ∧ 0 ≤ k ∧ k < ps.length ∧ k < gs.length ∧ 0 ≤ s ∧ s ≤ (T.rates.length : Int) ∧
  bf.length ≤ 10 ∧ (∀ q, q ∈ bf → q.1 ≤ (T.rates.length : Int)) ∧ cands T bf (netC T ps gs k s) s ≠ [] ∧ S (vI (minL (cands T bf (netC T ps gs k s) s)))
abbrev OkPleasthead (P : Program) (w : World) (K : PySem.W.Frag) (mg : Str → Option Value) (base : Heap) : Prop := Fn P w K mg base "least_head" 4 ["tariff", "prices", "gains", "before", "moment", "state"] (toSp (spLeastHead K))
def spHasSizes (K : PySem.W.Frag) : Spc := fun A S => ∃ T ps gs hs, A [TF K T, IL ps, papR K gs hs] ∧ hs.length ≤ 1000 ∧ ∀ b : Bool, (b = true ↔ Sized T ps gs hs) → S (vB b)
abbrev OkPhassizes (P : Program) (w : World) (K : PySem.W.Frag) (mg : Str → Option Value) (base : Heap) : Prop := Fn P w K mg base "has_sizes" 2 ["tariff", "prices", "paper"] (toSp (spHasSizes K))
def spRowSound (K : PySem.W.Frag) : Spc := fun A S => ∃ T ps br gs hs k, A [TF K T, IL ps, IL br, papR K gs hs, vI k] ∧ T.Ok ∧ 0 ≤ k ∧ k < ps.length ∧ Sized T ps gs hs ∧ ∀ b : Bool, (b = true ↔ RowSound T ps br gs hs k) → S (vB b)
abbrev OkPisrowsound (P : Program) (w : World) (K : PySem.W.Frag) (mg : Str → Option Value) (base : Heap) : Prop := Fn P w K mg base "is_row_sound" 5 ["tariff", "prices", "breaks", "paper", "moment"] (toSp (spRowSound K))
def spIsSound (K : PySem.W.Frag) : Spc := fun A S => ∃ T ps br gs hs, A [TF K T, IL ps, IL br, papR K gs hs] ∧ T.Ok ∧ gs.length ≤ 1000 ∧ hs.length ≤ 1000 ∧ ∀ b : Bool, (b = true ↔ PSound T ps br gs hs) → S (vB b)
abbrev OkPissound (P : Program) (w : World) (K : PySem.W.Frag) (mg : Str → Option Value) (base : Heap) : Prop := Fn P w K mg base "is_sound" 6 ["tariff", "prices", "breaks", "paper"] (toSp (spIsSound K))
def spPSum (K : PySem.W.Frag) : Spc := fun A S => ∃ ns gs hs, A [IL ns, papR K gs hs] ∧ ns.length = gs.length ∧ ns.length ≤ 1000 ∧ (∀ n, n ∈ ns → 0 ≤ n ∧ n ≤ 1000) ∧ S (vI (pSum ns gs))
abbrev OkPpapersum (P : Program) (w : World) (K : PySem.W.Frag) (mg : Str → Option Value) (base : Heap) : Prop := Fn P w K mg base "paper_sum" 1 ["needs", "paper"] (toSp (spPSum K))
def spAccepts (K : PySem.W.Frag) : Spc := fun A S => ∃ T ps ns br pl gs hs, A [TF K T, IL ps, IL ns, IL br, ILL pl, papR K gs hs] ∧ T.Ok ∧ RunOk ps ns br ∧ pl.length ≤ 1000 ∧ gs.length ≤ 1000 ∧ hs.length ≤ 1000 ∧ ∀ b : Bool, (b = true ↔ Fits T ps.length ns br pl ∧ PSound T ps br gs hs ∧ planCost T ps br pl = pSum ns gs) → S (vB b)
abbrev OkPaccepts (P : Program) (w : World) (K : PySem.W.Frag) (mg : Str → Option Value) (base : Heap) : Prop := Fn P w K mg base "accepts" 7 ["tariff", "prices", "needs", "breaks", "plan", "paper"] (toSp (spAccepts K))
end Eb
/-! enumerate(a tuple); zip(a list, a tuple) -/
namespace Eb
open PySem PySem.Spec PyProof.Rows L2
open PySem.Sem (wp)
theorem meets_enumerate_newV {v : Value} {o : Obj} {H : Heap → Prop} (B : Begins v o H) :
    Meets (Builtin.«enumerate.__new__» ⟨[.type "enumerate", v], []⟩) (fun _ R s => H s.heap ∧
      R (.ok (.ret (.ref (s.heap.push o).objs.size))) { s with heap := (s.heap.push o).push { cls := .type "enumerate", data := .fields #[.none, .bool false, .ref s.heap.objs.size, rawInt 0, .none, .none] } }) :=
  .of_wp fun prog w A R s h => by
    obtain ⟨hp, g, d, tk, os⟩ := s; obtain ⟨h1, h⟩ := h
    have hsub := sub_enumerate
    have q1 : ∀ {A' : Around} {E : Value → Shared → Prop} {Q : Value → Shared → Prop}, Q (.ref hp.objs.size) ⟨hp.push o, g, d, tk, os⟩ → wpAny (model prog w) A' (pyIter v) Q E ⟨hp, g, d, tk, os⟩ :=
      fun q => B.iter prog w _ _ ⟨hp, g, d, tk, os⟩ _ h1 q
    wp_walk using q1
    refine wpAny_stack_any fun st => wpAny_pure ?_
    split
    · rename_i c _ _ _ _ _
      cases (c == Value.type "enumerate")
      · wp_walk using q1
        exact ⟨_, rfl, h⟩
      · wp_walk using q1
        exact ⟨_, rfl, h⟩
    · wp_walk using q1
      exact ⟨_, rfl, h⟩
section
variable {prog : Program} {w : World} {A : Around} {E : Value → Shared → Prop} {s : Shared}
theorem enum_begins1 {v : Value} {o : Obj} {H : Heap → Prop} {Q : Value → Shared → Prop} (B : Begins v o H) (h1 : H s.heap)
    (h : ∀ h', IsEnum h' (s.heap.objs.size + 1) s.heap.objs.size 0 .none → h'.get? s.heap.objs.size = some o → h'.objs.size = s.heap.objs.size + 2 →
      (∀ b o, s.heap.get? b = some o → h'.get? b = some o) → Q (.ref (s.heap.objs.size + 1)) { s with heap := h' }) :
    wpAny (model prog w) A (call (.type "enumerate") [v]) Q E s := by
  refine callType_new F.called_enumerate (by decide) (F.typeCall_enumerate_1 _) (F.newCall_enumerate_1 _) (fun obj => F.args_object_init_2 obj _) F.entry_enumerate_new
    (meets_enumerate_newV B) ⟨h1, ?_⟩
  have hz : (s.heap.push o).objs.size = s.heap.objs.size + 1 := Heap.size_push ..
  show _ ∧ _
  rw [hz]
  have he : IsEnum ((s.heap.push o).push { cls := .type "enumerate", data := .fields #[.none, .bool false, .ref s.heap.objs.size, rawInt 0, .none, .none] }) (s.heap.objs.size + 1) s.heap.objs.size 0 .none := by
    have := Heap.get?_push_size (s.heap.push o) (o := { cls := .type "enumerate", data := .fields #[.none, .bool false, .ref s.heap.objs.size, rawInt 0, .none, .none] }) rfl
    rw [hz] at this; exact this
  exact ⟨⟨_, he, rfl⟩, h _ he (Heap.get?_push_of_some _ (Heap.get?_push_size _ B.free)) (by rw [Heap.size_push, hz]) fun b o x => Heap.get?_push_of_some _ (Heap.get?_push_of_some _ x)⟩
end
/-- the tuple at a, each item in a new pair -/
def IteT (K : PySem.W.Frag) (a : Addr) : It :=
  ⟨fun i H => ∃ (xs : List V) (x : V), SqT K H a xs ∧ xs[i]? = some x, fun i H v H' => ∃ T x, v = .ref T ∧ H T = none ∧ H' = upd H T (.tup [.int (i : Nat), x]) ∧ ∀ xs, SqT K H a xs → xs[i]? = some x, fun i H => ∃ xs : List V, SqT K H a xs ∧ xs.length ≤ i⟩
theorem turn_enumT {P : Program} {w : World} {K : PySem.W.Frag} {elts : List Expr} {kk : Nat} {tpos : Pos} (a e it : Addr) :
    Turn P w K (.Tuple elts kk tpos) (IteT K a) [e, it] e (fun i h => (∃ old, IsEnum h e it ((i : Nat) : Int) old) ∧ h.IsTupleIter it a i ∧ e ≠ it ∧ a ≠ it ∧ e ≠ a) where
  mem := by simp
  obj := fun i h st b hb => by
    obtain ⟨⟨old, he⟩, ⟨o, ho, hc, hd⟩, _⟩ := st
    have e' : b = e ∨ b = it := by simpa using hb
    rcases e' with z | z
    · rw [z]; exact ⟨_, he, fun v q => nomatch q⟩
    · rw [z]; exact ⟨o, ho, fun v q => by rw [hd] at q; cases q⟩
  keep := fun i h h' st k => let ⟨⟨old, he⟩, hi, hne⟩ := st; ⟨⟨old, k e (by simp) _ he⟩, hi.at fun o q => k it (by simp) o q, hne⟩
  item := by
    intro X hP hw hK hc i pins s σ H E I hf st hg
    subst hP hw hK
    obtain ⟨⟨old, he⟩, hit, hne, hai, hea⟩ := st
    obtain ⟨xs, x, hq, hx⟩ := hg
    obtain ⟨its, rv, p, hz⟩ := I.tuple hq
    obtain ⟨u, hu, ru⟩ := rv.get hx
    have hel : e < s.heap.objs.size := Heap.lt_size he
    have hil : it < s.heap.objs.size := by obtain ⟨_, q, _⟩ := hit; exact Heap.lt_size q
    have D := Draws.tuple (prog := X.prog) (w := X.w) (A := X.A.in1) (show X.A.in1.handled = none from I.ok.hd hc) it a hai its.toArray
    have hlt : i < its.toArray.size := by
      have := rv.length
      have := (List.getElem?_eq_some_iff.mp hx).1
      simp; omega
    refine wpAny_pyNext_enum_itemD D he ⟨hit, show s.heap.IsTuple a its.toArray from p⟩ hlt hne (by simp [hne, hea]) fun y h' tk hP ho hst' hT hsz hk => ?_
    have ey : y = u := by
      have h1 : its.toArray[i]? = some y := hP
      have h2 : its.toArray[i]? = some u := by simpa using hu
      rw [h1] at h2
      exact Option.some.inj h2
    subst ey
    refine ⟨_, rfl, wpAny_letOwnedTupleGo_enum (s := { s with heap := h', toks := tk + 1 }) ho fun h'' he' sb => ?_⟩
    have hT2 : h''.get? s.heap.objs.size = some { cls := .type "tuple", data := .seq #[.int i tk, y] } := (sb.2 _ (Nat.ne_of_gt hel)).trans hT
    have new : ObjOk X.prog X.w (upd H s.heap.objs.size (.tup [.int (i : Nat), x])) h'' s.heap.objs.size (.tup [.int (i : Nat), x]) :=
      ⟨by show 2 ≤ sizeLine; decide, [.int i tk, y], .cons ⟨_, rfl⟩ (.cons ru .nil), ⟨_, hT2, rfl, _, rfl⟩⟩
    have I1 : Inv X pins σ (upd H s.heap.objs.size (.tup [.int (i : Nat), x])) { s with heap := h'', toks := tk + 1 } :=
      I.turnedNew (ch := [e, it]) (fun b ob hb q => (sb.2 b (fun z => hb (by simp [z]))).trans (hk b ob (fun z => hb (by simp [z])) (fun z => hb (by simp [z])) q)) hf (Nat.le_refl _) new
    refine ⟨.ref s.heap.objs.size, _, I1, rfl, ⟨_, x, rfl, I.hok.fresh (Nat.le_refl _), rfl, fun ys hy => by rw [I.tuple_inj hy hq]; exact hx⟩, ⟨⟨y, ?_⟩, hst'.1.at fun o q => (sb.2 it (Ne.symm hne)).trans q, hne, hai, hea⟩, fun b hb => ?_⟩
    · have e1 : ((i + 1 : Nat) : Int) = (i : Int) + 1 := by omega
      rw [e1]; exact he'
    · have hb' : b < s.heap.objs.size := by
        have e' : b = e ∨ b = it := by simpa using hb
        rcases e' with z | z
        · rw [z]; exact hel
        · rw [z]; exact hil
      rw [upd_ne (Nat.ne_of_lt hb')]
      exact (hf b hb).1
  done := by
    intro X hP hw hK hc i pins s σ H E I hf st hg
    subst hP hw hK
    obtain ⟨⟨old, he⟩, hit, hne, hai, hea⟩ := st
    obtain ⟨xs, hq, hx⟩ := hg
    obtain ⟨its, rv, p, hz⟩ := I.tuple hq
    obtain ⟨f0, f1, f2, f3, f4, f5⟩ := hf it (by simp)
    have hl := rv.length
    obtain ⟨ot, hot, _, nt, hdt⟩ := id (show s.heap.IsTuple a its.toArray from p)
    have hT : s.TypeIs (.ref e) "enumerate" := ⟨_, he, rfl⟩
    unfold pyNext
    refine wpAny_bind (wpAny_attempt (wpAny_callSpecial?_slot (name := Str.ofString "__next__") hT F.slot_enumerate_next
      (wpAny_call_entry F.slot_enumerate_next hT F.entry_enumerate_next ?_ (F.args_enumerate_next_1 _))))
    show wpAny _ _ (field (.ref e) 2 >>= _) _ _ _
    refine wpAny_bind (wpAny_field he rfl (x := .ref it) rfl ?_)
    refine wpAny_bind (wpAny_nextOf_tuple_end (show X.A.in1.handled = none from I.ok.hd hc) hit (show s.heap.IsTuple a its.toArray from p) (by simp; omega) fun h' x he' hx' => ?_)
    obtain ⟨o, ho, hc'⟩ := hx'
    refine wpAny_bind (wpAny_isInstance (T := "StopIteration") (b := true) ⟨o, ho, hc'⟩ isSubtype_stop ?_)
    exact wpAny_pure ⟨rfl, I.turned (t' := s.toks) (fun b o hb q => he' b o hb q) f0 f1 f3 f4 f5⟩
  self := fun A i s Q E st h => let ⟨⟨_, he⟩, _⟩ := st; wpAny_pyIter_enum he h
def iEnumT (K : PySem.W.Frag) (ta : TA) : TI := fun σ H R => ta σ H fun vs H1 => ∃ a xs, vs = [.ref a] ∧ SqT K H1 a xs ∧ R (IteT K a) H1
theorem pi_enumT {X : Cx} {e : Expr} {ta : TA} {p pos tpos : Pos} {elts : List Expr} {kk : Nat} (hg : Gl X "enumerate") (hm : X.mg "enumerate" = none) (ha : PA X [e] ta) (hs : starEach [e] X.env = [(false, eval e X.env)] := by rfl) :
    PI X (.Tuple elts kk tpos) (.Call (.Name "enumerate" p) [e] [] pos) (iEnumT X.K ta) := by
  refine ⟨fun pins s σ H R I h => ?_⟩
  refine Call_ (ld_blt I hg hm boot_enumerate (PyProof.Rows.callWith_type1 (thn (ha.run pos pins s σ H _ I h) fun us s1 ⟨vs, H1, I1, r1, q1⟩ => ?_) hs rfl))
  obtain ⟨a, xs, ex, hq, q⟩ := q1
  subst ex
  cases r1 with
  | cons r rr =>
    cases rr
    cases r
    obtain ⟨its, rv, p', hz⟩ := I1.tuple hq
    have p2 : s1.heap.IsTuple a its.toArray := p'
    have hal : a < s1.heap.objs.size := by obtain ⟨o, ho, _⟩ := id p2; exact Heap.lt_size ho
    refine enum_begins1 (begins_tuple a its.toArray) p2 fun h' he hit hsz hk => wpAny_pyIter_enum he ?_
    have I2 : Inv X pins σ H1 { s1 with heap := h' } := I1.kept (t' := s1.toks) hk
    refine ⟨s1.heap.objs.size + 1, [s1.heap.objs.size + 1, s1.heap.objs.size], _, _, H1, rfl, I2, turn_enumT a (s1.heap.objs.size + 1) s1.heap.objs.size, ⟨⟨.none, he⟩, ⟨_, hit, rfl, rfl⟩, Nat.succ_ne_self _, Nat.ne_of_lt hal, Nat.ne_of_gt (Nat.lt_succ_of_lt hal)⟩, fun b hb => ?_, q⟩
    have e' : b = s1.heap.objs.size + 1 ∨ b = s1.heap.objs.size := by simpa using hb
    have hle : s1.heap.objs.size ≤ b := by
      rcases e' with z | z
      · rw [z]; exact Nat.le_add_right _ _
      · rw [z]; exact Nat.le_refl _
    exact I1.fpOk hle (I1.hok.fresh hle)
theorem walk_enumT {K : PySem.W.Frag} {a : Addr} {xs : List V} : Walk (IteT K a) xs.length (fun H => SqT K H a xs) (YPair (fun i => some (.int (i : Nat))) (fun i => xs[i]?)) := by
  refine ⟨fun i _ hi q => ⟨xs, xs[i], q, by simp [hi]⟩, fun _ q => ⟨xs, q, Nat.le_refl _⟩, fun i H v H' _ q y => ?_⟩
  obtain ⟨T, x, h1, h2, h3, h4⟩ := y
  exact ⟨T, .int (i : Nat), x, h1, h2, h3, rfl, h4 xs q⟩
/-- the list at a and the tuple at b, the items in new pairs -/
def ItzM (K : PySem.W.Frag) (a b : Addr) : It :=
  ⟨fun i H => ∃ (xs ys : List V) (x y : V), SqL K H a xs ∧ SqT K H b ys ∧ xs[i]? = some x ∧ ys[i]? = some y,
    fun i H v H' => ∃ T x y, v = .ref T ∧ H T = none ∧ H' = upd H T (.tup [x, y]) ∧ (∀ xs, SqL K H a xs → xs[i]? = some x) ∧ ∀ ys, SqT K H b ys → ys[i]? = some y,
    fun i H => ∃ xs ys : List V, SqL K H a xs ∧ SqT K H b ys ∧ (i = xs.length ∨ i = ys.length) ∧ i ≤ xs.length ∧ i ≤ ys.length⟩
theorem turn_zipM {P : Program} {w : World} {K : PySem.W.Frag} {elts : List Expr} {kk : Nat} {tpos : Pos} {a b z TI TO i1 i2 : Addr} (D : ZipSep2 z TI TO i1 i2 [i1, a] [i2, b]) :
    Turn P w K (.Tuple elts kk tpos) (ItzM K a b) [z, TI, TO, i1, i2] z (fun i h => IsZip h z TI TO .none ∧ IsTupOf2 h TI (.ref i1) (.ref i2) ∧ (∃ x y, IsTupOf2 h TO x y) ∧ h.IsListIter i1 a i ∧ h.IsTupleIter i2 b i) where
  mem := by simp
  obj := fun i h st c hc => by
    obtain ⟨hz, hTI, ⟨x, y, hTO⟩, ⟨o1, e1, _, d1⟩, ⟨o2, e2, _, d2⟩⟩ := st
    have e' : c = z ∨ c = TI ∨ c = TO ∨ c = i1 ∨ c = i2 := by simpa using hc
    rcases e' with q | q | q | q | q
    · rw [q]; exact ⟨_, hz, fun v q => nomatch q⟩
    · rw [q]; exact ⟨_, hTI, fun v q => nomatch q⟩
    · rw [q]; exact ⟨_, hTO, fun v q => nomatch q⟩
    · rw [q]; exact ⟨o1, e1, fun v q => by rw [d1] at q; cases q⟩
    · rw [q]; exact ⟨o2, e2, fun v q => by rw [d2] at q; cases q⟩
  keep := fun i h h' st k => by
    obtain ⟨hz, hTI, ⟨x, y, hTO⟩, h1, h2⟩ := st
    exact ⟨k z (by simp) _ hz, k TI (by simp) _ hTI, ⟨x, y, k TO (by simp) _ hTO⟩, h1.at fun o q => k i1 (by simp) o q, h2.at fun o q => k i2 (by simp) o q⟩
  item := by
    intro X hP hw hK hc i pins s σ H E I hf st hg
    subst hP hw hK
    obtain ⟨hz, hTI, ⟨x0, y0, hTO⟩, h1, h2⟩ := st
    obtain ⟨xs, ys, x, y, hqx, hqy, hx, hy⟩ := hg
    obtain ⟨its, rv, p, _⟩ := I.list hqx
    obtain ⟨its2, rv2, p2, _⟩ := I.tuple hqy
    obtain ⟨u, hu, ru⟩ := rv.get hx
    obtain ⟨u2, hu2, ru2⟩ := rv2.get hy
    have hzl : z < s.heap.objs.size := Heap.lt_size hz
    have ai1 : a ≠ i1 := fun q => by
      obtain ⟨o, e1, c1, _⟩ := h1
      obtain ⟨o', e2, c2, _⟩ := p.isList
      rw [q, e1] at e2
      cases e2
      rw [c1] at c2
      simp at c2
    have bi2 : b ≠ i2 := fun q => by
      obtain ⟨o, e1, c1, _⟩ := h2
      obtain ⟨o', e2, c2, _⟩ := id (show s.heap.IsTuple b its2.toArray from p2)
      rw [q, e1] at e2
      cases e2
      rw [c1] at c2
      simp at c2
    have D1 := Draws.list (prog := X.prog) (w := X.w) (A := X.A.in1) (show X.A.in1.handled = none from I.ok.hd hc) i1 a ai1 its.toArray
    have D2 := Draws.tuple (prog := X.prog) (w := X.w) (A := X.A.in1) (show X.A.in1.handled = none from I.ok.hd hc) i2 b bi2 its2.toArray
    have l1 : i < its.toArray.size := by
      have := rv.length
      have := (List.getElem?_eq_some_iff.mp hx).1
      simp; omega
    have l2 : i < its2.toArray.size := by
      have := rv2.length
      have := (List.getElem?_eq_some_iff.mp hy).1
      simp; omega
    refine wpAny_pyNext_zipD2_item D D1 D2 hz hTI hTO ⟨h1, p.isList⟩ ⟨h2, show s.heap.IsTuple b its2.toArray from p2⟩ l1 l2 fun v1 v2 h' tk hv1 hv2 z' TO' h1' h2' hT hsz hk => ?_
    have e1 : v1 = u := by
      have q1 : its.toArray[i]? = some v1 := hv1
      have q2 : its.toArray[i]? = some u := by simpa using hu
      rw [q1] at q2
      exact Option.some.inj q2
    have e2 : v2 = u2 := by
      have q1 : its2.toArray[i]? = some v2 := hv2
      have q2 : its2.toArray[i]? = some u2 := by simpa using hu2
      rw [q1] at q2
      exact Option.some.inj q2
    subst e1 e2
    refine ⟨_, rfl, wpAny_letOwnedTupleGo_zip (s := { s with heap := h', toks := tk }) z' fun h'' z'' sb => ?_⟩
    have hT2 : h''.get? s.heap.objs.size = some { cls := .type "tuple", data := .seq #[v1, v2] } := (sb.2 _ (Nat.ne_of_gt hzl)).trans hT
    have new : ObjOk X.prog X.w (upd H s.heap.objs.size (.tup [x, y])) h'' s.heap.objs.size (.tup [x, y]) :=
      ⟨by show 2 ≤ sizeLine; decide, [v1, v2], .cons ru (.cons ru2 .nil), ⟨_, hT2, rfl, _, rfl⟩⟩
    have I1 : Inv X pins σ (upd H s.heap.objs.size (.tup [x, y])) { s with heap := h'', toks := tk } :=
      I.turnedNew (t' := tk) (ch := [z, TI, TO, i1, i2]) (fun c o hb q => (sb.2 c (fun q' => hb (by simp [q']))).trans (hk c o (fun q' => hb (by simp [q'])) (fun q' => hb (by simp [q'])) (fun q' => hb (by simp [q'])) (fun q' => hb (by simp [q'])) q)) hf (Nat.le_refl _) new
    refine ⟨.ref s.heap.objs.size, _, I1, rfl, ⟨_, x, y, rfl, I.hok.fresh (Nat.le_refl _), rfl, fun l hl => by rw [I.list_inj hl hqx]; exact hx, fun l hl => by rw [I.tuple_inj hl hqy]; exact hy⟩, ⟨z'', ?_, ⟨v1, v2, ?_⟩, ?_, ?_⟩, fun c hcm => ?_⟩
    · exact (sb.2 _ D.TIz).trans (hk _ _ D.TIz D.TITO D.TIi1 D.TIi2 hTI)
    · exact (sb.2 _ D.TOz).trans TO'
    · exact h1'.1.at fun o q => (sb.2 _ (Ne.symm D.zi1)).trans q
    · exact h2'.1.at fun o q => (sb.2 _ (Ne.symm D.zi2)).trans q
    · have hlt : c < s.heap.objs.size := by
        have e' : c = z ∨ c = TI ∨ c = TO ∨ c = i1 ∨ c = i2 := by simpa using hcm
        rcases e' with q | q | q | q | q
        · rw [q]; exact hzl
        · rw [q]; exact Heap.lt_size hTI
        · rw [q]; exact Heap.lt_size hTO
        · rw [q]; obtain ⟨_, e1, _⟩ := h1; exact Heap.lt_size e1
        · rw [q]; obtain ⟨_, e2, _⟩ := h2; exact Heap.lt_size e2
      rw [upd_ne (Nat.ne_of_lt hlt)]
      exact (hf c hcm).1
  done := by
    intro X hP hw hK hc i pins s σ H E I hf st hg
    subst hP hw hK
    obtain ⟨hz, hTI, ⟨x0, y0, hTO⟩, h1, h2⟩ := st
    obtain ⟨xs, ys, hqx, hqy, hend, hle1, hle2⟩ := hg
    obtain ⟨its, rv, p, _⟩ := I.list hqx
    obtain ⟨its2, rv2, p2, _⟩ := I.tuple hqy
    have l1 := rv.length
    have l2 := rv2.length
    have ai1 : a ≠ i1 := fun q => by
      obtain ⟨o, e1, c1, _⟩ := h1
      obtain ⟨o', e2, c2, _⟩ := p.isList
      rw [q, e1] at e2
      cases e2
      rw [c1] at c2
      simp at c2
    have bi2 : b ≠ i2 := fun q => by
      obtain ⟨o, e1, c1, _⟩ := h2
      obtain ⟨o', e2, c2, _⟩ := id (show s.heap.IsTuple b its2.toArray from p2)
      rw [q, e1] at e2
      cases e2
      rw [c1] at c2
      simp at c2
    have D1 := Draws.list (prog := X.prog) (w := X.w) (A := X.A.in1) (show X.A.in1.handled = none from I.ok.hd hc) i1 a ai1 its.toArray
    have D2 := Draws.tuple (prog := X.prog) (w := X.w) (A := X.A.in1) (show X.A.in1.handled = none from I.ok.hd hc) i2 b bi2 its2.toArray
    exact wpAny_pyNext_zipD2_end D D1 D2 hz hTI hTO ⟨h1, p.isList⟩ ⟨h2, show s.heap.IsTuple b its2.toArray from p2⟩ (by simp; omega) (by simp; omega) (by simp; omega) fun h' tk hk => ⟨rfl, I.turnedL (t' := tk) (ch := [z, TI, TO, i1, i2]) (fun c o hb q =>
      hk c o (fun q' => hb (by simp [q'])) (fun q' => hb (by simp [q'])) (fun q' => hb (by simp [q'])) (fun q' => hb (by simp [q'])) q) hf⟩
  self := fun A i s Q E st h => wpAny_pyIter_zip st.1 h
def iZipM (K : PySem.W.Frag) (ta : TA) : TI := fun σ H R => ta σ H fun vs H1 => ∃ a b xs ys, vs = [.ref a, .ref b] ∧ SqL K H1 a xs ∧ SqT K H1 b ys ∧ R (ItzM K a b) H1
theorem pi_zipM {X : Cx} {e e2 : Expr} {ta : TA} {p pos tpos : Pos} {elts : List Expr} {kk : Nat} (hg : Gl X "zip") (hm : X.mg "zip" = none) (ha : PA X [e, e2] ta)
    (hs : starEach [e, e2] X.env = (false, eval e X.env) :: starEach [e2] X.env := by rfl) (hpl : (backTo pos (starEach [e2] X.env)).any (·.1) = false := by rfl) :
    PI X (.Tuple elts kk tpos) (.Call (.Name "zip" p) [e, e2] [] pos) (iZipM X.K ta) := by
  refine ⟨fun pins s σ H R I h => ?_⟩
  refine Call_ (ld_blt I hg hm PyProof.Rows.boot_zip (PyProof.Rows.callWith_type1 (thn (ha.run pos pins s σ H _ I h) fun us s1 ⟨vs, H1, I1, r1, q1⟩ => ?_) hs hpl))
  obtain ⟨a, b, xs, ys, ex, hqx, hqy, q⟩ := q1
  subst ex
  cases r1 with
  | cons r rr =>
    cases rr with
    | cons r' rr =>
      cases rr
      cases r
      cases r'
      obtain ⟨its, rv, p1, _⟩ := I1.list hqx
      obtain ⟨its2, rv2, p2', _⟩ := I1.tuple hqy
      have p2 : s1.heap.IsTuple b its2.toArray := p2'
      have la : a < s1.heap.objs.size := p1.lt
      have lb : b < s1.heap.objs.size := by obtain ⟨o, ho, _⟩ := id p2; exact Heap.lt_size ho
      refine zip_begins2 (begins_list a its.toArray) (begins_tuple b its2.toArray) p1.isList p2 fun h' hz hTI hTO h1 h2 hsz hk => wpAny_pyIter_zip hz ?_
      have I2 : Inv X pins σ H1 { s1 with heap := h' } := I1.kept (t' := s1.toks) hk
      refine ⟨s1.heap.objs.size + 4, [s1.heap.objs.size + 4, s1.heap.objs.size + 2, s1.heap.objs.size + 3, s1.heap.objs.size, s1.heap.objs.size + 1], _, _, H1, rfl, I2, turn_zipM (zip_sep2 (N := s1.heap.objs.size) (fp1 := [a]) (fp2 := [b]) (by simpa using la) (by simpa using lb)), ⟨hz, hTI, ⟨_, _, hTO⟩, ⟨_, h1, rfl, rfl⟩, ⟨_, h2, rfl, rfl⟩⟩, fun c hcm => ?_, q⟩
      have e' : c = s1.heap.objs.size + 4 ∨ c = s1.heap.objs.size + 2 ∨ c = s1.heap.objs.size + 3 ∨ c = s1.heap.objs.size ∨ c = s1.heap.objs.size + 1 := by simpa using hcm
      have hle : s1.heap.objs.size ≤ c := by
        rcases e' with z | z | z | z | z
        · rw [z]; exact Nat.le_add_right _ _
        · rw [z]; exact Nat.le_add_right _ _
        · rw [z]; exact Nat.le_add_right _ _
        · rw [z]; exact Nat.le_refl _
        · rw [z]; exact Nat.le_add_right _ _
      exact I1.fpOk hle (I1.hok.fresh hle)
theorem walk_zipM {K : PySem.W.Frag} {a b : Addr} {xs ys : List V} (hn : xs.length = ys.length) : Walk (ItzM K a b) xs.length (fun H => SqL K H a xs ∧ SqT K H b ys) (YPair (fun i => xs[i]?) (fun i => ys[i]?)) := by
  refine ⟨fun i _ hi q => ?_, fun _ q => ⟨xs, ys, q.1, q.2, .inl rfl, Nat.le_refl _, by omega⟩, fun i H v H' _ q y => ?_⟩
  · have h2 : i < ys.length := by omega
    exact ⟨xs, ys, xs[i], ys[i], q.1, q.2, by simp [hi], by simp [h2]⟩
  · obtain ⟨T, x, z, h1, h2, h3, h4, h5⟩ := y
    exact ⟨T, x, z, h1, h2, h3, h4 xs q.1, h5 ys q.2⟩
end Eb
namespace Eb
open PySem PySem.Spec PyProof.Rows L2
section
variable {K : PySem.W.Frag} {F : Fr} {Γ : List En} {μ : Mu} {ta tb te : TE} {tr : TA} {t u tt : TT} {S : Rv → Prop} {SN : List Rp → Prop} {SB : Bool → Prop} {E : XK}
variable {D : TD} {t1 t2 ts tb2 : TS} {g : TG} {tl : TE}
/-- for i, x in enumerate(a tuple) -/
theorem ts_forET {i j : Nat} (h : TAv F Γ μ tr (fun xs => ∃ x l Ps, xs = [x] ∧ IsT K x l Ps ∧ ∃ I : Nat → List En → Mu → Prop, I 0 Γ μ ∧
    (∀ (n : Nat) Γ1 μ1 P, Ps[n]? = some P → I n Γ1 μ1 → TSv F ((Γ1.set i (.rp (vI (n : Nat)))).set j (l.en P)) μ1 tb2 (TurnD D (I (n + 1)))) ∧ ∀ Γ1 μ1, I Ps.length Γ1 μ1 → D.nx Γ1 μ1)) :
    TSv F Γ μ (tFor (iEnumT K tr) (gTup K 2 (gCons (gName i) (gCons (gName j) gNil))) tb2) D := fun σ Z H w e D' k =>
  h σ Z H w e _ fun vs xs Z1 H1 s1 w1 z1 p1 => by
    obtain ⟨x, l, Ps, rfl, hx, I, i0, st, en⟩ := s1
    obtain ⟨v, rfl, hv⟩ := alr1 p1
    obtain ⟨a, vs, rfl, q, al⟩ := hx.at hv
    have rd : ∀ {μ2 : Mu} {Z2 H2 : Hp}, Wd F μ2 Z2 H2 → Same Z1 Z2 → SqT K H2 a vs := fun w2 z2 => same_t (w2.lv l) (same_t (Lv.mono z2) q)
    refine ⟨a, vs, rfl, rd w1 (Same.refl Z1), for_it (walk_enumT (K := K) (a := a) (xs := vs)) (fun i σ2 H2 => ∃ Γ2 μ2 Z2, I i Γ2 μ2 ∧ Wd F μ2 Z2 H2 ∧ EnvOk F Z2 Γ2 σ2 ∧ Same Z1 Z2)
      ⟨Γ, μ, Z1, i0, w1, e.mono z1, Same.refl Z1⟩ (fun i σ2 H2 _ ⟨Γ2, μ2, Z2, _, w2, _, z2⟩ => rd w2 z2) ?_ ?_⟩
    · rintro n y σ2 H2 H3 hi ⟨Γ2, μ2, Z2, i2, w2, e2, z2⟩ ⟨T, y1, y2, rfl, hT, rfl, hy1, hy2⟩
      cases hy1
      obtain ⟨P, hP, px⟩ := al.get' hy2
      have w3 := w2.new (o := .tup [.int (n : Nat), y2]) hT
      have z3 : Same Z2 (upd Z2 T (.tup [.int (n : Nat), y2])) := w2.newZ hT
      refine ⟨T, _, rfl, SqT.of upd_same, rfl, _, _, rfl, _, _, rfl, rfl, ?_⟩
      refine st n Γ2 μ2 P hP i2 _ _ _ w3 (((e2.mono z3).set (n := .rp (vI (n : Nat))) (o := some (.int (n : Nat))) ⟨_, rfl, rfl⟩ i).set (Lv.enok (P.mono (Lv.mono (z2.trans z3)) px)) j) _ ⟨?_, ?_, ?_, ?_⟩
      · exact fun Γ4 μ4 σ4 Z4 H4 i4 w4 e4 z4 => ⟨Γ4, μ4, Z4, i4, w4, e4, (z2.trans z3).trans z4⟩
      · exact fun P v μ4 Z4 H4 r w4 z4 p4 => k.rt P v μ4 Z4 H4 r w4 (((z1.trans z2).trans z3).trans z4) p4
      · exact fun Γ4 μ4 σ4 Z4 H4 i4 w4 e4 z4 => k.nx _ _ _ _ _ i4 w4 e4 (((z1.trans z2).trans z3).trans z4)
      · exact fun Γ4 μ4 σ4 Z4 H4 i4 w4 e4 z4 => ⟨Γ4, μ4, Z4, i4, w4, e4, (z2.trans z3).trans z4⟩
    · rintro σ2 H2 ⟨Γ2, μ2, Z2, i2, w2, e2, z2⟩
      rw [← al.length] at i2
      exact k.nx _ _ _ _ _ (en _ _ i2) w2 e2 (z1.trans z2)
theorem wipe2 {σ : L2.St} {i j : Nat} {x y : Option V} : wipe (((wipe σ [i, j]).set i x).set j y) [i, j] = wipe σ [i, j] := by
  show (((((σ.set j none).set i none).set i x).set j y).set j none).set i none = (σ.set j none).set i none
  by_cases h : i = j
  · subst h
    simp only [List.set_set]
  · rw [List.set_set, List.set_set, List.set_comm _ _ h, List.set_set, List.set_set]
theorem wipe2s {σ : L2.St} {i j : Nat} {x y : Option V} (h : i ≠ j) : ((wipe σ [i, j]).set i x).set j y = (σ.set i x).set j y := by
  show (((σ.set j none).set i none).set i x).set j y = (σ.set i x).set j y
  rw [List.set_set, List.set_comm _ _ (Ne.symm h), List.set_set]
/-- [e for i, j in zip(a list, a tuple)], both of one length -/
theorem tn_lcZM {i j : Nat} (hij : i ≠ j) (h : TAv F Γ μ tr (fun xs => ∃ x y l l2 Ps Rs, xs = [x, y] ∧ IsL x l Ps ∧ IsT K y l2 Rs ∧ Ps.length = Rs.length ∧ Ps.length < 100000 ∧ ∃ I : Nat → List Rp → Prop, I 0 [] ∧
    (∀ n acc P R, Ps[n]? = some P → Rs[n]? = some R → I n acc → LcTurn F ((Γ.set i (l.en P)).set j (l2.en R)) μ tt te acc (I (n + 1))) ∧ ∀ acc, I Ps.length acc → SN acc)) :
    TNv F Γ μ (tLc (iZipM K tr) (gTup K 2 (gCons (gName i) (gCons (gName j) gNil))) tt te [i, j]) SN := fun σ Z H w e Q k => h σ Z H w e _ fun vs xs Z1 H1 s1 w1 z1 p1 => by
  obtain ⟨x, y, l, l2, Ps, Rs, rfl, hx, hy, hl, hlen, I, i0, st, en⟩ := s1
  obtain ⟨v, v2, rfl, hv, hv2⟩ := alr2 p1
  obtain ⟨a, us, rfl, q, al⟩ := hx.at hv
  obtain ⟨b, ws, rfl, q2, al2⟩ := hy.at hv2
  have rd : ∀ {μ2 : Mu} {Z2 H2 : Hp}, Wd F μ2 Z2 H2 → Same Z1 Z2 → SqL K H2 a us ∧ SqT K H2 b ws := fun w2 z2 => ⟨SqL.of (w2.lv l a _ (Lv.mono z2 a _ q)), same_t (w2.lv l2) (same_t (Lv.mono z2) q2)⟩
  have ln := al.length
  have ln2 := al2.length
  refine ⟨a, b, us, ws, rfl, (rd w1 (Same.refl Z1)).1, (rd w1 (Same.refl Z1)).2, fun L hL => lc_it (walk_zipM (K := K) (a := a) (b := b) (xs := us) (ys := ws) (by omega)) (fun n H2 => ∃ acc Z2, I n acc ∧ acc.length ≤ n ∧ Wd F ((L, obL acc) :: μ) Z2 H2 ∧ Same Z1 Z2)
    ⟨[], Z1, i0, Nat.le_refl _, w1.newOwn hL ⟨[], rfl, trivial⟩, Same.refl Z1⟩ (fun n H2 _ ⟨acc, Z2, _, _, w2, z2⟩ => rd w2 z2) ?_ ?_⟩
  · rintro n yv H2 H3 hi ⟨acc, Z2, i2, hacc, w2, z2⟩ ⟨T, y1, y2, rfl, hT, rfl, hy1, hy2⟩
    obtain ⟨P, hP, px⟩ := al.get' hy1
    obtain ⟨R, hR, pr⟩ := al2.get' hy2
    have w3 := w2.new (o := .tup [y1, y2]) hT
    have z3 : Same Z2 (upd Z2 T (.tup [y1, y2])) := w2.newZ hT
    refine ⟨T, _, rfl, SqT.of upd_same, rfl, _, _, rfl, _, _, rfl, rfl, ?_⟩
    refine ⟨wipe2, ?_⟩
    have e2 : EnvOk F (upd Z2 T (.tup [y1, y2])) ((Γ.set i (l.en P)).set j (l2.en R)) (((wipe σ [i, j]).set i (some y1)).set j (some y2)) := by
      rw [wipe2s hij]
      exact ((e.mono ((z1.trans z2).trans z3)).set (Lv.enok (P.mono (Lv.mono (z2.trans z3)) px)) i).set (Lv.enok (R.mono (Lv.mono (z2.trans z3)) pr)) j
    exact lc_turn (R := fun H' => ∃ acc Z2, I (n + 1) acc ∧ acc.length ≤ n + 1 ∧ Wd F ((L, obL acc) :: μ) Z2 H' ∧ Same Z1 Z2) (st n acc P R hP hR i2) w3 e2 (by omega) fun acc' Z' H' i3 h3 w4 z4 => ⟨acc', Z', i3, by omega, w4, (z2.trans z3).trans z4⟩
  · rintro H2 ⟨acc, Z2, i2, hacc, w2, z2⟩
    rw [← al.length] at i2
    exact k L acc Z2 H2 (en _ i2) w2 (z1.trans z2)
/-- the same, item by item -/
theorem tn_fmZM {α β : Type} {i j : Nat} (hij : i ≠ j) (h : TAv F Γ μ tr (fun xs => ∃ (x y : Rv) (l l2 : Lv) (as : List α) (bs : List β) (g1 : α → Rp) (g2 : β → Rp) (f : α → β → Rp), xs = [x, y] ∧ IsL x l (as.map g1) ∧ IsT K y l2 (bs.map g2) ∧ as.length = bs.length ∧ as.length < 100000 ∧
    (∀ a b, a ∈ as → b ∈ bs → FmTurn F ((Γ.set i (l.en (g1 a))).set j (l2.en (g2 b))) μ tt te true (f a b)) ∧ SN (List.zipWith f as bs))) :
    TNv F Γ μ (tLc (iZipM K tr) (gTup K 2 (gCons (gName i) (gCons (gName j) gNil))) tt te [i, j]) SN := tn_lcZM hij (fun σ Z H w e Q k => h σ Z H w e Q fun vs rs Z1 H1 ⟨x, y, l, l2, as, bs, g1, g2, f, hx, hl1, hl2, hn, hl, st, s⟩ => k vs rs Z1 H1 ⟨x, y, l, l2, _, _, hx, hl1, hl2, by rw [List.length_map, List.length_map]; exact hn, by rw [List.length_map]; exact hl, fun n acc => acc = List.zipWith f (as.take n) (bs.take n), by simp, fun n acc P R hP hR ha => by
      rw [List.getElem?_map] at hP hR
      cases q : as[n]? with
      | none =>
        rw [q] at hP
        cases hP
      | some a =>
        cases q2 : bs[n]? with
        | none =>
          rw [q2] at hR
          cases hR
        | some b =>
          rw [q] at hP
          rw [q2] at hR
          cases hP
          cases hR
          have st2 : as.take (n + 1) = as.take n ++ [a] := by rw [List.take_add_one, q]; rfl
          have st3 : bs.take (n + 1) = bs.take n ++ [b] := by rw [List.take_add_one, q2]; rfl
          have lt1 := (List.getElem?_eq_some_iff.mp q).1
          have e : List.zipWith f (as.take (n + 1)) (bs.take (n + 1)) = acc ++ [f a b] := by
            rw [st2, st3, List.zipWith_append (by rw [List.length_take, List.length_take]; omega), ha]
            rfl
          exact fun L => tt_imp (st a b (List.mem_of_getElem? q) (List.mem_of_getElem? q2) L acc) fun bb ⟨hb, he⟩ => ⟨fun hb1 => te_imp (he hb1) fun r hr => ⟨_, hr, e.symm⟩, fun hb1 => by rw [hb] at hb1; cases hb1⟩, fun acc ha => by
      have ha2 : acc = List.zipWith f (as.take (as.map g1).length) (bs.take (as.map g1).length) := ha
      rw [List.length_map, List.take_length, hn, List.take_length] at ha2
      rw [ha2]
      exact s⟩)
end
end Eb
/-! dicts from places, and from pairs of places, to numbers -/
namespace Eb
open PySem PySem.Spec PyProof.Rows L2
def plK (p : Pl) : NestedKey := .tup [.text p.w, .num p.a, .num p.b]
def wyK (p q : Pl) : NestedKey := .tup [plK p, plK q]
theorem Pl.ext2 {p q : Pl} (h1 : p.w = q.w) (h2 : p.a = q.a) (h3 : p.b = q.b) : p = q := by
  cases p <;> cases q <;> simp_all [Pl.w, Pl.a, Pl.b] <;> revert h1 <;> decide
theorem plK_inj {p q : Pl} (h : plK p = plK q) : p = q := by
  unfold plK at h
  injection h with h
  injection h with h1 h
  injection h with h2 h
  injection h with h3 h
  injection h1 with h1
  injection h2 with h2
  injection h3 with h3
  exact Pl.ext2 h1 h2 h3
theorem wyK_inj {p q p' q' : Pl} (h : wyK p q = wyK p' q') : p = p' ∧ q = q' := by
  unfold wyK at h
  injection h with h
  injection h with h1 h
  injection h with h2 h
  exact ⟨plK_inj h1, plK_inj h2⟩
theorem plK_depth (p : Pl) : (plK p).depth ≤ 8 := by
  simp [plK, NestedKey.depth, NestedKey.depthAll]
theorem wyK_depth (p q : Pl) : (wyK p q).depth ≤ 8 := by
  simp [wyK, plK, NestedKey.depth, NestedKey.depthAll]
def Ky1 (K : PySem.W.Frag) (H : Hp) (p : Pl) (v : V) : Prop := ∃ a, v = .ref a ∧ SqT K H a [.str p.w, .int p.a, .int p.b]
def Ky2 (K : PySem.W.Frag) (H : Hp) (p q : Pl) (v : V) : Prop := ∃ a v1 v2, v = .ref a ∧ SqT K H a [v1, v2] ∧ Ky1 K H p v1 ∧ Ky1 K H q v2
def KyA (K : PySem.W.Frag) (H : Hp) (k : NestedKey) (v : V) : Prop := (∃ p, k = plK p ∧ Ky1 K H p v) ∨ ∃ p q, k = wyK p q ∧ Ky2 K H p q v
theorem Ky1.mono {K : PySem.W.Frag} {H H' : Hp} {p : Pl} {v : V} (e : Same H H') (h : Ky1 K H p v) : Ky1 K H' p v := let ⟨a, h1, h2⟩ := h; ⟨a, h1, same_t e h2⟩
theorem KyA.mono {K : PySem.W.Frag} {H H' : Hp} {k : NestedKey} {v : V} (e : Same H H') (h : KyA K H k v) : KyA K H' k v := by
  rcases h with ⟨p, h1, h2⟩ | ⟨p, q, h1, a, v1, v2, h2, h3, h4, h5⟩
  · exact .inl ⟨p, h1, h2.mono e⟩
  · exact .inr ⟨p, q, h1, a, v1, v2, h2, same_t e h3, h4.mono e, h5.mono e⟩
theorem KyA.ref {K : PySem.W.Frag} {H : Hp} {k : NestedKey} {v : V} (h : KyA K H k v) : ∃ a, v = .ref a := by
  rcases h with ⟨p, h1, a, h2, h3⟩ | ⟨p, q, h1, a, v1, v2, h2, h3, h4, h5⟩
  · exact ⟨a, h2⟩
  · exact ⟨a, h2⟩
section
variable {X : Cx} {pins : List (Addr × Obj)} {σ : L2.St} {H : Hp} {s : Shared}
theorem sqt_obj {a : Addr} {xs : List V} (I : Inv X pins σ H s) (h : SqT X.K H a xs) : ∃ (its : List Value) (o : Obj) (n : Nat), Vals xs its ∧ s.heap.get? a = some o ∧ o.cls = .type "tuple" ∧ o.data = .seq its.toArray n := by
  obtain ⟨its, rv, p, _⟩ := I.tuple h
  obtain ⟨o, h1, h2, n, h3⟩ := (show s.heap.IsTuple a its.toArray from p)
  exact ⟨its, o, n, rv, h1, h2, h3⟩
theorem ky1_is {p : Pl} {v : V} {u : Value} (I : Inv X pins σ H s) (h : Ky1 X.K H p v) (r : RelV v u) : NestedIs s.heap (plK p) u := by
  obtain ⟨a, rfl, q⟩ := h
  cases (show u = Value.ref a from r)
  obtain ⟨its, o, n, rv, h1, h2, h3⟩ := sqt_obj I q
  refine .tup h1 h2 h3 ?_
  cases rv with
  | cons r1 rv =>
    cases rv with
    | cons r2 rv =>
      cases rv with
      | cons r3 rv =>
        cases rv
        obtain ⟨t1, rfl⟩ := r1
        obtain ⟨t2, rfl⟩ := r2
        obtain ⟨t3, rfl⟩ := r3
        exact .cons (.text _ _) (.cons (.int _ _) (.cons (.int _ _) .nil))
theorem ky_is {k : NestedKey} {v : V} {u : Value} (I : Inv X pins σ H s) (h : KyA X.K H k v) (r : RelV v u) : NestedIs s.heap k u ∧ k.depth ≤ 8 := by
  rcases h with ⟨p, rfl, h⟩ | ⟨p, q, rfl, a, v1, v2, rfl, h3, h4, h5⟩
  · exact ⟨ky1_is I h r, plK_depth p⟩
  · cases (show u = Value.ref a from r)
    refine ⟨?_, wyK_depth p q⟩
    obtain ⟨its, o, n, rv, h1, h2, h6⟩ := sqt_obj I h3
    refine .tup h1 h2 h6 ?_
    cases rv with
    | cons r1 rv =>
      cases rv with
      | cons r2 rv =>
        cases rv
        exact .cons (ky1_is I h4 r1) (.cons (ky1_is I h5 r2) .nil)
end
/-! the entries -/
abbrev Ent := List (NestedKey × Addr × Int)
def atX (xs : Ent) (k : NestedKey) : Option Int := (xs.find? fun x => decide (x.1 = k)).map fun x => x.2.2
def putX (xs : Ent) (k : NestedKey) (a : Addr) (i : Int) : Ent := if (atX xs k).isSome then xs.map (fun x => if x.1 = k then (x.1, x.2.1, i) else x) else xs ++ [(k, a, i)]
abbrev PrX : Ent → List (NestedKey × Addr × Value) → Prop := Paired fun x y => y.1 = x.1 ∧ y.2.1 = x.2.1 ∧ RelV (.int x.2.2) y.2.2
theorem PrX.at {xs : Ent} {ys : List (NestedKey × Addr × Value)} (h : PrX xs ys) (k : NestedKey) : RelO ((atX xs k).map V.int) ((atKey ys k).map (·.2)) := by
  unfold PrX at h
  induction h with
  | nil => exact True.intro
  | @cons x y l1 l2 q _ ih =>
    obtain ⟨e1, e2, e3⟩ := q
    unfold atX atKey at *
    by_cases hk : x.1 = k
    · have hk2 : y.1 = k := by rw [e1]; exact hk
      simp only [List.find?_cons, hk, hk2, decide_true, Option.map_some]
      exact e3
    · have hk2 : ¬ y.1 = k := by rw [e1]; exact hk
      simp only [List.find?_cons, hk, hk2, decide_false]
      exact ih
theorem PrX.some_iff {xs : Ent} {ys : List (NestedKey × Addr × Value)} (h : PrX xs ys) (k : NestedKey) : (atKey ys k).isSome = (atX xs k).isSome := by
  have q := (h.at k).isSome_eq
  rw [Option.isSome_map, Option.isSome_map] at q
  first
    | exact q.symm
    | exact q
theorem PrX.put {xs : Ent} {ys : List (NestedKey × Addr × Value)} (h : PrX xs ys) (k : NestedKey) (a : Addr) {i : Int} {v : Value} (r : RelV (.int i) v) : PrX (putX xs k a i) (storedH ys k a v) := by
  unfold putX storedH
  rw [h.some_iff k]
  by_cases hs : (atX xs k).isSome = true
  · rw [if_pos hs, if_pos hs]
    clear hs
    unfold PrX at h ⊢
    induction h with
    | nil => exact .nil
    | @cons x y l1 l2 q _ ih =>
      obtain ⟨e1, e2, e3⟩ := q
      rw [List.map_cons, List.map_cons]
      refine .cons ?_ ih
      unfold putAt
      by_cases hk : x.1 = k
      · rw [if_pos hk, if_pos (by rw [e1]; exact hk)]
        exact ⟨e1, e2, r⟩
      · rw [if_neg hk, if_neg (by rw [e1]; exact hk)]
        exact ⟨e1, e2, e3⟩
  · rw [if_neg hs, if_neg hs]
    exact Paired.snoc h ⟨rfl, rfl, r⟩
theorem putX_length (xs : Ent) (k : NestedKey) (a : Addr) (i : Int) : (putX xs k a i).length ≤ xs.length + 1 := by
  unfold putX
  split
  · simp
  · simp
/-- the dict at d, by its entries -/
def phiN (P : Program) (w : World) (d : Addr) (xs : Ent) : Heap → Prop := fun h => (d == sysModules) = false ∧ xs.length ≤ sizeLine ∧ ∃ ys, PrX xs ys ∧
  ∃ o es ep, h.get? d = some o ∧ o.ExactDict ∧ o.data = .dict es ep ∧ es.toList = ys.map (entryOfKey (nestedKind P w)) ∧ (ys.map (·.1)).Nodup
structure DX (P : Program) (w : World) (K : PySem.W.Frag) (H : Hp) (d : Addr) (xs : Ent) : Prop where
  at_ : H d = some (.ext (phiN P w d xs))
  ky : ∀ x, x ∈ xs → KyA K H x.1 (.ref x.2.1)
theorem phiN_at {P : Program} {w : World} {d : Addr} {xs : Ent} {h1 h2 : Heap} (p : phiN P w d xs h1) (k : ∀ o, h1.get? d = some o → h2.get? d = some o) : phiN P w d xs h2 := by
  obtain ⟨hd, hl, ys, pr, o, es, ep, ho, r⟩ := p
  exact ⟨hd, hl, ys, pr, o, es, ep, k o ho, r⟩
section
variable {X : Cx} {pins : List (Addr × Obj)} {σ : L2.St} {H : Hp} {s : Shared} {d : Addr} {xs : Ent}
theorem DX.of (I : Inv X pins σ H s) (x : DX X.prog X.w X.K H d xs) : (d == sysModules) = false ∧ xs.length ≤ sizeLine ∧ ∃ ys, PrX xs ys ∧ s.heap.DictOfH (nestedKind X.prog X.w) d ys := by
  have ok : ObjOk X.prog X.w H s.heap d (.ext (phiN X.prog X.w d xs)) := I.hok _ _ x.at_
  obtain ⟨⟨hd, hl, ys, pr, o, es, ep, ho, h1, h2, h3, h4⟩, _, _⟩ := ok
  refine ⟨hd, hl, ys, pr, o, es, ep, ho, h1, h2, h3, ?_, h4⟩
  have key : ∀ (xs : Ent) (ys : List (NestedKey × Addr × Value)), PrX xs ys → (∀ x, x ∈ xs → KyA X.K H x.1 (.ref x.2.1)) → ∀ y, y ∈ ys → (nestedKind X.prog X.w).is s.heap y.1 y.2.1 := fun xs ys pr => by
    unfold PrX at pr
    induction pr with
    | nil => exact fun _ y hy => nomatch hy
    | @cons x y l1 l2 q _ ih =>
      intro hk z hz
      rcases List.mem_cons.mp hz with rfl | hz
      · obtain ⟨e1, e2, _⟩ := q
        rw [e1, e2]
        exact ky_is I (hk x (List.mem_cons_self ..)) rfl
      · exact ih (fun x hx => hk x (List.mem_cons_of_mem _ hx)) z hz
  exact key xs ys pr x.ky
theorem dx_typeIs (I : Inv X pins σ H s) (x : DX X.prog X.w X.K H d xs) : s.TypeIs (.ref d) "dict" := by
  obtain ⟨_, _, ys, _, dd⟩ := x.of I
  exact dd.typeIs
theorem dx_noDict (I : Inv X pins σ H s) (x : DX X.prog X.w X.K H d xs) : ∀ b, Value.ref d = .ref b → ∃ ob, s.heap.get? b = some ob ∧ ob.dict = none := fun b q => by
  cases q
  obtain ⟨_, _, ys, _, o, es, ep, h1, h2, _⟩ := x.of I
  exact ⟨o, h1, h2.2.1⟩
end
/-! what is read and written -/
section
variable (P : Program) (w : World) (K : PySem.W.Frag)
def tNGet (td ty : TE) : TE := fun σ H Q => td σ H fun x H1 => ty σ H1 fun y H2 => ∃ a xs k i, x = .ref a ∧ DX P w K H2 a xs ∧ KyA K H2 k y ∧ atX xs k = some i ∧ Q (.int i) H2
def tNIn (ty td : TE) : TE := fun σ H Q => ty σ H fun y H1 => td σ H1 fun x H2 => ∃ a xs k, x = .ref a ∧ DX P w K H2 a xs ∧ KyA K H2 k y ∧ Q (.bl (atX xs k).isSome) H2
def tNNotIn (ty td : TE) : TE := fun σ H Q => ty σ H fun y H1 => td σ H1 fun x H2 => ∃ a xs k, x = .ref a ∧ DX P w K H2 a xs ∧ KyA K H2 k y ∧ Q (.bl (!(atX xs k).isSome)) H2
def tNGet2 (td ty tx : TE) : TE := fun σ H Q => td σ H fun x H1 => ∃ a xs, x = .ref a ∧ DX P w K H1 a xs ∧ ty σ H1 fun y H2 => tx σ H2 fun z H3 => ∃ ys k i, z = .int i ∧ DX P w K H3 a ys ∧ KyA K H3 k y ∧ Q (.int ((atX ys k).getD i)) H3
def sNPut (td ty tv : TE) : TS := fun D σ H => tv σ H fun v H1 => td σ H1 fun x H2 => ty σ H2 fun y H3 => ∃ a xs k b i, x = .ref a ∧ y = .ref b ∧ v = .int i ∧ DX P w K H3 a xs ∧ KyA K H3 k y ∧ xs.length < sizeLine ∧ D.nx σ (upd H3 a (.ext (phiN P w a (putX xs k b i))))
def tNNew : TE := fun _ H Q => ∀ p, H p = none → Q (.ref p) (upd H p (.ext (phiN P w p [])))
/-- {a place: a number} -/
def tNOne (tk tv : TE) : TE := fun σ H Q => ∀ p, H p = none → tk σ (upd H p (.ext (phiN P w p []))) fun y H1 => tv σ H1 fun v H2 => H2 p = some (.ext (phiN P w p [])) ∧ ∃ k b i, y = .ref b ∧ v = .int i ∧ KyA K H2 k y ∧ Q (.ref p) (upd H2 p (.ext (phiN P w p [(k, b, i)])))
end
theorem phi_new {P : Program} {w : World} {H : Hp} (h : Heap) (hb : sysModules < h.objs.size) : ObjOk P w H (h.push { cls := .type "dict", data := .dict #[] }) h.objs.size (.ext (phiN P w h.objs.size [])) :=
  ⟨⟨beq_eq_false_iff_ne.mpr (Ne.symm (Nat.ne_of_lt hb)), Nat.zero_le _, [], .nil, _, #[], 0, Heap.get?_push_size _ rfl, ⟨rfl, rfl, rfl⟩, rfl, rfl, List.nodup_nil⟩, ⟨_, Heap.get?_push_size _ rfl⟩, fun h1 h2 p k => phiN_at p k⟩
section
variable {X : Cx} {o i e value f : Expr} {pos pos' cpos apos : Pos} {td ty tv tx : TE}
theorem nk_room {A : Around} (hu : A.units + 64 < cLine) {P : Program} {w : World} : (nestedKind P w).room A.in1 := by
  show A.in1.units + 8 < cLine
  simp only [Around.in1_units]
  omega
theorem pe_nget (hu : X.A.units + 64 < cLine) (ho : PE X o td) (hi : PE X i ty) (hs : NoSl i) : PE X (.Subscript o i pos) (tNGet X.prog X.w X.K td ty) := by
  refine ⟨fun pins s σ H Q I h => ?_⟩
  refine subD_of PySem.F.slot_dict_getitem.lookup hs (thn (ho.run pins s σ H _ I h) fun u s1 ⟨x, H1, I1, rx, q1⟩ => thn (hi.run pins s1 σ H1 _ I1 q1) fun iv s2 ⟨y, H2, I2, ry, a, xs, k, n, ex, g, hk, hv, q2⟩ => ?_)
  subst ex
  obtain rfl : u = Value.ref a := rx
  obtain ⟨b, rfl⟩ := hk.ref
  have key := ky_is I2 hk ry
  cases (show iv = Value.ref b from ry)
  refine ⟨dx_typeIs I2 g, ?_⟩
  obtain ⟨hd, hl, ys, pr, dd⟩ := g.of I2
  obtain ⟨w', hw, rw'⟩ := RelO.some_of (v := .int n) (o := (atKey ys k).map (·.2)) (by have := pr.at k; rw [hv] at this; exact this)
  obtain ⟨p, hp, hp2⟩ := Option.map_eq_some_iff.mp hw
  refine wpAny_getItem_heap (nk_room hu) key dd hp ?_
  rw [hp2]
  exact ⟨.int n, H2, I2.tok _, rw', q2⟩
theorem pc_nin (hu : X.A.units + 64 < cLine) (hi : PE X i ty) (ho : PE X o td) : PC X .In i o (tNIn X.prog X.w X.K ty td) := by
  refine ⟨fun pins s σ H Q I h => ?_⟩
  refine thn (hi.run pins s σ H _ I h) fun iv s1 ⟨y, H1, I1, ry, q1⟩ => thn (ho.run pins s1 σ H1 _ I1 q1) fun u s2 ⟨x, H2, I2, rx, a, xs, k, ex, g, hk, q2⟩ => ?_
  subst ex
  obtain rfl : u = Value.ref a := rx
  obtain ⟨b, rfl⟩ := hk.ref
  have key := ky_is I2 hk ry
  cases (show iv = Value.ref b from ry)
  obtain ⟨hd, hl, ys, pr, dd⟩ := g.of I2
  refine wpAny_in_heap (nk_room hu) key hd dd ?_
  rw [pr.some_iff k]
  exact ⟨.bl (atX xs k).isSome, H2, I2.tok _, rfl, q2⟩
theorem pc_nnotin (hu : X.A.units + 64 < cLine) (hi : PE X i ty) (ho : PE X o td) : PC X .NotIn i o (tNNotIn X.prog X.w X.K ty td) := by
  refine ⟨fun pins s σ H Q I h => ?_⟩
  refine thn (hi.run pins s σ H _ I h) fun iv s1 ⟨y, H1, I1, ry, q1⟩ => thn (ho.run pins s1 σ H1 _ I1 q1) fun u s2 ⟨x, H2, I2, rx, a, xs, k, ex, g, hk, q2⟩ => ?_
  subst ex
  obtain rfl : u = Value.ref a := rx
  obtain ⟨b, rfl⟩ := hk.ref
  have key := ky_is I2 hk ry
  cases (show iv = Value.ref b from ry)
  obtain ⟨hd, hl, ys, pr, dd⟩ := g.of I2
  refine wpAny_notIn_heap (nk_room hu) key hd dd ?_
  rw [pr.some_iff k]
  exact ⟨.bl (!(atX xs k).isSome), H2, I2.tok _, rfl, q2⟩
theorem pe_nget2 (hu : X.A.units + 64 < cLine) (ho : PE X o td) (he : PE X e ty) (hf : PE X f tx) (m : M2 X o "get" apos e f cpos) : PE X (.Call (.Attribute o "get" apos) [e, f] [] cpos) (tNGet2 X.prog X.w X.K td ty tx) := by
  refine ⟨fun pins s σ H Q I h => ?_⟩
  refine wpAny_Call_method m.base m.few m.line PySem.F.plainAttrs_dict PySem.F.slot_dict_get PySem.F.type_dict_get (thn (ho.run pins s σ H _ I h) fun u s1 ⟨x, H1, I1, rx, a, xs, ex, g1, q1⟩ => ?_)
  subst ex
  obtain rfl : u = Value.ref a := rx
  refine ⟨dx_typeIs I1 g1, dx_noDict I1 g1, ?_⟩
  rw [m.trees]
  refine Calls.callWith_builtin rfl (Calls.evalArgs_plain (Calls.spliced_cons (thn (he.run pins s1 σ H1 _ I1 q1) fun iv s2 ⟨y, H2, I2, ry, q2⟩ =>
    Calls.spliced_cons (thn (hf.run pins s2 σ H2 _ I2 q2) fun fv s3 ⟨z, H3, I3, rz, ys, k, n, ez, g, hk, q3⟩ => Calls.spliced_nil ?_))))
  subst ez
  obtain ⟨b, rfl⟩ := hk.ref
  have key := ky_is I3 hk ry
  cases (show iv = Value.ref b from ry)
  obtain ⟨hd, hl, zs, pr, dd⟩ := g.of I3
  refine call_meetsIn PySem.F.slot_dict_get dd.typeIs PySem.F.entry_dict_get (PySem.F.args_dict_get_3 _ _ _) (meetsH_dict_get_default (nestedKind X.prog X.w) a b hd fv) ⟨nk_room hu, k, zs, key, dd, ?_⟩
  refine ⟨.int ((atX ys k).getD n), H3, I3.tok _, ?_, q3⟩
  have r := pr.at k
  cases q : atX ys k with
  | none =>
    rw [q] at r
    have r2 := RelO.none_of r
    rw [r2]
    exact rz
  | some j =>
    rw [q] at r
    obtain ⟨w', hw, rw'⟩ := RelO.some_of r
    rw [hw]
    exact rw'
theorem ps_nput (hu : X.A.units + 64 < cLine) (ho : PE X o td) (hi : PE X i ty) (hv : PE X value tv) (hs : swapsWith value (some (.Subscript o i pos')) pos.line X.env = pure false) :
    PS X (.Assign [.Subscript o i pos'] value pos) (sNPut X.prog X.w X.K td ty tv) := by
  refine ⟨fun pins s σ H D I h => ?_⟩
  refine wpAny_Assign_Subscript (thn (hv.run pins s σ H _ I h) fun r s1 ⟨v, H1, I1, rv, q1⟩ => thn (ho.run pins s1 σ H1 _ I1 q1) fun u s2 ⟨x, H2, I2, rx, q2⟩ => thn (hi.run pins s2 σ H2 _ I2 q2) fun iv s3 ⟨y, H3, I3, ry, a, xs, k, b, n, ex, ey, ev, g, hk, hlt, q3⟩ => ?_) hs
  subst ex ey ev
  obtain rfl : u = Value.ref a := rx
  have key := ky_is I3 hk ry
  cases (show iv = Value.ref b from ry)
  obtain ⟨hd, hl, ys, pr, dd⟩ := g.of I3
  have hz : ys.length ≤ sizeLine := by rw [← Paired.length pr]; exact hl
  have hl2 : (putX xs k b n).length ≤ sizeLine := by have := putX_length xs k b n; omega
  refine wpAny_setItem_heap (hsz := hz) (nk_room hu) key dd fun h' dd' hsb => ?_
  obtain ⟨ob, es, ep, hq, h2, h3, h4, _, h5⟩ := dd'
  have he : ∃ q, h'.get? a = some q := ⟨ob, hq⟩
  refine ⟨σ, _, d_write (ob := .ext (phiN X.prog X.w a (putX xs k b n))) I3 (by rw [g.at_]; exact True.intro) hsb he ⟨⟨hd, hl2, _, pr.put k b rv, ob, es, ep, hq, h2, h3, h4, h5⟩, he, fun h1 h2 p k => phiN_at p k⟩, q3⟩
theorem pe_nnew : PE X (.Dict [] [] pos) (tNNew X.prog X.w) := ⟨fun pins s σ H Q I h =>
  wpAny_Dict_empty ⟨.ref s.heap.objs.size, _, I.laid (a := s.heap.objs.size) (t' := s.toks) (fun _ _ q => Heap.get?_push_of_some _ q) (Nat.le_refl _) (phi_new s.heap I.big), rfl, h _ (I.hok.fresh (Nat.le_refl _))⟩⟩
theorem pe_none {tk : TE} (hu : X.A.units + 64 < cLine) (hk : PE X i tk) (hv : PE X e tv)
    (hshape : (evalEachOpt [some i] X.env).zip ((evalEach [e] X.env).map fun v => do let x ← v; standAt pos; pure x) = [(eval i X.env, do let x ← eval e X.env; standAt pos; pure x)].map fun p => (some p.1, p.2) := by rfl) :
    PE X (.Dict [some i] [e] pos) (tNOne X.prog X.w X.K tk tv) := by
  refine ⟨fun pins s σ H Q I h => ?_⟩
  have hn := I.hok.fresh (Nat.le_refl s.heap.objs.size)
  have I1 := I.laid (a := s.heap.objs.size) (h' := s.heap.push { cls := .type "dict", data := .dict #[] }) (t' := s.toks) (fun _ _ q => Heap.get?_push_of_some _ q) (Nat.le_refl _) (phi_new s.heap I.big)
  have hu8 : (nestedKind X.prog X.w).room X.A := by show X.A.units + 8 < cLine; omega
  rw [arm_eval_Dict, hshape, dictDisplay_pairs [(eval i X.env, do let x ← eval e X.env; standAt pos; pure x)] (by simp) (by simp)]
  refine wpAny_bind (wpAny_standAt (wpAny_bind (wpAny_subDictH (knd := nestedKind X.prog X.w) (pairs := [(eval i X.env, do let x ← eval e X.env; standAt pos; pure x)]) hu8 (by simp) ?_)))
  show wpAny _ _ (eval i X.env >>= _) _ _ _
  refine wpAny_bind (thn (hk.run pins _ σ _ _ I1 (h _ hn)) fun u s2 ⟨y, H2, I2, ry, q2⟩ => ?_)
  refine wpAny_bind (wpAny_holding ?_)
  refine wpAny_bind (thn (hv.run pins _ σ _ _ I2 q2) fun u2 s3 ⟨v, H3, I3, rv, eH, k, b, n, ey, ev, hky, q3⟩ => ?_)
  refine wpAny_bind (wpAny_standAt (wpAny_pure ?_))
  refine wpAny_bind (wpAny_holding ?_)
  refine wpAny_pure (wpAny_pure ?_)
  subst ey ev
  have key := ky_is I3 hky ry
  cases (show u = Value.ref b from ry)
  have g : DX X.prog X.w X.K H3 s.heap.objs.size [] := ⟨eH, fun x hx => nomatch hx⟩
  obtain ⟨hd, hl, ys, pr, dd⟩ := g.of I3
  cases pr
  refine ⟨[(k, b, u2)], ⟨rfl, rfl, key, trivial⟩, dd, fun h' tk dd' hsb => ?_⟩
  have e1 : storedAllH ([] : List (NestedKey × Addr × Value)) [(k, b, u2)] = [(k, b, u2)] := by
    show storedH [] k b u2 = _
    simp [storedH, atKey]
  rw [e1] at dd'
  obtain ⟨ob, es, ep, hq, h2, h3, h4, _, h5⟩ := dd'
  have he : ∃ q, h'.get? s.heap.objs.size = some q := ⟨ob, hq⟩
  refine wpAny_pure ⟨.ref s.heap.objs.size, _, d_write (ob := .ext (phiN X.prog X.w s.heap.objs.size [(k, b, n)])) I3 (by rw [eH]; exact True.intro) hsb he ⟨⟨hd, by show 1 ≤ sizeLine; decide, _, .cons ⟨rfl, rfl, rv⟩ .nil, ob, es, ep, hq, h2, h3, h4, h5⟩, he, fun h1 h2 p k => phiN_at p k⟩, rfl, q3⟩
end
end Eb
namespace Eb
open PySem PySem.Spec PyProof.Rows L2
abbrev KV1 := List (NestedKey × Int)
def vw (xs : Ent) : KV1 := xs.map fun x => (x.1, x.2.2)
def atN (kv : KV1) (k : NestedKey) : Option Int := (kv.find? fun x => decide (x.1 = k)).map fun x => x.2
def putN (kv : KV1) (k : NestedKey) (i : Int) : KV1 := if (atN kv k).isSome then kv.map (fun x => if x.1 = k then (x.1, i) else x) else kv ++ [(k, i)]
theorem at_vw (xs : Ent) (k : NestedKey) : atX xs k = atN (vw xs) k := by
  unfold atX atN vw
  induction xs with
  | nil => rfl
  | cons x r ih =>
    rw [List.map_cons, List.find?_cons, List.find?_cons]
    by_cases h : x.1 = k
    · simp [h]
    · simp only [h, decide_false]
      exact ih
theorem put_vw (xs : Ent) (k : NestedKey) (a : Addr) (i : Int) : vw (putX xs k a i) = putN (vw xs) k i := by
  unfold putX putN
  rw [at_vw]
  split
  · unfold vw
    rw [List.map_map, List.map_map]
    refine List.map_congr_left fun x _ => ?_
    show (fun x : NestedKey × Addr × Int => (x.1, x.2.2)) (if x.1 = k then (x.1, x.2.1, i) else x) = if x.1 = k then (x.1, i) else (x.1, x.2.2)
    split <;> rfl
  · unfold vw
    rw [List.map_append]
    rfl
theorem vw_length (xs : Ent) : (vw xs).length = xs.length := by unfold vw; rw [List.length_map]
theorem mem_putX {xs : Ent} {k : NestedKey} {a : Addr} {i : Int} {x : NestedKey × Addr × Int} (h : x ∈ putX xs k a i) : (∃ y, y ∈ xs ∧ y.1 = x.1 ∧ y.2.1 = x.2.1) ∨ x.1 = k ∧ x.2.1 = a := by
  unfold putX at h
  split at h
  · obtain ⟨y, hy, e⟩ := List.mem_map.mp h
    refine .inl ⟨y, hy, ?_⟩
    split at e
    · subst e
      exact ⟨rfl, rfl⟩
    · subst e
      exact ⟨rfl, rfl⟩
  · rcases List.mem_append.mp h with h | h
    · exact .inl ⟨x, h, rfl, rfl⟩
    · rw [List.mem_singleton.mp h]
      exact .inr ⟨rfl, rfl⟩
/-- one's own dict -/
def obN (P : Program) (w : World) (K : PySem.W.Frag) (l : Addr) (kv : KV1) : Ob := ⟨fun Z o => ∃ xs, o = .ext (phiN P w l xs) ∧ (∀ x, x ∈ xs → KyA K Z x.1 (.ref x.2.1)) ∧ vw xs = kv, fun e ⟨xs, h1, h2, h3⟩ => ⟨xs, h1, fun x hx => (h2 x hx).mono e, h3⟩⟩
/-- anybody's dict -/
def DR (P : Program) (w : World) (K : PySem.W.Frag) (kv : KV1) : Rp := ⟨fun H v => ∃ a xs, v = .ref a ∧ DX P w K H a xs ∧ vw xs = kv, fun e ⟨a, xs, h1, h2, h3⟩ => ⟨a, xs, h1, ⟨e _ _ h2.at_, fun x hx => (h2.ky x hx).mono e⟩, h3⟩⟩
section
variable {P : Program} {w : World} {K : PySem.W.Frag} {F : Fr} {Γ : List En} {μ : Mu} {S : Rv → Prop} {D : TD} {td ty tv tx : TE} {tr : TA} {E : XK}
def Dn (P : Program) (w : World) (K : PySem.W.Frag) (F : Fr) (μ : Mu) (r : Rv) (kv : KV1) : Prop := ∀ Z H v, Wd F μ Z H → r.ok F Z v → ∃ a xs, v = .ref a ∧ DX P w K H a xs ∧ vw xs = kv
theorem dn_o {j : Nat} {l : Addr} {kv : KV1} (h : μ[j]? = some (l, obN P w K l kv)) : Dn P w K F μ (.o l) kv := fun Z H v w e => by
  obtain ⟨_, _, o, ho, xs, rfl, hk, hv⟩ := w.own _ (List.mem_of_getElem? h)
  exact ⟨l, xs, e, ⟨ho, fun x hx => (hk x hx).mono w.zh⟩, hv⟩
theorem dn_z {kv : KV1} : Dn P w K F μ (.z (DR P w K kv)) kv := fun Z H v w' e => (DR P w K kv).mono w'.zh e
theorem dn_b {kv : KV1} : Dn P w K F μ (.b (DR P w K kv)) kv := fun Z H v w' e => (DR P w K kv).mono w'.hb e
/-- a value that is a key -/
def KyP (K : PySem.W.Frag) (R : Rp) (k : NestedKey) : Prop := ∀ Z v, R.p Z v → KyA K Z k v
theorem ky1_of {Z : Hp} {p : Pl} {v : V} (h : (plR K p).p Z v) : Ky1 K Z p v := by
  obtain ⟨a, vs, h1, h2, al⟩ := h
  match vs, al with
  | [x, y, z], al =>
    obtain ⟨e1, e2, e3, _⟩ := al
    have e1 : x = _ := e1
    have e2 : y = _ := e2
    have e3 : z = _ := e3
    subst e1 e2 e3
    exact ⟨a, h1, h2⟩
  | [], al => exact al.elim
  | [_], al => exact al.2.elim
  | [_, _], al => exact al.2.2.elim
  | _ :: _ :: _ :: _ :: _, al => exact al.2.2.2.elim
theorem ky_pl (p : Pl) : KyP K (plR K p) (plK p) := fun Z v h => .inl ⟨p, rfl, ky1_of h⟩
theorem ky_wy (p q : Pl) : KyP K (TP K [plR K p, plR K q]) (wyK p q) := fun Z v ⟨a, vs, h1, h2, al⟩ => by
  match vs, al with
  | [x, y], al => exact .inr ⟨p, q, rfl, a, x, y, h1, h2, ky1_of al.1, ky1_of al.2.1⟩
  | [], al => exact al.elim
  | [_], al => exact al.2.elim
  | _ :: _ :: _ :: _, al => exact al.2.2.elim
def KyR (K : PySem.W.Frag) (F : Fr) (μ : Mu) (r : Rv) (k : NestedKey) : Prop := ∀ Z H v, Wd F μ Z H → r.ok F Z v → KyA K H k v
theorem kr_z {R : Rp} {k : NestedKey} (h : KyP K R k) : KyR K F μ (.z R) k := fun Z H v w e => (h Z v e).mono w.zh
theorem kr_b {R : Rp} {k : NestedKey} (h : KyP K R k) : KyR K F μ (.b R) k := fun Z H v w e => (h _ v e).mono w.hb
theorem te_nget (h : TEv F Γ μ td (fun x => TEv F Γ μ ty (fun y => ∃ kv k n, Dn P w K F μ x kv ∧ KyR K F μ y k ∧ atN kv k = some n ∧ S (.z (vI n))))) : TEv F Γ μ (tNGet P w K td ty) S := fun σ Z H w e Q k =>
  h σ Z H w e _ fun v x Z1 H1 s1 w1 z1 p1 => s1 σ Z1 H1 w1 (e.mono z1) _ fun v2 y Z2 H2 s2 w2 z2 p2 => by
    obtain ⟨kv, ky, n, h1, h2, h3, s⟩ := s2
    obtain ⟨a, xs, rfl, dx, ev⟩ := h1 Z2 H2 v w2 (p1.mono z2)
    exact ⟨a, xs, ky, n, rfl, dx, h2 Z2 H2 v2 w2 p2, by rw [at_vw, ev]; exact h3, k _ _ Z2 H2 s w2 (z1.trans z2) rfl⟩
theorem te_nin (h : TEv F Γ μ ty (fun y => TEv F Γ μ td (fun x => ∃ kv k, Dn P w K F μ x kv ∧ KyR K F μ y k ∧ S (.z (vB (atN kv k).isSome))))) : TEv F Γ μ (tNIn P w K ty td) S := fun σ Z H w e Q k =>
  h σ Z H w e _ fun v2 y Z1 H1 s1 w1 z1 p1 => s1 σ Z1 H1 w1 (e.mono z1) _ fun v x Z2 H2 s2 w2 z2 p2 => by
    obtain ⟨kv, ky, h1, h2, s⟩ := s2
    obtain ⟨a, xs, rfl, dx, ev⟩ := h1 Z2 H2 v w2 p2
    refine ⟨a, xs, ky, rfl, dx, h2 Z2 H2 v2 w2 (p1.mono z2), k _ _ Z2 H2 s w2 (z1.trans z2) ?_⟩
    show _ = _
    rw [at_vw, ev]
theorem te_nnotin (h : TEv F Γ μ ty (fun y => TEv F Γ μ td (fun x => ∃ kv k, Dn P w K F μ x kv ∧ KyR K F μ y k ∧ S (.z (vB (!(atN kv k).isSome)))))) : TEv F Γ μ (tNNotIn P w K ty td) S := fun σ Z H w e Q k =>
  h σ Z H w e _ fun v2 y Z1 H1 s1 w1 z1 p1 => s1 σ Z1 H1 w1 (e.mono z1) _ fun v x Z2 H2 s2 w2 z2 p2 => by
    obtain ⟨kv, ky, h1, h2, s⟩ := s2
    obtain ⟨a, xs, rfl, dx, ev⟩ := h1 Z2 H2 v w2 p2
    refine ⟨a, xs, ky, rfl, dx, h2 Z2 H2 v2 w2 (p1.mono z2), k _ _ Z2 H2 s w2 (z1.trans z2) ?_⟩
    show _ = _
    rw [at_vw, ev]
theorem te_nget2 (h : TEv F Γ μ td (fun x => (∃ kv0, Dn P w K F μ x kv0) ∧ TEv F Γ μ ty (fun y => TEv F Γ μ tx (fun z => ∃ kv k n, z = .z (vI n) ∧ Dn P w K F μ x kv ∧ KyR K F μ y k ∧ S (.z (vI ((atN kv k).getD n))))))) : TEv F Γ μ (tNGet2 P w K td ty tx) S := fun σ Z H w e Q k =>
  h σ Z H w e _ fun v x Z1 H1 s1 w1 z1 p1 => by
    obtain ⟨⟨kv0, d0⟩, s1⟩ := s1
    obtain ⟨a, xs, rfl, dx, ev⟩ := d0 Z1 H1 v w1 p1
    refine ⟨a, xs, rfl, dx, s1 σ Z1 H1 w1 (e.mono z1) _ fun v2 y Z2 H2 s2 w2 z2 p2 => s2 σ Z2 H2 w2 (e.mono (z1.trans z2)) _ fun v3 z Z3 H3 s3 w3 z3 p3 => ?_⟩
    obtain ⟨kv, ky, n, rfl, h1, h2, s⟩ := s3
    obtain ⟨a', ys, ea, dy, ev2⟩ := h1 Z3 H3 (.ref a) w3 (p1.mono (z2.trans z3))
    cases ea
    have e3 : v3 = .int n := p3
    refine ⟨ys, ky, n, e3, dy, h2 Z3 H3 v2 w3 (p2.mono z3), k _ _ Z3 H3 s w3 ((z1.trans z2).trans z3) ?_⟩
    show _ = _
    rw [at_vw, ev2]
/-- x[k] = e, x one's own dict -/
theorem ts_nput {i j : Nat} {l : Addr} {kv : KV1} (hi : Γ[i]? = some (.ow l)) (hj : μ[j]? = some (l, obN P w K l kv)) (hl : kv.length < 100000)
    (h : TEv F Γ μ tv (fun q => ∃ n, q = .z (vI n) ∧ TEv F Γ μ ty (fun r => ∃ R k, r = .z R ∧ KyP K R k ∧ D.nx Γ (μ.set j (l, obN P w K l (putN kv k n)))))) : TSv F Γ μ (sNPut P w K (tVar i) ty tv) D := fun σ Z H w' e D' k =>
  h σ Z H w' e _ fun v q Z1 H1 s1 w1 z1 p1 => by
    obtain ⟨n, rfl, s1⟩ := s1
    obtain ⟨o, h1, h2⟩ := e.get hi
    cases h2
    refine ⟨.ref l, h1, s1 σ Z1 H1 w1 (e.mono z1) _ fun v2 r Z2 H2 s2 w2 z2 p2 => ?_⟩
    obtain ⟨R, ky, rfl, hk, s⟩ := s2
    obtain ⟨_, _, o3, h3, xs, rfl, hkx, hv⟩ := w2.own _ (List.mem_of_getElem? hj)
    have kz := hk Z2 v2 p2
    obtain ⟨b, rfl⟩ := kz.ref
    refine ⟨l, xs, ky, b, n, rfl, rfl, p1, ⟨h3, fun x hx => (hkx x hx).mono w2.zh⟩, kz.mono w2.zh, by rw [← vw_length, hv]; exact sz_lt hl, ?_⟩
    refine k.nx _ _ _ _ _ s (w2.mut hj ⟨_, rfl, fun x hx => ?_, by rw [put_vw, hv]⟩) (e.mono (z1.trans z2)) (z1.trans z2)
    rcases mem_putX hx with ⟨y, hy, e1, e2⟩ | ⟨e1, e2⟩
    · rw [← e1, ← e2]
      exact hkx y hy
    · rw [e1, e2]
      exact kz
/-- x = {} -/
theorem ts_nnew {i : Nat} (h : ∀ l, D.nx (Γ.set i (.ow l)) ((l, obN P w K l []) :: μ)) : TSv F Γ μ (tAsg (tNNew P w) (gName i)) D := fun σ Z H w' e D' k => fun p hp =>
  k.nx _ _ _ _ _ (h p) (w'.newOwn hp ⟨[], rfl, fun x hx => (nomatch hx), rfl⟩) (EnvOk.set (n := .ow p) (o := some (.ref p)) rfl i e) (Same.refl Z)
/-- x = {a place: a number} -/
theorem ts_none {i : Nat} {tk : TE} (h : ∀ p, TEv F Γ ((p, obN P w K p []) :: μ) tk (fun r => ∃ R k, r = .z R ∧ KyP K R k ∧ TEv F Γ ((p, obN P w K p []) :: μ) tv (fun q => ∃ n, q = .z (vI n) ∧ D.nx (Γ.set i (.ow p)) ((p, obN P w K p [(k, n)]) :: μ)))) :
    TSv F Γ μ (tAsg (tNOne P w K tk tv) (gName i)) D := fun σ Z H w' e D' k => fun p hp => by
  have w0 : Wd F ((p, obN P w K p []) :: μ) Z (upd H p (.ext (phiN P w p []))) := w'.newOwn hp ⟨[], rfl, fun x hx => (nomatch hx), rfl⟩
  refine h p σ Z _ w0 e _ fun v r Z1 H1 s1 w1 z1 p1 => ?_
  obtain ⟨R, ky, rfl, hk, s1⟩ := s1
  refine s1 σ Z1 H1 w1 (e.mono z1) _ fun v2 q Z2 H2 s2 w2 z2 p2 => ?_
  obtain ⟨n, rfl, s⟩ := s2
  obtain ⟨_, _, o3, h3, xs, rfl, hkx, hv⟩ := w2.own _ (List.mem_cons_self ..)
  have e0 : xs = [] := by
    cases xs with
    | nil => rfl
    | cons x r => cases hv
  subst e0
  have kz := hk Z2 v (R.mono z2 p1)
  obtain ⟨b, rfl⟩ := kz.ref
  refine ⟨h3, ky, b, n, rfl, p2, kz.mono w2.zh, ?_⟩
  refine k.nx _ _ _ _ _ s (w2.mut (j := 0) rfl ⟨[(ky, b, n)], rfl, fun x hx => ?_, rfl⟩) (EnvOk.set (n := .ow p) (o := some (.ref p)) rfl i (e.mono (z1.trans z2))) (z1.trans z2)
  rw [List.mem_singleton.mp hx]
  exact kz
/-- one's own dict is handed back -/
theorem ts_retN {i j : Nat} {l : Addr} {kv : KV1} (hi : Γ[i]? = some (.ow l)) (hj : μ[j]? = some (l, obN P w K l kv)) (h : D.rt (DR P w K kv)) : TSv F Γ μ (tRet (tVar i)) D := fun σ Z H w' e D' k => by
  obtain ⟨o, h1, h2⟩ := e.get hi
  cases h2
  have w2 : Wd F [(l, obN P w K l kv)] Z H := w'.drop (List.singleton_sublist.mpr (List.mem_of_getElem? hj))
  obtain ⟨u, ⟨xs, rfl, hk, hv⟩, sm, w3⟩ := w2.free
  exact ⟨.ref l, h1, k.rt _ _ _ _ _ h w3 sm ⟨l, xs, rfl, ⟨upd_same, fun x hx => (hk x hx).mono sm⟩, hv⟩⟩
end
/-! a def that changes what its first argument is -/
abbrev MSpc := (List Rp → Prop) → (Rp → Prop) → (Addr → Ob) → (Addr → Ob) → Prop
def toSpM (s : MSpc) : Sp := fun vs H Q _ => ∃ (ld : Addr) (rest : List V) (A : List Rp → Prop) (S : Rp → Prop) (o1 o2 : Addr → Ob) (Z : Hp), vs = .ref ld :: rest ∧ s A S o1 o2 ∧ (∀ Ps, A Ps → Al Z Ps rest) ∧ Same Z H ∧ Z ld = none ∧ (∃ o, H ld = some o ∧ (o1 ld).ok Z o) ∧
  ∀ v P Z' H', S P → Same Z Z' → (∀ a o, a ≠ ld → H a = some o → H' a = some o) → Same Z' H' → (∀ a, H a ≠ none → Z' a = Z a) → (∃ o, H' ld = some o ∧ (o2 ld).ok Z' o) → P.p Z' v → Q v H'
theorem Wd.stepM {F : Fr} {μ : Mu} {Z H Z' H' : Hp} {j : Nat} {l : Addr} {b b' : Ob} (w : Wd F μ Z H) (hj : μ[j]? = some (l, b)) (z : Same Z Z') (h : ∀ a o, a ≠ l → H a = some o → H' a = some o) (zh : Same Z' H') (n : ∀ a, H a ≠ none → Z' a = Z a)
    (hn : ∃ o, H' l = some o ∧ b'.ok Z' o) : Wd F (μ.set j (l, b')) Z' H' := by
  obtain ⟨hz, hf, u, hu, _⟩ := w.own _ (List.mem_of_getElem? hj)
  refine ⟨fun a o e k => ?_, fun a e => ?_, w.z0.trans z, fun a e => ?_, zh, fun q hq => ?_, ?_, fun d e => ?_⟩
  · exact h a o (fun q => by rw [q, hf] at e; cases e) (w.fr a o e k)
  · have ne : a ≠ l := fun q => by rw [q] at e; exact e hf
    cases q : H a with
    | none => exact absurd q (w.al a e)
    | some u2 =>
      rw [h a u2 ne q]
      exact fun z => nomatch z
  · exact (n a (w.al a e)).trans (w.zf a e)
  · obtain ⟨i, hi⟩ := List.mem_iff_getElem?.mp hq
    rw [List.getElem?_set] at hi
    split at hi
    · split at hi
      · cases hi
        exact ⟨(n l (by rw [hu]; exact fun z => nomatch z)).trans hz, hf, hn⟩
      · cases hi
    · rename_i ne
      obtain ⟨h1, h2, v, h3, h4⟩ := w.own q (List.mem_of_getElem? hi)
      have nl : q.1 ≠ l := fun z => ne (nodup_at w.nd hj hi z.symm)
      exact ⟨(n _ (by rw [h3]; exact fun z => nomatch z)).trans h1, h2, v, h _ _ nl h3, q.2.mono z h4⟩
  · rw [List.map_set]
    have e : (μ.map (·.1)).set j l = μ.map (·.1) := by
      apply List.ext_getElem?
      intro i
      rw [List.getElem?_set]
      split
      · rename_i ij
        subst ij
        rw [List.getElem?_map, hj]
        have lt := (List.getElem?_eq_some_iff.mp hj).1
        simp [lt]
      · rfl
    rw [e]
    exact w.nd
  · obtain ⟨h1, h2, hs, v, h3, h4⟩ := w.dev d e
    exact ⟨h1, h2, hs, v, h _ _ (fun z => by rw [z] at h1; exact h1 hf) h3, h4⟩
section
variable {F : Fr} {Γ : List En} {μ : Mu} {D : TD} {tr : TA} {E : XK} {ts : TS}
theorem ts_callM {s : MSpc} {j : Nat} (h : TAv F Γ μ tr (fun rs => ∃ l rs' o1 o2, rs = .o l :: rs' ∧ μ[j]? = some (l, o1 l) ∧ s (ZvA rs') (fun _ => D.nx Γ (μ.set j (l, o2 l))) o1 o2)) : TSv F Γ μ (tDrop (tCall (toSpM s) [] E tr)) D := fun σ Z H w e D' k => h σ Z H w e _ fun vs rs Z1 H1 s1 w1 z1 p1 => by
  obtain ⟨l, rs', o1, o2, rfl, hj, s1⟩ := s1
  show toSpM s (vs ++ []) H1 _ E
  rw [List.append_nil]
  match vs, p1 with
  | v :: vs, p1 =>
    obtain ⟨p0, p2⟩ := p1
    have p0 : v = .ref l := p0
    subst p0
    obtain ⟨hz, hf, hown⟩ := w1.own _ (List.mem_of_getElem? hj)
    exact ⟨l, vs, _, _, o1, o2, Z1, rfl, s1, fun Ps c => c.al p2, w1.zh, hz, hown, fun v P Z2 H2 s2 z2 h2 zh n hn p3 =>
      k.nx _ _ _ _ _ s2 (w1.stepM hj z2 h2 zh n hn) (e.mono (z1.trans z2)) (z1.trans z2)⟩
  | [], p1 => exact p1.elim
theorem run_spM {s : MSpc} {vs : List V} {H : Hp} {Q : VK} {E : XK} {N : List Str} (h : toSpM s vs H Q E) (hb : ∀ A S o1 o2, s A S o1 o2 → ∃ Ps, A Ps ∧ ∀ (F : Fr) (l : Addr), F.dv = none → TSv F (.ow l :: (Ps.map En.rp ++ List.replicate (N.length - (Ps.length + 1)) .no)) [(l, o1 l)] ts { nx := fun _ μ => μ = [(l, o2 l)] ∧ S vN, rt := fun _ => False }) :
    ts { nx := fun _ H' => Q .non H', rt := Q } (L2.start N vs) H := by
  obtain ⟨ld, rest, A, S, o1, o2, Z, rfl, s1, al, zh, zl, ho, k⟩ := h
  obtain ⟨Ps, hA, b⟩ := hb A S o1 o2 s1
  have al2 := al Ps hA
  have hz : Same Z H := zh
  have w0 : Wd ⟨hidA ld H, Z, Z, none⟩ [(ld, o1 ld)] Z H := by
    refine ⟨fun a o e _ => hidA_same a o e, fun a e => ?_, Same.refl Z, fun _ _ => rfl, zh, fun q hq => ?_, by simp, fun d e => (nomatch e)⟩
    · show H a ≠ none
      intro z
      apply e
      show hidA ld H a = none
      unfold hidA
      rw [z]
      split <;> rfl
    · rw [List.mem_singleton.mp hq]
      exact ⟨zl, by show hidA ld H ld = none; unfold hidA; rw [if_pos rfl], ho⟩
  refine b ⟨hidA ld H, Z, Z, none⟩ ld rfl _ Z H w0 ?_ _ ⟨?_, ?_, ?_, ?_⟩
  · unfold L2.start
    rw [List.length_cons, ← al2.length]
    exact ⟨rfl, env_rp al2⟩
  · rintro Γ μ σ Z1 H1 ⟨rfl, q⟩ w _ z
    obtain ⟨hz1, _, hown⟩ := w.own _ (List.mem_cons_self ..)
    refine k .non vN Z1 H1 q z (fun a o ne e => w.fr a o (by show hidA ld H a = some o; rw [hidA_ne ne]; exact e) fun d x => nomatch x) w.zh (fun a e => ?_) hown rfl
    by_cases ea : a = ld
    · rw [ea, hz1, zl]
    · exact w.zf a (by show hidA ld H a ≠ none; rw [hidA_ne ea]; exact e)
  · exact fun P v μ Z1 H1 q => q.elim
  · exact fun _ _ _ _ _ q => q.elim
  · exact fun _ _ _ _ _ q => q.elim
theorem len_spM {s : MSpc} {n : Nat} (h : ∀ A S o1 o2, s A S o1 o2 → ∃ Ps, A Ps ∧ Ps.length + 1 = n) : ∀ vs H Q E, toSpM s vs H Q E → vs.length = n := fun vs H Q E ⟨ld, rest, A, S, o1, o2, Z, e, s1, al, _⟩ => by
  obtain ⟨Ps, hA, hn⟩ := h A S o1 o2 s1
  rw [e, List.length_cons, ← (al Ps hA).length, hn]
end
end Eb
/-! == over what is told as data -/
namespace Eb
open PySem PySem.Spec PyProof.Rows L2
theorem sql_same {K : PySem.W.Frag} {H H' : Hp} {a : Addr} {xs : List V} (e : Same H H') (h : SqL K H a xs) : SqL K H' a xs := by
  rcases h with h | h
  · exact Or.inl (same_rd e h)
  · exact Or.inr h
mutual
theorem Dp.same {K : PySem.W.Frag} {H H' : Hp} (e : Same H H') : ∀ (d : PyData) (v : V), Dp K H v d → Dp K H' v d
  | .none, _, h => by cases h; exact .non
  | .bool b, _, h => by cases h; exact .bl b
  | .int i, _, h => by cases h; exact .int i
  | .str x, _, h => by cases h; exact .str x
  | .list ds, _, h => by
    cases h with
    | lst q r => exact .lst (sql_same e q) (DpAll.same e ds _ r)
  | .tuple ds, _, h => by
    cases h with
    | tup q r => exact .tup (same_t e q) (DpAll.same e ds _ r)
  | .dict _, _, h => nomatch h
theorem DpAll.same {K : PySem.W.Frag} {H H' : Hp} (e : Same H H') : ∀ (ds : List PyData) (vs : List V), DpAll K H vs ds → DpAll K H' vs ds
  | [], _, h => by cases h; exact .nil
  | d :: ds, _, h => by
    cases h with
    | cons q r => exact .cons (Dp.same e d _ q) (DpAll.same e ds _ r)
end
def DpP (K : PySem.W.Frag) (R : Rp) (d : PyData) : Prop := ∀ Z v, R.p Z v → Dp K Z v d
def DpPs (K : PySem.W.Frag) : List Rp → List PyData → Prop
  | [], [] => True
  | R :: Rs, d :: ds => DpP K R d ∧ DpPs K Rs ds
  | _, _ => False
theorem DpPs.all {K : PySem.W.Frag} {Z : Hp} : ∀ {Rs : List Rp} {ds : List PyData} {vs : List V}, DpPs K Rs ds → Al Z Rs vs → DpAll K Z vs ds
  | [], [], [], _, _ => .nil
  | _ :: _, _ :: _, v :: vs, h, al => .cons (h.1 _ v al.1) (DpPs.all h.2 al.2)
  | [], [], _ :: _, _, al => al.elim
  | _ :: _, _ :: _, [], _, al => al.elim
  | [], _ :: _, _, h, _ => h.elim
  | _ :: _, [], _, h, _ => h.elim
theorem DpPs.map {α : Type} {K : PySem.W.Frag} {f : α → Rp} {g : α → PyData} (h : ∀ x, DpP K (f x) (g x)) : ∀ xs : List α, DpPs K (xs.map f) (xs.map g)
  | [] => trivial
  | x :: r => ⟨h x, DpPs.map h r⟩
section
variable {K : PySem.W.Frag} {F : Fr} {μ : Mu} {S : Rv → Prop}
theorem dp_int {i : Int} : DpP K (vI i) (.int i) := fun Z v h => by
  have e : v = .int i := h
  rw [e]
  exact .int i
theorem dp_bl {b : Bool} : DpP K (vB b) (.bool b) := fun Z v h => by
  have e : v = .bl b := h
  rw [e]
  exact .bl b
theorem dp_str {x : Str} : DpP K (vS x) (.str x) := fun Z v h => by
  have e : v = .str x := h
  rw [e]
  exact .str x
theorem dp_ls {Rs : List Rp} {ds : List PyData} (h : DpPs K Rs ds) : DpP K (LS Rs) (.list ds) := fun Z v ⟨a, vs, h1, h2, h3⟩ => by
  rw [h1]
  exact .lst (SqL.of h2) (h.all h3)
theorem dp_tp {Rs : List Rp} {ds : List PyData} (h : DpPs K Rs ds) : DpP K (TP K Rs) (.tuple ds) := fun Z v ⟨a, vs, h1, h2, h3⟩ => by
  rw [h1]
  exact .tup h2 (h.all h3)
theorem dp_ints (ns : List Int) : DpPs K (ns.map vI) (ns.map PyData.int) := DpPs.map (fun _ => dp_int) ns
def DpR (K : PySem.W.Frag) (F : Fr) (μ : Mu) (r : Rv) (d : PyData) : Prop := ∀ Z H v, Wd F μ Z H → r.ok F Z v → Dp K H v d
theorem dr_z {R : Rp} {d : PyData} (h : DpP K R d) : DpR K F μ (.z R) d := fun Z H v w e => Dp.same w.zh d v (h Z v e)
theorem dr_b {R : Rp} {d : PyData} (h : DpP K R d) : DpR K F μ (.b R) d := fun Z H v w e => Dp.same w.hb d v (h _ v e)
theorem dr_o {l : Addr} {j : Nat} {Rs : List Rp} {ds : List PyData} (hj : μ[j]? = some (l, obL Rs)) (h : DpPs K Rs ds) : DpR K F μ (.o l) (.list ds) := fun Z H v w e => by
  obtain ⟨_, _, o, h3, vs, rfl, al⟩ := w.own _ (List.mem_of_getElem? hj)
  have e2 : v = .ref l := e
  rw [e2]
  exact .lst (SqL.of h3) (DpAll.same w.zh _ _ (h.all al))
theorem rop_eqD {x y : Rv} {d e : PyData} (hx : DpR K F μ x d) (hy : DpR K F μ y e) (sd : SeqAt.shaped d = true) (se : SeqAt.shaped e = true) (s : S (.z (vB (PyData.eqv d e)))) : Rop F μ (rEqD K) x y S := fun Z H w v v2 h1 h2 Q k =>
  ⟨d, e, hx Z H v w h1, hy Z H v2 w h2, sd, se, k _ _ Z H s w (Same.refl Z) rfl⟩
theorem rop_neD {x y : Rv} {d e : PyData} (hx : DpR K F μ x d) (hy : DpR K F μ y e) (sd : SeqAt.shaped d = true) (se : SeqAt.shaped e = true) (s : S (.z (vB (!PyData.eqv d e)))) : Rop F μ (rNeD K) x y S := fun Z H w v v2 h1 h2 Q k =>
  ⟨d, e, hx Z H v w h1, hy Z H v2 w h2, sd, se, k _ _ Z H s w (Same.refl Z) rfl⟩
def plD (p : Pl) : PyData := .tuple [.str p.w, .int p.a, .int p.b]
theorem dp_pl {p : Pl} : DpP K (plR K p) (plD p) := dp_tp ⟨dp_str, dp_int, dp_int, trivial⟩
theorem plD_shaped (p : Pl) : SeqAt.shaped (plD p) = true := by
  have h1 : ∀ x : Str, PyData.strOk x = true → SeqAt.shaped (.tuple [.str x, .int p.a, .int p.b]) = true := fun x h => by
    simp [SeqAt.shaped, PyData.canLay0, PyData.canLayAll0, PyData.depth, PyData.depthAll, h]
  refine h1 _ ?_
  cases p with
  | ground => show PyData.strOk "ground" = true; decide +kernel
  | inn t => show PyData.strOk "in" = true; decide +kernel
  | out t => show PyData.strOk "out" = true; decide +kernel
  | asleep t s => show PyData.strOk "asleep" = true; decide +kernel
theorem plD_eqv (p q : Pl) : PyData.eqv (plD p) (plD q) = decide (p = q) := by
  have h : PyData.eqv (plD p) (plD q) = (p.w == q.w && (p.a == q.a && (p.b == q.b && true))) := by
    unfold plD
    simp [PyData.eqv, PyData.eqvAll]
  rw [h]
  by_cases e : p = q
  · subst e
    simp
  · rw [decide_eq_false e]
    by_cases h1 : p.w = q.w
    · by_cases h2 : p.a = q.a
      · by_cases h3 : p.b = q.b
        · exact absurd (Pl.ext2 h1 h2 h3) e
        · simp [h3]
      · simp [h2]
    · have : (p.w == q.w) = false := by simpa using h1
      rw [this]
      rfl
theorem rop_nePl {x y : Rv} {p q : Pl} (hx : DpR K F μ x (plD p)) (hy : DpR K F μ y (plD q)) (s : S (.z (vB (!decide (p = q))))) : Rop F μ (rNeD K) x y S :=
  rop_neD hx hy (plD_shaped p) (plD_shaped q) (by rw [plD_eqv]; exact s)
theorem cx_P {P : Program} {w : World} {mg : Str → Option Value} {base : Heap} {N : List Str} {q : Str} {sc : Scope} {f : Addr} {cd : Value} {A : Around} {outer : List Env} {s : Shared} {H : Hp} {E : XK} :
    (cxOf CX0 P w K mg base N q sc f cd A outer s H E).nox.prog = P := rfl
theorem cx_P2 {P : Program} {w : World} {mg : Str → Option Value} {base : Heap} {N : List Str} {q : Str} {sc : Scope} {f : Addr} {cd : Value} {A : Around} {outer : List Env} {s : Shared} {H : Hp} {E : XK} :
    (cxOf CX0 P w K mg base N q sc f cd A outer s H E).prog = P := rfl
theorem cx_w2 {P : Program} {w : World} {mg : Str → Option Value} {base : Heap} {N : List Str} {q : Str} {sc : Scope} {f : Addr} {cd : Value} {A : Around} {outer : List Env} {s : Shared} {H : Hp} {E : XK} :
    (cxOf CX0 P w K mg base N q sc f cd A outer s H E).w = w := rfl
theorem cx_w {P : Program} {w : World} {mg : Str → Option Value} {base : Heap} {N : List Str} {q : Str} {sc : Scope} {f : Addr} {cd : Value} {A : Around} {outer : List Env} {s : Shared} {H : Hp} {E : XK} :
    (cxOf CX0 P w K mg base N q sc f cd A outer s H E).nox.w = w := rfl
end
end Eb
namespace Eb
open PySem PySem.Spec PyProof.Rows L2
section
variable {K : PySem.W.Frag} {F : Fr} {Γ : List En} {μ : Mu} {S : Rv → Prop} {D : TD}
theorem rop_isBl {a b : Bool} (s : S (.z (vB (decide (a = b))))) : Rop F μ rIsB (.z (vB a)) (.z (vB b)) S := fun Z H w v v2 h1 h2 Q k =>
  ⟨a, b, h1, h2, k _ _ Z H s w (Same.refl Z) rfl⟩
theorem tyx_t {H : Hp} {a : Addr} {xs : List V} (h : SqT K H a xs) : TyX K H (.ref a) (.type "tuple") := by
  rcases h with (h | ⟨o, h⟩) | ⟨o, its, n, h1, h2, _⟩
  · exact .base (.tup h)
  · exact .fTuple h
  · exact .kTuple h1 h2
theorem rc_isiT {x : Rv} {l : Lv} {Ps : List Rp} (h : SqTs K F μ x l Ps) (s : S (.z (vB true))) : Rcb F μ (rIsi K) [x, .z (vE (.ty "tuple"))] S := fun Z H w vs al Q k => by
  obtain ⟨v, v2, rfl, hv, hv2⟩ := alr2 al
  have e2 : v2 = .ty "tuple" := hv2
  subst e2
  obtain ⟨a, ws, rfl, q, al2⟩ := h Z H v w hv
  exact ⟨.ref a, .ty "tuple", .type "tuple", .type "tuple", true, rfl, .ty _, tyx_t q, if_pos (beq_self_eq_true _), k _ _ Z H s w (Same.refl Z) rfl⟩
theorem rc_isiL {x : Rv} {l : Lv} {Ps : List Rp} (h : SqLs F μ x l Ps) (s : S (.z (vB true))) : Rcb F μ (rIsi K) [x, .z (vE (.ty "list"))] S := fun Z H w vs al Q k => by
  obtain ⟨v, v2, rfl, hv, hv2⟩ := alr2 al
  have e2 : v2 = .ty "list" := hv2
  subst e2
  obtain ⟨a, ws, rfl, q, al2⟩ := h Z H v w hv
  exact ⟨.ref a, .ty "list", .type "list", .type "list", true, rfl, .ty _, .base (.lst q), if_pos (beq_self_eq_true _), k _ _ Z H s w (Same.refl Z) rfl⟩
theorem pss_dead {X : Cx} {ss : List Stmt} : PSs X ss (fun _ _ _ => False) := ⟨fun pins s σ H D I h => h.elim⟩
theorem ts_dead (h : False) : TSv F Γ μ (fun _ _ _ => False) D := h.elim
end
end Eb
/-! the draws' state -/
namespace Eb
open PySem PySem.Spec PyProof.Rows L2
/-- the list at a -/
def vL (a : Addr) (ns : List Int) : Rp := ⟨fun H v => v = .ref a ∧ H a = some (.lst (ns.map V.int)), fun e h => ⟨h.1, e _ _ h.2⟩⟩
def atL (l : Addr) (Ps : List Rp) : Rp := ⟨fun H v => v = .ref l ∧ ∃ vs, H l = some (.lst vs) ∧ Al H Ps vs, fun e ⟨h1, vs, h2, h3⟩ => ⟨h1, vs, e _ _ h2, h3.mono e⟩⟩
def both (P R : Rp) : Rp := ⟨fun H v => P.p H v ∧ ∃ u, R.p H u, fun e ⟨h1, u, h2⟩ => ⟨P.mono e h1, u, R.mono e h2⟩⟩
abbrev drPs (a : Addr) (ns : List Int) (i n k last : Int) : List Rp := [vL a ns, vI i, vI n, vI k, vI last]
def obDr (K : PySem.W.Frag) : Ob := ⟨fun Z o => ∃ (a : Addr) (ns : List Int) (i n k last : Int), o = .lst [.ref a, .int i, .int n, .int k, .int last] ∧ Z a = some (.lst (ns.map V.int)) ∧ 0 ≤ i ∧ 0 ≤ n,
  fun e ⟨a, ns, i, n, k, last, h1, h2, h3⟩ => ⟨a, ns, i, n, k, last, h1, e _ _ h2, h3⟩⟩
section
variable {K : PySem.W.Frag} {F : Fr} {Γ : List En} {μ : Mu} {S : Rv → Prop} {D : TD} {te : TE} {ts : TS}
theorem sl_vL {a : Addr} {ns : List Int} : SqLs F μ (.z (vL a ns)) .z (ns.map vI) := fun Z H v w ⟨h1, h2⟩ => ⟨a, _, h1, w.zh _ _ h2, Al.toInts ns⟩
theorem ts_freeE {i : Nat} {l : Addr} {Ps : List Rp} {μ' : Mu} (hi : Γ[i]? = some (.ow l)) (hj : μ.Perm ((l, obL Ps) :: μ')) (h : TSv F (Γ.set i (.rp (atL l Ps))) μ' ts D) : TSv F Γ μ ts D := fun σ Z H w e D' k => by
  obtain ⟨u, ⟨vs, rfl, al⟩, sm, w3⟩ := (w.perm hj.symm).free
  refine h σ _ H w3 ((e.mono sm).setG i fun o ho => ?_) D' (k.mono sm)
  obtain ⟨o2, h1, h2⟩ := e.get hi
  rw [ho] at h1
  cases h1
  cases h2
  exact ⟨.ref l, rfl, rfl, vs, upd_same, al.mono sm⟩
theorem ts_retB {i : Nat} {R : Rp} (hi : Γ[i]? = some (.rp R)) (h : TEv F Γ μ te (fun r => ∃ P, r = .z P ∧ D.rt (both P R))) : TSv F Γ μ (tRet te) D := fun σ Z H w e D' k => h σ Z H w e _ fun v r Z1 H1 s1 w1 z1 p1 => by
  obtain ⟨P, rfl, s⟩ := s1
  obtain ⟨o, h1, u, rfl, h2⟩ := e.get hi
  exact k.rt _ v _ _ _ s w1 z1 ⟨p1, u, R.mono z1 h2⟩
theorem sl_o0 {l : Addr} {Ps : List Rp} {μ : Mu} : SqLs F ((l, obL Ps) :: μ) (.o l) .z Ps := sl_o (j := 0) rfl
theorem sl_o1 {l : Addr} {Ps : List Rp} {q : Addr × Ob} {μ : Mu} : SqLs F (q :: (l, obL Ps) :: μ) (.o l) .z Ps := sl_o (j := 1) rfl
theorem sl_o2 {l : Addr} {Ps : List Rp} {q q2 : Addr × Ob} {μ : Mu} : SqLs F (q :: q2 :: (l, obL Ps) :: μ) (.o l) .z Ps := sl_o (j := 2) rfl
theorem cv_o0 {l : Addr} {Ps : List Rp} {μ : Mu} : Cv F ((l, obL Ps) :: μ) (.o l) (LS Ps) := cv_o (j := 0) rfl Rp.Le.rfl
theorem cv_o1 {l : Addr} {Ps : List Rp} {q : Addr × Ob} {μ : Mu} : Cv F (q :: (l, obL Ps) :: μ) (.o l) (LS Ps) := cv_o (j := 1) rfl Rp.Le.rfl
theorem cv_o2 {l : Addr} {Ps : List Rp} {q q2 : Addr × Ob} {μ : Mu} : Cv F (q :: q2 :: (l, obL Ps) :: μ) (.o l) (LS Ps) := cv_o (j := 2) rfl Rp.Le.rfl
theorem sl_atL {l : Addr} {Ps : List Rp} : SqLs F μ (.z (atL l Ps)) .z Ps := fun Z H v w ⟨h1, vs, h2, h3⟩ => ⟨l, vs, h1, w.zh _ _ h2, h3⟩
end
def spDraw : Spc := fun A S => ∃ m : Int, A [vI m] ∧ 1 ≤ m ∧ m < 1000000000 ∧ ∀ r : Int, 0 ≤ r → r < m → S (vI r)
theorem run_draw {K : PySem.W.Frag} {vs : List V} {H : Hp} {Q : VK} {E : XK} {N : List Str} {ts : TS} (hN : N.length = 3) (h : toSpD (obDr K) spDraw vs H Q E)
    (hb : ∀ (F : Fr) (l a : Addr) (ns : List Int) (i n k last m : Int), F.dv = none → 1 ≤ m → m < 1000000000 → 0 ≤ i → 0 ≤ n → TSv F [.ow l, .rp (vI m), .no] [(l, obL (drPs a ns i n k last))] ts
      { nx := fun _ _ => False, rt := fun P => ∃ r i n k last : Int, 0 ≤ r ∧ r < m ∧ 0 ≤ i ∧ 0 ≤ n ∧ P = both (vI r) (atL l (drPs a ns i n k last)) }) :
    ts { nx := fun _ H' => Q .non H', rt := Q } (L2.start N vs) H := by
  obtain ⟨ld, rest, A, S, Z, rfl, ⟨m, hA, hm1, hm2, hS⟩, al, zh, zl, Zd, zd, ⟨o, ho, a, ns, i, n, kk, last, rfl, hza, hi, hn⟩, k⟩ := h
  have al2 := al _ hA
  match rest, al2 with
  | [v], al2 =>
    have ev : v = .int m := al2.1
    subst ev
    have ha : Z a = some (.lst (ns.map V.int)) := zd _ _ hza
    have w0 : Wd ⟨hidA ld H, Z, Z, none⟩ [(ld, obL (drPs a ns i n kk last))] Z H := by
      refine ⟨fun a o e _ => hidA_same a o e, fun a e => ?_, Same.refl Z, fun _ _ => rfl, zh, fun q hq => ?_, by simp, fun d e => (nomatch e)⟩
      · show H a ≠ none
        intro z
        apply e
        show hidA ld H a = none
        unfold hidA
        rw [z]
        split <;> rfl
      · rw [List.mem_singleton.mp hq]
        exact ⟨zl, by show hidA ld H ld = none; unfold hidA; rw [if_pos rfl], _, ho, _, rfl, ⟨⟨rfl, ha⟩, rfl, rfl, rfl, rfl, trivial⟩⟩
    refine hb ⟨hidA ld H, Z, Z, none⟩ ld a ns i n kk last m rfl hm1 hm2 hi hn _ Z H w0 ?_ _ ⟨?_, ?_, ?_, ?_⟩
    · unfold L2.start
      rw [hN]
      exact ⟨rfl, ⟨_, rfl, rfl⟩, trivial, trivial⟩
    · exact fun _ _ _ _ _ q => q.elim
    · rintro P v μ Z1 H1 ⟨r, i', n', k', last', hr0, hr1, hi', hn', rfl⟩ w z ⟨hv, u, e1, us, hu, al3⟩
      have hz : Same (hidA ld Z1) Z1 := hidA_same
      have hcon : ∃ o, H1 ld = some o ∧ (obDr K).ok Zd o := by
        refine ⟨_, w.zh _ _ hu, ?_⟩
        match us, al3 with
        | [x0, x1, x2, x3, x4], al3 =>
          obtain ⟨⟨e0, _⟩, e1, e2, e3, e4, _⟩ := al3
          have e1 : x1 = _ := e1
          have e2 : x2 = _ := e2
          have e3 : x3 = _ := e3
          have e4 : x4 = _ := e4
          subst e0 e1 e2 e3 e4
          exact ⟨a, ns, i', n', k', last', rfl, hza, hi', hn'⟩
        | [], al3 => exact al3.elim
        | [_], al3 => exact al3.2.elim
        | [_, _], al3 => exact al3.2.2.elim
        | [_, _, _], al3 => exact al3.2.2.2.elim
        | [_, _, _, _], al3 => exact al3.2.2.2.2.elim
        | _ :: _ :: _ :: _ :: _ :: _ :: _, al3 => exact al3.2.2.2.2.2.elim
      refine k v (vI r) (hidA ld Z1) H1 (hS r hr0 hr1) (fun b o e => ?_) (fun b o ne e => ?_) (hz.trans w.zh) (fun b e => ?_) hcon hv
      · have ne : b ≠ ld := fun q => by rw [q, zl] at e; cases e
        rw [hidA_ne ne]
        exact z b o e
      · exact w.fr b o (by show hidA ld H b = some o; rw [hidA_ne ne]; exact e) fun d x => nomatch x
      · by_cases eb : b = ld
        · rw [eb, zl]
          unfold hidA
          rw [if_pos rfl]
        · rw [hidA_ne eb]
          exact w.zf b (by show hidA ld H b ≠ none; rw [hidA_ne eb]; exact e)
    · exact fun _ _ _ _ _ q => q.elim
    · exact fun _ _ _ _ _ q => q.elim
  | [], al2 => exact al2.elim
  | _ :: _ :: _, al2 => exact al2.2.elim
end Eb
/-! a list of one's own whose items are lists of one's own -/
namespace Eb
open PySem PySem.Spec PyProof.Rows L2
abbrev refR (l : Addr) : Rp := vE (.ref l)
def zipR (ls : List Addr) (rows : List (List Int)) : Mu := List.zipWith (fun l r => (l, obL (r.map vI))) ls rows
theorem zipR_snoc {ls : List Addr} {rows : List (List Int)} {p : Addr} {r : List Int} (h : ls.length = rows.length) : zipR (ls ++ [p]) (rows ++ [r]) = zipR ls rows ++ [(p, obL (r.map vI))] := by
  unfold zipR
  rw [List.zipWith_append h]
  rfl
theorem zipR_get {ls : List Addr} {rows : List (List Int)} {i : Nat} {l : Addr} {r : List Int} (h1 : ls[i]? = some l) (h2 : rows[i]? = some r) : (zipR ls rows)[i]? = some (l, obL (r.map vI)) := by
  unfold zipR
  rw [List.getElem?_zipWith, h1, h2]
theorem zipR_set {ls : List Addr} {rows : List (List Int)} {i : Nat} {l : Addr} {r : List Int} (h1 : ls[i]? = some l) : (zipR ls rows).set i (l, obL (r.map vI)) = zipR ls (rows.set i r) := by
  unfold zipR
  apply List.ext_getElem?
  intro j
  rw [List.getElem?_set, List.getElem?_zipWith (as := ls) (bs := rows.set i r), List.getElem?_set]
  by_cases e : i = j
  · subst e
    rw [if_pos rfl, if_pos rfl, h1]
    have lt := (List.getElem?_eq_some_iff.mp h1).1
    by_cases h2 : i < rows.length
    · rw [if_pos h2, if_pos (by rw [List.length_zipWith]; omega)]
    · rw [if_neg h2, if_neg (by rw [List.length_zipWith]; omega)]
  · rw [if_neg e, if_neg e, List.getElem?_zipWith]
section
variable {K : PySem.W.Frag} {F : Fr} {Γ : List En} {μ : Mu} {S : Rv → Prop} {D : TD} {te tl : TE} {ts : TS}
/-- what the row reads as -/
def RowP (K : PySem.W.Frag) (g : List Int → Rp) : Prop := ∀ r Z v, (g r).p Z v → ∃ a, v = .ref a ∧ (Z a = some (.lst (r.map V.int)) ∨ SqT K Z a (r.map V.int))
theorem rowP_L : RowP K IL := fun r Z v ⟨a, vs, h1, h2, h3⟩ => ⟨a, h1, .inl (by rw [← h3.ints]; exact h2)⟩
theorem rowP_T : RowP K (rowR K) := fun r Z v ⟨a, vs, h1, h2, h3⟩ => ⟨a, h1, .inr (by rw [← h3.ints]; exact h2)⟩
theorem perm_rows {a b : Addr × Ob} {xs ys : Mu} : (a :: b :: (xs ++ ys)).Perm (b :: (xs ++ [a] ++ ys)) := by
  refine (List.Perm.swap b a _).trans (List.Perm.cons b ?_)
  rw [List.append_assoc]
  exact List.perm_middle.symm
theorem rows_turn {L p : Addr} {ls : List Addr} {rows : List (List Int)} {r : List Int} {Z H : Hp} (hl : ls.length = rows.length) (w : Wd F ((L, obL (ls.map refR)) :: (zipR ls rows ++ μ)) Z H) (hp : H p = none) :
    ∃ acc, upd H p (.lst (r.map V.int)) L = some (.lst acc) ∧ acc.length = ls.length ∧ Wd F ((L, obL ((ls ++ [p]).map refR)) :: (zipR (ls ++ [p]) (rows ++ [r]) ++ μ)) Z (upd (upd H p (.lst (r.map V.int))) L (.lst (acc ++ [.ref p]))) := by
  have w1 := w.newOwn (o := .lst (r.map V.int)) (b := obL (r.map vI)) hp ⟨_, rfl, Al.toInts r⟩
  obtain ⟨_, _, o, ho, vs, rfl, al⟩ := w1.own (L, obL (ls.map refR)) (List.mem_cons_of_mem _ (List.mem_cons_self ..))
  refine ⟨vs, ho, by rw [← al.length, List.length_map], ?_⟩
  have w2 := w1.mut (j := 1) (b' := obL ((ls ++ [p]).map refR)) (o := .lst (vs ++ [.ref p])) rfl ⟨_, rfl, by rw [List.map_append]; exact al.append ⟨rfl, trivial⟩⟩
  refine w2.perm ?_
  rw [zipR_snoc hl]
  exact perm_rows.symm
theorem ts_rowsL {i v : Nat} (hv : v < Γ.length) (h : TEv F Γ μ tl (fun x => ∃ (l : Lv) (rows : List (List Int)) (g : List Int → Rp), IsL x l (rows.map g) ∧ RowP K g ∧ rows.length < 100000 ∧ ∀ (lh : Addr) (ls : List Addr), ls.length = rows.length → D.nx (Γ.set i (.ow lh)) ((lh, obL (ls.map refR)) :: (zipR ls rows ++ μ)))) :
    TSv F Γ μ (tAsg (tLc (iList K tl) (gName v) tYes (tCB (rLstOf K) (tCons (tVar v) tNil)) [v]) (gName i)) D := fun σ Z H w e D' k => h σ Z H w e _ fun vx x Z1 H1 s1 w1 z1 p1 => by
  obtain ⟨l, rows, g, hx, hg, hlen, s⟩ := s1
  obtain ⟨a, vs, rfl, q, al⟩ := hx.at p1
  have rd : ∀ {μ2 : Mu} {Z2 H2 : Hp}, Wd F μ2 Z2 H2 → Same Z1 Z2 → H2 a = some (.lst vs) := fun w2 z2 => w2.lv l a _ (Lv.mono z2 a _ q)
  refine ⟨a, rfl, ⟨vs, SqL.of (rd w1 (Same.refl Z1))⟩, fun L hL => lc_it (walk_list (K := K) (a := a) (xs := vs)) (fun n H2 => ∃ ls Z2, ls.length = n ∧ Wd F ((L, obL (ls.map refR)) :: (zipR ls (rows.take n) ++ μ)) Z2 H2 ∧ Same Z1 Z2)
    ⟨[], Z1, rfl, w1.newOwn hL ⟨[], rfl, trivial⟩, Same.refl Z1⟩ (fun n H2 _ ⟨ls, Z2, _, w2, z2⟩ => SqL.of (rd w2 z2)) ?_ ?_⟩
  · rintro n y H2 H3 hi ⟨ls, Z2, hls, w2, z2⟩ ⟨rfl, hy⟩
    obtain ⟨P, hP, px⟩ := al.get' hy
    rw [List.getElem?_map] at hP
    cases hq : rows[n]? with
    | none =>
      rw [hq] at hP
      cases hP
    | some r =>
      rw [hq] at hP
      cases hP
      refine ⟨wipe1, ?_⟩
      unfold tYes
      refine iteT ?_
      have hln : v < σ.length := by
        have : ∀ {Γ : List En} {σ : L2.St}, EnvOk F Z Γ σ → Γ.length = σ.length := fun {Γ} => by
          induction Γ with
          | nil => intro σ h; cases σ with | nil => rfl | cons _ _ => exact h.elim
          | cons a r ih => intro σ h; cases σ with | nil => exact h.elim | cons _ _ => rw [List.length_cons, List.length_cons, ih h.2]
        rw [← this e]
        exact hv
      have hget : ((wipe σ [v]).set v (some y))[v]? = some (some y) := by
        rw [wipe1s, List.getElem?_set, if_pos rfl, if_pos hln]
      refine ⟨y, hget, ?_⟩
      obtain ⟨b, rfl, hb⟩ := hg r _ y (Rp.mono _ (Lv.mono z2) px)
      have hb2 : SqL K H3 b (r.map V.int) ∨ SqT K H3 b (r.map V.int) := hb.imp (fun z => SqL.of (w2.lv l _ _ z)) (fun z => same_t (w2.lv l) z)
      refine ⟨b, _, rfl, hb2, fun p hp => ?_⟩
      have hrl : (rows.take n).length = ls.length := by
        rw [List.length_take, hls]
        have := (List.getElem?_eq_some_iff.mp hq).1
        omega
      obtain ⟨acc, h1, h2, w3⟩ := rows_turn hrl.symm w2 hp (r := r)
      refine ⟨acc, h1, by rw [h2, hls]; have := (List.getElem?_eq_some_iff.mp hq).1; exact sz_lt (by omega), ls ++ [p], Z2, by rw [List.length_append, hls]; rfl, ?_, z2⟩
      have et : rows.take (n + 1) = rows.take n ++ [r] := by rw [List.take_add_one, hq]; rfl
      rw [et]
      exact w3
  · rintro H2 ⟨ls, Z2, hls, w2, z2⟩
    have hn : vs.length = rows.length := by rw [← al.length, List.length_map]
    rw [hn] at hls w2
    rw [List.take_length] at w2
    exact k.nx _ _ _ _ _ (s L ls hls) w2 (EnvOk.set (n := .ow L) (o := some (.ref L)) rfl i (e.mono (z1.trans z2))) (z1.trans z2)
theorem ts_rowsT {i v : Nat} (hv : v < Γ.length) (h : TEv F Γ μ tl (fun x => ∃ (l : Lv) (rows : List (List Int)) (g : List Int → Rp), IsT K x l (rows.map g) ∧ RowP K g ∧ rows.length < 100000 ∧ ∀ (lh : Addr) (ls : List Addr), ls.length = rows.length → D.nx (Γ.set i (.ow lh)) ((lh, obL (ls.map refR)) :: (zipR ls rows ++ μ)))) :
    TSv F Γ μ (tAsg (tLc (iTup K tl) (gName v) tYes (tCB (rLstOf K) (tCons (tVar v) tNil)) [v]) (gName i)) D := fun σ Z H w e D' k => h σ Z H w e _ fun vx x Z1 H1 s1 w1 z1 p1 => by
  obtain ⟨l, rows, g, hx, hg, hlen, s⟩ := s1
  obtain ⟨a, vs, rfl, q, al⟩ := hx.at p1
  have rd : ∀ {μ2 : Mu} {Z2 H2 : Hp}, Wd F μ2 Z2 H2 → Same Z1 Z2 → SqT K H2 a vs := fun w2 z2 => same_t (w2.lv l) (same_t (Lv.mono z2) q)
  refine ⟨a, rfl, ⟨vs, rd w1 (Same.refl Z1)⟩, fun L hL => lc_it (walk_tup (K := K) (a := a) (xs := vs)) (fun n H2 => ∃ ls Z2, ls.length = n ∧ Wd F ((L, obL (ls.map refR)) :: (zipR ls (rows.take n) ++ μ)) Z2 H2 ∧ Same Z1 Z2)
    ⟨[], Z1, rfl, w1.newOwn hL ⟨[], rfl, trivial⟩, Same.refl Z1⟩ (fun n H2 _ ⟨ls, Z2, _, w2, z2⟩ => rd w2 z2) ?_ ?_⟩
  · rintro n y H2 H3 hi ⟨ls, Z2, hls, w2, z2⟩ ⟨rfl, hy⟩
    obtain ⟨P, hP, px⟩ := al.get' hy
    rw [List.getElem?_map] at hP
    cases hq : rows[n]? with
    | none =>
      rw [hq] at hP
      cases hP
    | some r =>
      rw [hq] at hP
      cases hP
      refine ⟨wipe1, ?_⟩
      unfold tYes
      refine iteT ?_
      have hln : v < σ.length := by
        have : ∀ {Γ : List En} {σ : L2.St}, EnvOk F Z Γ σ → Γ.length = σ.length := fun {Γ} => by
          induction Γ with
          | nil => intro σ h; cases σ with | nil => rfl | cons _ _ => exact h.elim
          | cons a r ih => intro σ h; cases σ with | nil => exact h.elim | cons _ _ => rw [List.length_cons, List.length_cons, ih h.2]
        rw [← this e]
        exact hv
      have hget : ((wipe σ [v]).set v (some y))[v]? = some (some y) := by
        rw [wipe1s, List.getElem?_set, if_pos rfl, if_pos hln]
      refine ⟨y, hget, ?_⟩
      obtain ⟨b, rfl, hb⟩ := hg r _ y (Rp.mono _ (Lv.mono z2) px)
      have hb2 : SqL K H3 b (r.map V.int) ∨ SqT K H3 b (r.map V.int) := hb.imp (fun z => SqL.of (w2.lv l _ _ z)) (fun z => same_t (w2.lv l) z)
      refine ⟨b, _, rfl, hb2, fun p hp => ?_⟩
      have hrl : (rows.take n).length = ls.length := by
        rw [List.length_take, hls]
        have := (List.getElem?_eq_some_iff.mp hq).1
        omega
      obtain ⟨acc, h1, h2, w3⟩ := rows_turn hrl.symm w2 hp (r := r)
      refine ⟨acc, h1, by rw [h2, hls]; have := (List.getElem?_eq_some_iff.mp hq).1; exact sz_lt (by omega), ls ++ [p], Z2, by rw [List.length_append, hls]; rfl, ?_, z2⟩
      have et : rows.take (n + 1) = rows.take n ++ [r] := by rw [List.take_add_one, hq]; rfl
      rw [et]
      exact w3
  · rintro H2 ⟨ls, Z2, hls, w2, z2⟩
    have hn : vs.length = rows.length := by rw [← al.length, List.length_map]
    rw [hn] at hls w2
    rw [List.take_length] at w2
    exact k.nx _ _ _ _ _ (s L ls hls) w2 (EnvOk.set (n := .ow L) (o := some (.ref L)) rfl i (e.mono (z1.trans z2))) (z1.trans z2)
theorem sl_ref {j : Nat} {l : Addr} {Ps : List Rp} (hj : μ[j]? = some (l, obL Ps)) : SqLs F μ (.z (refR l)) .z Ps := fun Z H v w e => by
  obtain ⟨_, _, o, h3, vs, rfl, h4⟩ := w.own _ (List.mem_of_getElem? hj)
  exact ⟨l, vs, e, h3, h4⟩
/-- e[i] = x, e one of one's own -/
theorem ts_itemR {to ti : TE} (h : TEv F Γ μ te (fun r => ∃ P, Hld [r] [P] ∧ TEv F Γ μ to (fun x => ∃ l j Ps, x = .z (refR l) ∧ μ[j]? = some (l, obL Ps) ∧ TEv F Γ μ ti (fun q => ∃ (n : Int) (jj : Nat), q = .z (vI n) ∧ ixN Ps.length n = some jj ∧ D.nx Γ (μ.set j (l, obL (Ps.set jj P))))))) :
    TSv F Γ μ (tAsg te (gSub to ti rSetL)) D := fun σ Z H w e D' k => h σ Z H w e _ fun v r Z1 H1 s1 w1 z1 p1 => by
  obtain ⟨P, hh, s1⟩ := s1
  refine s1 σ Z1 H1 w1 (e.mono z1) _ fun vx x Z3 H3 s3 w3 z3 p3 => ?_
  obtain ⟨l, j, Ps, rfl, hj, s3⟩ := s3
  have e0 : vx = .ref l := p3
  subst e0
  refine s3 σ Z3 H3 w3 (e.mono (z1.trans z3)) _ fun v2 r2 Z2 H2 s2 w2 z2 p2 => ?_
  obtain ⟨n, jj, rfl, hx, s⟩ := s2
  have e2 : v2 = .int n := p2
  subst e2
  obtain ⟨_, _, o3, h3, vs, rfl, al⟩ := w2.own _ (List.mem_of_getElem? hj)
  have hp : P.p Z2 v := P.mono (z3.trans z2) (hh.al (vs := [v]) ⟨p1, trivial⟩).1
  refine ⟨l, vs, n, jj, rfl, rfl, h3, by rw [← al.length]; exact hx, ?_⟩
  exact k.nx _ _ _ _ _ s (w2.mut hj ⟨_, rfl, al.set hp jj⟩) (e.mono ((z1.trans z3).trans z2)) ((z1.trans z3).trans z2)
/-- e.append(x), e one of one's own -/
theorem ts_appR {to : TE} (h : TEv F Γ μ to (fun x => ∃ l j Ps, x = .z (refR l) ∧ μ[j]? = some (l, obL Ps) ∧ Ps.length < 100000 ∧ TEv F Γ μ te (fun r => ∃ P, Hld [r] [P] ∧ D.nx Γ (μ.set j (l, obL (Ps ++ [P])))))) :
    TSv F Γ μ (tDrop (tBM K "list" rAppend to (tCons te tNil))) D := fun σ Z H w e D' k => h σ Z H w e _ fun vx x Z3 H3 s3 w3 z3 p3 => by
  obtain ⟨l, j, Ps, rfl, hj, hl, s3⟩ := s3
  have e0 : vx = .ref l := p3
  subst e0
  obtain ⟨_, _, o3, h3, vs0, rfl, al0⟩ := w3.own _ (List.mem_of_getElem? hj)
  refine .inl ⟨rfl, _, SqL.of h3⟩ |> fun hh => ⟨hh, s3 σ Z3 H3 w3 (e.mono z3) _ fun v r Z1 H1 s1 w1 z1 p1 => ?_⟩
  obtain ⟨P, hh, s⟩ := s1
  obtain ⟨_, _, o3, h3, vs, rfl, al⟩ := w1.own _ (List.mem_of_getElem? hj)
  refine ⟨l, vs, v, rfl, rfl, h3, by rw [← al.length]; exact sz_lt hl, ?_⟩
  exact k.nx _ _ _ _ _ s (w1.mut hj ⟨_, rfl, al.append (hh.al (vs := [v]) ⟨p1, trivial⟩)⟩) (e.mono (z3.trans z1)) (z3.trans z1)
/-- all rows are anybody's -/
theorem wd_freeZ : ∀ (ls : List Addr) (rows : List (List Int)) {Z H : Hp}, ls.length = rows.length → Wd F (zipR ls rows ++ μ) Z H → ∃ Z', Same Z Z' ∧ Wd F μ Z' H ∧ Al Z' (rows.map IL) (ls.map V.ref)
  | [], [], Z, H, _, w => ⟨Z, Same.refl Z, w, trivial⟩
  | l :: ls, r :: rows, Z, H, hl, w => by
    obtain ⟨u, ⟨vs, rfl, al⟩, sm, w2⟩ := Wd.free (l := l) (b := obL (r.map vI)) (μ := zipR ls rows ++ μ) w
    obtain ⟨Z', z2, w3, al2⟩ := wd_freeZ ls rows (by simpa using hl) w2
    exact ⟨Z', sm.trans z2, w3, ⟨l, vs, rfl, z2 _ _ upd_same, (al.mono sm).mono z2⟩, al2⟩
  | [], _ :: _, _, _, hl, _ => by simp at hl
  | _ :: _, [], _, _, hl, _ => by simp at hl
theorem ts_freeRows {i : Nat} {lh : Addr} {ls : List Addr} {rows : List (List Int)} (hl : ls.length = rows.length) (hi : Γ[i]? = some (.ow lh)) (h : TSv F (Γ.set i (.rp (ILL rows))) μ ts D) : TSv F Γ ((lh, obL (ls.map refR)) :: (zipR ls rows ++ μ)) ts D := fun σ Z H w e D' k => by
  obtain ⟨u, ⟨vs, rfl, al⟩, sm, w3⟩ := w.free
  obtain ⟨Z', z2, w4, al2⟩ := wd_freeZ ls rows hl w3
  refine h σ Z' H w4 ((e.mono (sm.trans z2)).setG i fun o ho => ?_) D' (k.mono (sm.trans z2))
  obtain ⟨o2, h1, h2⟩ := e.get hi
  rw [ho] at h1
  cases h1
  cases h2
  have ev : vs = ls.map V.ref := Al.ofE (H := Z) (by rw [List.map_map]; exact al)
  exact ⟨.ref lh, rfl, lh, vs, rfl, z2 _ _ upd_same, by rw [ev]; exact al2⟩
/-- what one's own rows may be looked at as -/
theorem al_rows {Z H : Hp} (w : Vw F μ Z H) : ∀ (ls : List Addr) (rows : List (List Int)), ls.length = rows.length → (∀ q, q ∈ zipR ls rows → q ∈ μ) → Al H (rows.map fun r => SQ K (r.map vI)) (ls.map V.ref)
  | [], [], _, _ => trivial
  | l :: ls, r :: rows, hl, hm => by
    obtain ⟨o, h3, vs, rfl, al⟩ := w.o _ (hm (l, obL (r.map vI)) (List.mem_cons_self ..))
    exact ⟨⟨l, vs, rfl, .inl h3, al.mono w.z⟩, al_rows w ls rows (by simpa using hl) fun q hq => hm q (List.mem_cons_of_mem _ hq)⟩
  | [], _ :: _, hl, _ => by simp at hl
  | _ :: _, [], hl, _ => by simp at hl
theorem cv_rows {lh : Addr} {ls : List Addr} {rows : List (List Int)} (hl : ls.length = rows.length) (h0 : (lh, obL (ls.map refR)) ∈ μ) (hm : ∀ q, q ∈ zipR ls rows → q ∈ μ) : Cv F μ (.o lh) (SQ K (rows.map fun r => SQ K (r.map vI))) := fun Z H v w hv => by
  obtain ⟨o, h3, vs, rfl, al⟩ := w.o _ h0
  have ev : vs = ls.map V.ref := Al.ofE (H := Z) (by rw [List.map_map]; exact al)
  exact ⟨lh, vs, hv, .inl h3, by rw [ev]; exact al_rows w ls rows hl hm⟩
end
end Eb
namespace Eb
open PySem PySem.Spec PyProof.Rows L2
/-! ### how a plan uses the net -/
def cntW (kv : KV1) (e : Pl × Pl) : KV1 := if e.1 = e.2 then kv else putN kv (wyK e.1 e.2) ((atN kv (wyK e.1 e.2)).getD 0 + 1)
/-- the place in which a machine stands, the ways that it has gone -/
def evStep (T : Tar) (br row : List Int) (k : Nat) (x : Pl × List (Pl × Pl)) : Pl × List (Pl × Pl) :=
  let x1 := if bef T br row k = (T.rates.length : Int) then (Pl.ground, x.2 ++ [(x.1, Pl.ground)]) else x
  let x2 := if gi row k = 0 then (Pl.inn k, x1.2 ++ [(x1.1, Pl.inn k)]) else x1
  (plAfter T k (gi row k), x2.2 ++ [(x2.1, plAfter T k (gi row k))])
def evUp (T : Tar) (br row : List Int) : Nat → Pl × List (Pl × Pl)
  | 0 => (.ground, [])
  | k + 1 => evStep T br row k (evUp T br row k)
def evRow (T : Tar) (br row : List Int) : List (Pl × Pl) := (evUp T br row row.length).2 ++ [((evUp T br row row.length).1, .ground)]
def evPlan (T : Tar) (br : List Int) (pl : List (List Int)) : List (Pl × Pl) := pl.flatMap (evRow T br)
def usedKv (T : Tar) (br : List Int) (pl : List (List Int)) : KV1 := (evPlan T br pl).foldl cntW []
theorem cntW_length (kv : KV1) (e : Pl × Pl) : (cntW kv e).length ≤ kv.length + 1 := by
  unfold cntW
  split
  · omega
  · unfold putN
    split <;> simp
theorem fold_length : ∀ (es : List (Pl × Pl)) (kv : KV1), (es.foldl cntW kv).length ≤ kv.length + es.length
  | [], kv => by simp
  | e :: r, kv => by
    rw [List.foldl_cons, List.length_cons]
    have h1 := cntW_length kv e
    have h2 := fold_length r (cntW kv e)
    omega
theorem evUp_length (T : Tar) (br row : List Int) : ∀ k, (evUp T br row k).2.length ≤ 3 * k
  | 0 => by simp [evUp]
  | k + 1 => by
    have ih := evUp_length T br row k
    unfold evUp evStep
    dsimp only
    split <;> split <;> simp <;> omega
theorem evRow_length (T : Tar) (br row : List Int) : (evRow T br row).length ≤ 3 * row.length + 1 := by
  have := evUp_length T br row row.length
  unfold evRow
  simp
  omega
theorem flatL_le {α β : Type} (f : α → List β) (c : Nat) : ∀ xs : List α, (∀ x, x ∈ xs → (f x).length ≤ c) → (xs.flatMap f).length ≤ c * xs.length
  | [], _ => by simp
  | x :: r, h => by
    have h1 := h x (List.mem_cons_self ..)
    have h2 := flatL_le f c r fun y hy => h y (List.mem_cons_of_mem _ hy)
    rw [List.flatMap_cons, List.length_append, List.length_cons, Nat.mul_add]
    omega
theorem evPlan_length (T : Tar) (br : List Int) (pl : List (List Int)) (h : pl.length ≤ 100) (hr : ∀ row, row ∈ pl → row.length ≤ 100) : (evPlan T br pl).length ≤ 30100 := by
  have h1 := flatL_le (evRow T br) 301 pl fun row hm => by
    have := evRow_length T br row
    have := hr row hm
    omega
  unfold evPlan
  omega
/-! the count of a way -/
theorem atN_put (kv : KV1) (k k' : NestedKey) (i : Int) : atN (putN kv k i) k' = if k' = k then some i else atN kv k' := by
  have hmap : ∀ l : KV1, atN (l.map fun x => if x.1 = k then (x.1, i) else x) k' = if k' = k then (if (atN l k).isSome then some i else none) else atN l k' := fun l => by
    induction l with
    | nil => simp [atN]
    | cons x r ih =>
      unfold atN at ih ⊢
      rw [List.map_cons, List.find?_cons, List.find?_cons, List.find?_cons]
      by_cases h1 : x.1 = k
      · rw [if_pos h1]
        by_cases h2 : k' = k
        · subst h2
          simp [h1]
        · have h3 : ¬ x.1 = k' := fun z => h2 (z.symm.trans h1)
          have h4 : ¬ k = k' := fun z => h2 z.symm
          rw [if_neg h2] at ih
          simp only [h3, h1, h4, decide_false, decide_true, if_neg h2]
          exact ih
      · rw [if_neg h1]
        by_cases h2 : x.1 = k'
        · have h3 : ¬ k' = k := fun z => h1 (h2.trans z)
          simp [h2, h3]
        · simp only [h2, h1, decide_false]
          rw [ih]
  unfold putN
  split
  · rename_i h
    rw [hmap, h]
    simp
  · rename_i h
    have hn : atN kv k = none := by
      cases q : atN kv k with
      | none => rfl
      | some j => rw [q] at h; exact absurd rfl h
    unfold atN at hn ⊢
    rw [List.find?_append]
    by_cases h2 : k' = k
    · subst h2
      have : kv.find? (fun x => decide (x.1 = k')) = none := by simpa using hn
      rw [this, if_pos rfl]
      simp
    · have h3 : ¬ k = k' := fun z => h2 z.symm
      rw [if_neg h2]
      simp [h3]
def cntE (es : List (Pl × Pl)) (p q : Pl) : Nat := (es.filter fun e => decide (e = (p, q))).length
theorem count_fold (p q : Pl) (hpq : p ≠ q) : ∀ (es : List (Pl × Pl)) (kv : KV1), (atN (es.foldl cntW kv) (wyK p q)).getD 0 = (atN kv (wyK p q)).getD 0 + (cntE es p q : Nat)
  | [], kv => by simp [cntE]
  | e :: r, kv => by
    rw [List.foldl_cons, count_fold p q hpq r (cntW kv e)]
    unfold cntE
    rw [List.filter_cons]
    by_cases h : e = (p, q)
    · subst h
      rw [decide_eq_true rfl, if_pos rfl, List.length_cons]
      unfold cntW
      rw [if_neg hpq, atN_put, if_pos rfl]
      simp only [Option.getD_some]
      omega
    · rw [decide_eq_false h, if_neg Bool.false_ne_true]
      have : atN (cntW kv e) (wyK p q) = atN kv (wyK p q) := by
        unfold cntW
        split
        · rfl
        · rw [atN_put, if_neg]
          intro z
          obtain ⟨h1, h2⟩ := wyK_inj z
          exact h (by rw [h1, h2])
      rw [this]
theorem usedKv_count (T : Tar) (br : List Int) (pl : List (List Int)) (p q : Pl) (hpq : p ≠ q) : (atN (usedKv T br pl) (wyK p q)).getD 0 = (cntE (evPlan T br pl) p q : Nat) := by
  unfold usedKv
  rw [count_fold p q hpq]
  simp [atN]
/-! the ways, and those back -/
def leastOf (ns : List Int) : Pl → Int
  | .inn t => gi ns t
  | _ => 0
def backW (ns : List Int) (kv : KV1) (x : Way) : List Way := if leastOf ns x.s < (atN kv (wyK x.s x.e)).getD 0 then [x, ⟨x.e, x.s, -x.c⟩] else [x]
def leftWays (T : Tar) (ps ns br : List Int) (pl : List (List Int)) : List Way := (allWays T ps br).flatMap (backW ns (usedKv T br pl))
theorem backW_le (ns : List Int) (kv : KV1) (x : Way) : (backW ns kv x).length ≤ 2 := by
  unfold backW
  split <;> simp
/-- where the ways begin -/
def Pl.inR (n : Int) : Pl → Prop
  | .inn t => 0 ≤ t ∧ t < n
  | _ => True
end Eb
namespace Eb
open PySem PySem.Spec PyProof.Rows L2
/-! ### least costs by relaxing -/
abbrev gv (kv : KV1) (p : Pl) : Option Int := atN kv (plK p)
def Rlx (kv : KV1) (x : Way) : Prop := ∀ a, gv kv x.s = some a → ∃ b, gv kv x.e = some b ∧ b ≤ a + x.c
structure Feas (L : List Way) (π : Pl → Int) (C : Int) : Prop where
  g0 : π .ground = 0
  le : ∀ x, x ∈ L → π x.e ≤ π x.s + x.c
  c0 : 0 ≤ C
  cC : ∀ x, x ∈ L → x.c ≤ C
structure Dist (L : List Way) (C : Int) (kv : KV1) : Prop where
  g0 : gv kv .ground = some 0
  rl : ∀ x, x ∈ L → Rlx kv x
  hi : ∀ p a, gv kv p = some a → a ≤ ((L.length : Int) + 1) * C
def U (L : List Way) : List Pl := .ground :: L.map fun x => x.e
def here (L : List Way) (kv : KV1) : Nat := ((U L).filter fun p => (gv kv p).isSome).length
def ms1 (L : List Way) (π : Pl → Int) (C : Int) (kv : KV1) (p : Pl) : Nat := match gv kv p with
  | some a => (a - π p).toNat
  | none => (((L.length : Int) + 1) * C - π p).toNat + 1
def ms (L : List Way) (π : Pl → Int) (C : Int) (kv : KV1) : Nat := ((U L).map (ms1 L π C kv)).sum
structure DInv (L : List Way) (π : Pl → Int) (C : Int) (kv : KV1) : Prop where
  g0 : gv kv .ground = some 0
  lo : ∀ p a, gv kv p = some a → π p ≤ a
  hi : ∀ p a, gv kv p = some a → a ≤ (here L kv : Int) * C
  len : kv.length ≤ here L kv
theorem filt_mono {α : Type} {p q : α → Bool} (h : ∀ x, p x = true → q x = true) : ∀ xs : List α, (xs.filter p).length ≤ (xs.filter q).length
  | [] => Nat.le_refl _
  | x :: r => by
    have ih := filt_mono h r
    rw [List.filter_cons, List.filter_cons]
    by_cases hp : p x = true
    · rw [if_pos hp, if_pos (h x hp)]
      simpa using ih
    · rw [if_neg hp]
      split
      · rw [List.length_cons]
        omega
      · exact ih
theorem filt_lt {α : Type} {p q : α → Bool} (h : ∀ x, p x = true → q x = true) {y : α} (hp : ¬ p y = true) (hq : q y = true) : ∀ xs : List α, y ∈ xs → (xs.filter p).length < (xs.filter q).length
  | [], hy => nomatch hy
  | x :: r, hy => by
    rw [List.filter_cons, List.filter_cons]
    rcases List.mem_cons.mp hy with rfl | hy
    · have := filt_mono h r
      rw [if_neg hp, if_pos hq, List.length_cons]
      omega
    · have ih := filt_lt h hp hq r hy
      by_cases hpx : p x = true
      · rw [if_pos hpx, if_pos (h x hpx)]
        simpa using ih
      · rw [if_neg hpx]
        split
        · rw [List.length_cons]
          omega
        · exact ih
theorem here_le (L : List Way) (kv : KV1) : here L kv ≤ L.length + 1 := by
  have h : here L kv ≤ (U L).length := List.length_filter_le ..
  unfold U at h
  rw [List.length_cons, List.length_map] at h
  exact h
theorem sum_le {α : Type} {f g : α → Nat} (h : ∀ x, f x ≤ g x) : ∀ xs : List α, (xs.map f).sum ≤ (xs.map g).sum
  | [] => Nat.le_refl _
  | x :: r => by
    have := sum_le h r
    have := h x
    simp only [List.map_cons, List.sum_cons]
    omega
theorem sum_lt {α : Type} {f g : α → Nat} (h : ∀ x, f x ≤ g x) {y : α} (hy : f y < g y) : ∀ xs : List α, y ∈ xs → (xs.map f).sum < (xs.map g).sum
  | [], hm => nomatch hm
  | x :: r, hm => by
    simp only [List.map_cons, List.sum_cons]
    have hx := h x
    rcases List.mem_cons.mp hm with rfl | hm
    · have := sum_le h r
      omega
    · have := sum_lt h hy r hm
      omega
theorem gv_put (kv : KV1) (p q : Pl) (i : Int) : gv (putN kv (plK q) i) p = if p = q then some i else gv kv p := by
  unfold gv
  rw [atN_put]
  by_cases h : p = q
  · subst h
    rw [if_pos rfl, if_pos rfl]
  · rw [if_neg (fun z => h (plK_inj z)), if_neg h]
theorem mem_U {L : List Way} {x : Way} (h : x ∈ L) : x.e ∈ U L := List.mem_cons_of_mem _ (List.mem_map.mpr ⟨x, h, rfl⟩)
theorem dinv_put {L : List Way} {π : Pl → Int} {C : Int} {kv : KV1} (f : Feas L π C) (d : DInv L π C kv) {x : Way} (hx : x ∈ L) {a : Int} (ha : gv kv x.s = some a) (hc : ∀ b, gv kv x.e = some b → a + x.c < b) :
    DInv L π C (putN kv (plK x.e) (a + x.c)) ∧ ms L π C (putN kv (plK x.e) (a + x.c)) < ms L π C kv := by
  have hlo : π x.e ≤ a + x.c := by
    have := d.lo _ _ ha
    have := f.le x hx
    omega
  have hne : Pl.ground ≠ x.e := fun z => by
    have h1 := hc 0 (by rw [← z]; exact d.g0)
    rw [← z, f.g0] at hlo
    omega
  have hmono : ∀ p, (gv kv p).isSome = true → (gv (putN kv (plK x.e) (a + x.c)) p).isSome = true := fun p h => by
    rw [gv_put]
    split
    · rfl
    · exact h
  have hhere : here L kv ≤ here L (putN kv (plK x.e) (a + x.c)) := filt_mono hmono _
  have hnew : gv kv x.e = none → here L kv + 1 ≤ here L (putN kv (plK x.e) (a + x.c)) := fun h => by
    have := filt_lt hmono (y := x.e) (by rw [h]; simp) (by rw [gv_put, if_pos rfl]; rfl) (U L) (mem_U hx)
    exact this
  have hha := d.hi _ _ ha
  have hCx := f.cC x hx
  have hle := here_le L (putN kv (plK x.e) (a + x.c))
  have hval : a + x.c ≤ (here L (putN kv (plK x.e) (a + x.c)) : Int) * C := by
    cases q : gv kv x.e with
    | none =>
      have h1 := hnew q
      have h2 : ((here L kv : Int) + 1) * C ≤ (here L (putN kv (plK x.e) (a + x.c)) : Int) * C := Int.mul_le_mul_of_nonneg_right (by omega) f.c0
      rw [Int.add_mul, Int.one_mul] at h2
      omega
    | some b =>
      have h1 := hc b q
      have h2 := d.hi _ _ q
      have h3 : (here L kv : Int) * C ≤ (here L (putN kv (plK x.e) (a + x.c)) : Int) * C := Int.mul_le_mul_of_nonneg_right (by omega) f.c0
      omega
  have htop : a + x.c ≤ ((L.length : Int) + 1) * C := by
    have h3 : (here L (putN kv (plK x.e) (a + x.c)) : Int) * C ≤ ((L.length : Int) + 1) * C := Int.mul_le_mul_of_nonneg_right (by omega) f.c0
    omega
  refine ⟨⟨?_, fun p b hb => ?_, fun p b hb => ?_, ?_⟩, ?_⟩
  · rw [gv_put, if_neg hne]
    exact d.g0
  · rw [gv_put] at hb
    split at hb
    · rename_i e
      cases hb
      rw [e]
      exact hlo
    · exact d.lo p b hb
  · rw [gv_put] at hb
    split at hb
    · cases hb
      exact hval
    · have h2 := d.hi _ _ hb
      have h3 : (here L kv : Int) * C ≤ (here L (putN kv (plK x.e) (a + x.c)) : Int) * C := Int.mul_le_mul_of_nonneg_right (by omega) f.c0
      omega
  · have h1 := d.len
    cases q : gv kv x.e with
    | none =>
      have h2 := hnew q
      have h3 : (putN kv (plK x.e) (a + x.c)).length ≤ kv.length + 1 := by
        unfold putN
        split <;> simp
      omega
    | some b =>
      have h3 : (putN kv (plK x.e) (a + x.c)).length = kv.length := by
        unfold putN
        rw [show atN kv (plK x.e) = some b from q]
        simp
      omega
  · refine sum_lt (fun p => ?_) (y := x.e) ?_ _ (mem_U hx)
    · unfold ms1
      rw [gv_put]
      by_cases h : p = x.e
      · rw [if_pos h, h]
        cases q : gv kv x.e with
        | none =>
          show (a + x.c - π x.e).toNat ≤ _
          dsimp only
          omega
        | some b =>
          have := hc b q
          dsimp only
          omega
      · rw [if_neg h]
        exact Nat.le_refl _
    · unfold ms1
      rw [gv_put, if_pos rfl]
      cases q : gv kv x.e with
      | none =>
        dsimp only
        omega
      | some b =>
        have := hc b q
        dsimp only
        omega
theorem dinv_0 {L : List Way} {π : Pl → Int} {C : Int} (f : Feas L π C) : DInv L π C [(plK .ground, 0)] := by
  have hg : ∀ p a, gv [(plK .ground, 0)] p = some a → p = .ground ∧ a = 0 := fun p a h => by
    unfold gv atN at h
    rw [List.find?_cons] at h
    by_cases e : plK .ground = plK p
    · simp only [e, decide_true, Option.map_some, Option.some.injEq] at h
      exact ⟨(plK_inj e).symm, h.symm⟩
    · simp [e] at h
  have h0 : gv [(plK .ground, 0)] .ground = some 0 := by simp [gv, atN]
  have h1 : 1 ≤ here L [(plK .ground, 0)] := by
    unfold here U
    rw [List.filter_cons, h0]
    simp
  refine ⟨h0, fun p a h => ?_, fun p a h => ?_, h1⟩
  · obtain ⟨rfl, rfl⟩ := hg p a h
    rw [f.g0]
    exact Int.le_refl _
  · obtain ⟨rfl, rfl⟩ := hg p a h
    exact Int.mul_nonneg (by omega) f.c0
theorem DInv.dist {L : List Way} {π : Pl → Int} {C : Int} {kv : KV1} (f : Feas L π C) (d : DInv L π C kv) (h : ∀ x, x ∈ L → Rlx kv x) : Dist L C kv :=
  ⟨d.g0, h, fun p a hp => by
    have h1 := d.hi p a hp
    have h2 := here_le L kv
    have h3 : (here L kv : Int) * C ≤ ((L.length : Int) + 1) * C := Int.mul_le_mul_of_nonneg_right (by omega) f.c0
    omega⟩
end Eb
namespace Eb
open PySem PySem.Spec PyProof.Rows L2
/-! ### the paper that is made -/
def gainAt (T : Tar) (ps : List Int) (kv : KV1) (k : Nat) : Int := T.rate 0 * gi ps k + (gv kv (.inn k)).getD 0 - (gv kv (.out k)).getD 0
def gainsOf (T : Tar) (ps : List Int) (kv : KV1) : List Int := (List.range ps.length).map (gainAt T ps kv)
def leastAt (T : Tar) (ps br gs : List Int) (hs : List (List Int)) (k s : Int) : Int := minL (cands T (hBefore T br hs k) (netC T ps gs k s) s)
def rowPart (T : Tar) (ps br gs : List Int) (hs : List (List Int)) (k : Int) (ss : List Int) : List Int := (List.range (T.rates.length + 1)).map fun (s : Nat) => if (s : Int) ∈ ss then leastAt T ps br gs hs k s else 0
def rowOf (T : Tar) (ps br gs : List Int) (hs : List (List Int)) (k : Int) : List Int := rowPart T ps br gs hs k (statesIn T br k)
def headsUp (T : Tar) (ps br gs : List Int) : Nat → List (List Int)
  | 0 => []
  | k + 1 => headsUp T ps br gs k ++ [rowOf T ps br gs (headsUp T ps br gs k) k]
theorem headsUp_length (T : Tar) (ps br gs : List Int) : ∀ k, (headsUp T ps br gs k).length = k
  | 0 => rfl
  | k + 1 => by
    have := headsUp_length T ps br gs k
    unfold headsUp
    rw [List.length_append, this]
    rfl
theorem rowPart_length (T : Tar) (ps br gs : List Int) (hs : List (List Int)) (k : Int) (ss : List Int) : (rowPart T ps br gs hs k ss).length = T.rates.length + 1 := by
  unfold rowPart
  rw [List.length_map, List.length_range]
theorem headsUp_row (T : Tar) (ps br gs : List Int) : ∀ k r, r ∈ headsUp T ps br gs k → r.length = T.rates.length + 1
  | 0, r, h => nomatch h
  | k + 1, r, h => by
    unfold headsUp at h
    rcases List.mem_append.mp h with h | h
    · exact headsUp_row T ps br gs k r h
    · rw [List.mem_singleton.mp h]
      exact rowPart_length ..
theorem rowPart_nil (T : Tar) (ps br gs : List Int) (hs : List (List Int)) (k : Int) : rowPart T ps br gs hs k [] = List.replicate (T.rates.length + 1) 0 := by
  unfold rowPart
  apply List.ext_getElem?
  intro i
  rw [List.getElem?_map, List.getElem?_replicate]
  by_cases h : i < T.rates.length + 1
  · rw [List.getElem?_range h, if_pos h]
    simp
  · rw [List.getElem?_eq_none (by rw [List.length_range]; omega), if_neg h]
    rfl
theorem rowPart_set (T : Tar) (ps br gs : List Int) (hs : List (List Int)) (k : Int) (ss : List Int) (s : Nat) : (rowPart T ps br gs hs k ss).set s (leastAt T ps br gs hs k s) = rowPart T ps br gs hs k (ss ++ [(s : Int)]) := by
  apply List.ext_getElem?
  intro i
  rw [List.getElem?_set, rowPart_length]
  unfold rowPart
  rw [List.getElem?_map, List.getElem?_map]
  by_cases h : i < T.rates.length + 1
  · rw [List.getElem?_range h]
    by_cases e : s = i
    · subst e
      simp [h]
    · have e2 : ¬ (i : Int) = (s : Int) := by omega
      simp [e, e2]
  · rw [List.getElem?_eq_none (by rw [List.length_range]; omega)]
    simp
    omega
theorem here_key {L : List Way} {C : Int} {kv : KV1} (d : Dist L C kv) {p q : Pl} {c : Int} (h : (⟨p, q, c⟩ : Way) ∈ L) (hp : (gv kv p).isSome = true) : (gv kv q).isSome = true := by
  obtain ⟨a, ha⟩ := Option.isSome_iff_exists.mp hp
  obtain ⟨b, hb, _⟩ := d.rl _ h a ha
  rw [show gv kv q = some b from hb]
  rfl
theorem left_of_all {T : Tar} {ps ns br : List Int} {pl : List (List Int)} {x : Way} (h : x ∈ allWays T ps br) : x ∈ leftWays T ps ns br pl := by
  unfold leftWays
  refine List.mem_flatMap.mpr ⟨x, h, ?_⟩
  unfold backW
  split <;> exact List.mem_cons_self ..
theorem way_in (T : Tar) (ps br : List Int) {k : Nat} (h : k < ps.length) : (⟨.ground, .inn k, T.wake T.rates.length⟩ : Way) ∈ allWays T ps br := by
  unfold allWays
  refine List.mem_flatMap.mpr ⟨k, List.mem_range.mpr h, ?_⟩
  unfold waysAt waysInto
  simp
theorem way_out (T : Tar) (ps br : List Int) {k : Nat} (h : k < ps.length) : (⟨.inn k, .out k, T.rate 0 * gi ps k⟩ : Way) ∈ allWays T ps br := by
  unfold allWays
  refine List.mem_flatMap.mpr ⟨k, List.mem_range.mpr h, ?_⟩
  unfold waysAt waysInto
  simp
theorem dist_keys {T : Tar} {ps ns br : List Int} {pl : List (List Int)} {C : Int} {kv : KV1} (d : Dist (leftWays T ps ns br pl) C kv) {k : Nat} (h : k < ps.length) : (gv kv (.inn k)).isSome = true ∧ (gv kv (.out k)).isSome = true := by
  have h1 := here_key d (left_of_all (ns := ns) (pl := pl) (way_in T ps br h)) (by rw [d.g0]; rfl)
  exact ⟨h1, here_key d (left_of_all (way_out T ps br h)) h1⟩
end Eb
namespace Eb
open PySem PySem.Spec PyProof.Rows L2
def spCount (P : Program) (w : World) (K : PySem.W.Frag) : MSpc := fun A S o1 o2 => ∃ kv p q, A [plR K p, plR K q] ∧ kv.length < 90000 ∧ o1 = (fun l => obN P w K l kv) ∧ o2 = (fun l => obN P w K l (cntW kv (p, q))) ∧ S vN
abbrev OkPcountway (P : Program) (w : World) (K : PySem.W.Frag) (mg : Str → Option Value) (base : Heap) : Prop := Fn P w K mg base "count_way" 1 ["used", "start", "end"] (toSpM (spCount P w K))
def spUsed (P : Program) (w : World) (K : PySem.W.Frag) : Spc := fun A S => ∃ T br pl, A [TF K T, IL br, ILL pl] ∧ T.Ok ∧ pl.length ≤ 100 ∧ (∀ row, row ∈ pl → row.length ≤ 100) ∧ S (DR P w K (usedKv T br pl))
abbrev OkPusedways (P : Program) (w : World) (K : PySem.W.Frag) (mg : Str → Option Value) (base : Heap) : Prop := Fn P w K mg base "used_ways" 3 ["tariff", "breaks", "plan"] (toSp (spUsed P w K))
def spLeft (K : PySem.W.Frag) : Spc := fun A S => ∃ T ps ns br pl, A [TF K T, IL ps, IL ns, IL br, ILL pl] ∧ T.Ok ∧ ps.length ≤ 100 ∧ ns.length = ps.length ∧ pl.length ≤ 100 ∧ (∀ row, row ∈ pl → row.length ≤ 100) ∧ S (LS ((leftWays T ps ns br pl).map (wayR K)))
abbrev OkPleftways (P : Program) (w : World) (K : PySem.W.Frag) (mg : Str → Option Value) (base : Heap) : Prop := Fn P w K mg base "left_ways" 5 ["tariff", "prices", "needs", "breaks", "plan"] (toSp (spLeft K))
def spDist (P : Program) (w : World) (K : PySem.W.Frag) : Spc := fun A S => ∃ L C, A [LS (L.map (wayR K))] ∧ L.length ≤ 30000 ∧ (∃ π, Feas L π C) ∧ ∀ kv, Dist L C kv → S (DR P w K kv)
abbrev OkPdistances (P : Program) (w : World) (K : PySem.W.Frag) (mg : Str → Option Value) (base : Heap) : Prop := Fn P w K mg base "distances" 1 ["ways"] (toSpZ (spDist P w K))
def spMake (K : PySem.W.Frag) : Spc := fun A S => ∃ T ps ns br, A [TF K T, IL ps, IL ns, IL br] ∧ T.Ok ∧ RunOk ps ns br ∧ (chPlan T ps ns br).length ≤ 100 ∧ ∃ C, (∃ π, Feas (leftWays T ps ns br (chPlan T ps ns br)) π C) ∧
  ∀ kv, Dist (leftWays T ps ns br (chPlan T ps ns br)) C kv → S (papR K (gainsOf T ps kv) (headsUp T ps br (gainsOf T ps kv) ps.length))
abbrev OkPmake (P : Program) (w : World) (K : PySem.W.Frag) (mg : Str → Option Value) (base : Heap) : Prop := Fn P w K mg base "make" 8 ["tariff", "prices", "needs", "breaks"] (toSp (spMake K))
end Eb
namespace Eb
open PySem PySem.Spec PyProof.Rows L2
/-! ### the law's own counts -/
def idleC (T : Tar) (t : Int) : Int := minL ((List.range (T.rates.length + 1)).map fun (s : Nat) => T.cost s t)
abbrev lpR (K : PySem.W.Frag) (gs : List Int) (hs : List (List Int)) : Rp := TP K [SQ K (gs.map vI), SQ K (hs.map fun r => SQ K (r.map vI))]
theorem at_rowG {f : List Int → Rp} {hs : List (List Int)} {i : Int} (h0 : 0 ≤ i) (h : i < hs.length) : atI (hs.map f) i = some (f (rowAt hs i)) := by
  refine at_nat h0 ?_
  unfold rowAt
  rw [List.getElem?_map]
  have lt : i.toNat < hs.length := by omega
  rw [List.getElem?_eq_getElem lt, List.getD_eq_getElem?_getD, List.getElem?_eq_getElem lt]
  rfl
section
variable {F : Fr} {μ : Mu} {K : PySem.W.Frag} {P : Rp} {Ps : List Rp}
theorem cv_lb : Cv F μ (Lv.rv P Lv.b) P := cv_b Rp.Le.rfl
theorem cv_lz : Cv F μ (Lv.rv P Lv.z) P := cv_z Rp.Le.rfl
theorem cv_lbL : Cv F μ (Lv.rv (LS Ps) Lv.b) (SQ K Ps) := cv_b le_ls
theorem cv_lbT : Cv F μ (Lv.rv (TP K Ps) Lv.b) (SQ K Ps) := cv_b le_ts
theorem sq_lb : Sq K F μ (Lv.rv (SQ K Ps) Lv.b) .b Ps := sq_b
end
/-- a lane's cost as the law counts it, the last moment in which it was needed -/
def bestLane (T : Tar) (ps ns br : List Int) (lane : Int) : Nat → Int × Int
  | 0 => (0, -1)
  | k + 1 =>
    let x := bestLane T ps ns br lane k
    if lane < gi ns k then
      (x.1 + T.rate 0 * gi ps k + (if x.2 < 0 ∨ brk br x.2 k = true then T.wake T.rates.length else idleC T (psum ps (x.2 + 1) k)), (k : Int))
    else x
def bestUp (T : Tar) (ps ns br : List Int) : Nat → Int
  | 0 => 0
  | l + 1 => bestUp T ps ns br l + (bestLane T ps ns br l ps.length).1
def bestC (T : Tar) (ps ns br : List Int) : Int := bestUp T ps ns br (maxN ns).toNat
theorem bestLane_last (T : Tar) (ps ns br : List Int) (lane : Int) : ∀ k, -1 ≤ (bestLane T ps ns br lane k).2 ∧ (bestLane T ps ns br lane k).2 < k
  | 0 => by simp [bestLane]
  | k + 1 => by
    have ih := bestLane_last T ps ns br lane k
    unfold bestLane
    dsimp only
    split
    · dsimp only
      omega
    · omega
theorem gi_nat {xs : List Int} {x : Int} {n : Nat} (h : xs[n]? = some x) : gi xs n = x := by
  unfold gi
  rw [Int.toNat_natCast, List.getD_eq_getElem?_getD, h]
  rfl
theorem step_nonneg {T : Tar} (o : T.Ok) {b a : Int} (h0 : 0 ≤ b) (h1 : b ≤ (T.rates.length : Int)) : 0 ≤ (T.step b a).getD 0 := by
  unfold Tar.step
  split
  · exact Int.le_refl _
  · split
    · exact (o.wake h0 h1).1
    · exact Int.le_refl _
theorem bef_range {T : Tar} {br row : List Int} {k : Nat} (hs : ∀ j : Nat, j < k → 0 ≤ gi row j ∧ gi row j ≤ (T.rates.length : Int)) : 0 ≤ bef T br row k ∧ bef T br row k ≤ (T.rates.length : Int) := by
  unfold bef
  split
  · exact ⟨by omega, Int.le_refl _⟩
  · rename_i hf
    have hk0 : k ≠ 0 := fun z => hf (Or.inl (by omega))
    have e : (k : Int) - 1 = ((k - 1 : Nat) : Int) := by omega
    rw [e]
    exact hs (k - 1) (by omega)
theorem rowCostUp_nonneg {T : Tar} (o : T.Ok) {ps br row : List Int} {m : Nat} (hp : ∀ i : Int, 0 ≤ i → i < m → 0 ≤ gi ps i) (hs : ∀ j : Nat, j < m → 0 ≤ gi row j ∧ gi row j ≤ (T.rates.length : Int)) : ∀ k, k ≤ m → 0 ≤ rowCostUp T ps br row k
  | 0, _ => Int.le_refl _
  | k + 1, hk => by
    have ih := rowCostUp_nonneg o (br := br) hp hs k (by omega)
    have h1 := o.rate (hs k (by omega)).1 (hs k (by omega)).2
    have h2 := hp k (by omega) (by omega)
    have h3 := Int.mul_nonneg h1.1 h2
    have h4 := bef_range (br := br) (k := k) fun j hj => hs j (by omega)
    have h5 := step_nonneg o (a := gi row k) h4.1 h4.2
    unfold rowCostUp
    omega
theorem rowCost_nonneg {T : Tar} (o : T.Ok) {ps ns br row : List Int} (r : RunOk ps ns br) (h : RowOk T br row ps.length) : 0 ≤ rowCost T ps br row := by
  unfold rowCost
  refine rowCostUp_nonneg o (m := row.length) (fun i h0 h1 => (r.pb i h0 (by rw [← h.1]; exact h1)).1) (fun j hj => ?_) _ (Nat.le_refl _)
  have := h.2 j (by rw [← h.1]; exact hj)
  exact ⟨this.1, this.2.1⟩
theorem planCost_nonneg {T : Tar} (o : T.Ok) {ps ns br : List Int} (r : RunOk ps ns br) : ∀ pl : List (List Int), (∀ row, row ∈ pl → RowOk T br row ps.length) → 0 ≤ planCost T ps br pl
  | [], _ => Int.le_refl _
  | row :: rest, h => by
    have h1 := rowCost_nonneg o r (h row (List.mem_cons_self ..))
    have h2 := planCost_nonneg o r rest fun q hq => h q (List.mem_cons_of_mem _ hq)
    unfold planCost at h2 ⊢
    rw [List.map_cons, List.sum_cons]
    omega
end Eb
namespace Eb
open PySem PySem.Spec PyProof.Rows L2
def spLRate (K : PySem.W.Frag) : Spc := fun A S => ∃ T s, A [TF K T, vI s] ∧ 0 ≤ s ∧ s ≤ (T.rates.length : Int) ∧ S (vI (T.rate s))
abbrev OkLrate (P : Program) (w : World) (K : PySem.W.Frag) (mg : Str → Option Value) (base : Heap) : Prop := Fn P w K mg base "_law_rate" 1 ["_law_tariff_here", "_law_state"] (toSp (spLRate K))
def spLIdle (K : PySem.W.Frag) : Spc := fun A S => ∃ T t, A [TF K T, vI t] ∧ T.Ok ∧ S (vI (idleC T t))
abbrev OkLidlecost (P : Program) (w : World) (K : PySem.W.Frag) (mg : Str → Option Value) (base : Heap) : Prop := Fn P w K mg base "_law_idle_cost" 2 ["_law_tariff_here", "_law_total"] (toSp (spLIdle K))
abbrev OkLbefore (P : Program) (w : World) (K : PySem.W.Frag) (mg : Str → Option Value) (base : Heap) : Prop := Fn P w K mg base "_law_before" 1 ["_law_tariff_here", "_law_breaks", "_law_row", "_law_k"] (toSp (spBefore K))
abbrev OkLstates (P : Program) (w : World) (K : PySem.W.Frag) (mg : Str → Option Value) (base : Heap) : Prop := Fn P w K mg base "_law_states" 1 ["_law_tariff_here", "_law_breaks", "_law_k"] (toSp (spStates K))
def spLStep (K : PySem.W.Frag) : Spc := fun A S => ∃ T b a, A [TF K T, vI b, vI a] ∧ T.Ok ∧ 0 ≤ b ∧ b ≤ (T.rates.length : Int) ∧ S (vI ((T.step b a).getD (-1)))
abbrev OkLstep (P : Program) (w : World) (K : PySem.W.Frag) (mg : Str → Option Value) (base : Heap) : Prop := Fn P w K mg base "_law_step" 1 ["_law_tariff_here", "_law_before_here", "_law_after"] (toSp (spLStep K))
def spLHead (K : PySem.W.Frag) : Spc := fun A S => ∃ T ps br gs hs k s, A [TF K T, IL ps, IL br, lpR K gs hs, vI k, vI s] ∧ T.Ok ∧ 0 ≤ k ∧ k < ps.length ∧ k < gs.length ∧ k ≤ hs.length ∧ (∀ r, r ∈ hs → r.length = T.rates.length + 1) ∧ s ∈ statesIn T br k ∧ S (vI (leastAt T ps br gs hs k s))
abbrev OkLhead (P : Program) (w : World) (K : PySem.W.Frag) (mg : Str → Option Value) (base : Heap) : Prop := Fn P w K mg base "_law_head" 2 ["_law_tariff_here", "_law_prices", "_law_breaks", "_law_paper", "_law_k", "_law_state"] (toSp (spLHead K))
def spLSum (K : PySem.W.Frag) : Spc := fun A S => ∃ ns gs hs, A [IL ns, lpR K gs hs] ∧ ns.length = gs.length ∧ ns.length ≤ 1000 ∧ (∀ n, n ∈ ns → 0 ≤ n ∧ n ≤ 1000) ∧ S (vI (pSum ns gs))
abbrev OkLsum (P : Program) (w : World) (K : PySem.W.Frag) (mg : Str → Option Value) (base : Heap) : Prop := Fn P w K mg base "_law_sum" 1 ["_law_needs", "_law_paper"] (toSp (spLSum K))
def spLSound (K : PySem.W.Frag) : Spc := fun A S => ∃ T ps br gs hs, A [TF K T, IL ps, IL br, lpR K gs hs] ∧ T.Ok ∧ ps.length ≤ 1000 ∧ gs.length ≤ 1000 ∧ hs.length ≤ 1000 ∧ ∀ b : Bool, (b = true ↔ PSound T ps br gs hs) → S (vB b)
abbrev OkLsound (P : Program) (w : World) (K : PySem.W.Frag) (mg : Str → Option Value) (base : Heap) : Prop := Fn P w K mg base "_law_sound" 3 ["_law_tariff_here", "_law_prices", "_law_breaks", "_law_paper"] (toSp (spLSound K))
def spLRow (K : PySem.W.Frag) : Spc := fun A S => ∃ T ps br row, A [TF K T, IL ps, IL br, IL row] ∧ T.Ok ∧ row.length = ps.length ∧ ps.length ≤ 1000 ∧ (∀ s, s ∈ row → 0 ≤ s ∧ s ≤ (T.rates.length : Int)) ∧
  (RowOk T br row ps.length → S (vI (rowCost T ps br row))) ∧ (¬ RowOk T br row ps.length → S (vI (-1)))
abbrev OkLrowcost (P : Program) (w : World) (K : PySem.W.Frag) (mg : Str → Option Value) (base : Heap) : Prop := Fn P w K mg base "_law_row_cost" 2 ["_law_tariff_here", "_law_prices", "_law_breaks", "_law_row"] (toSp (spLRow K))
def spLPlan (K : PySem.W.Frag) : Spc := fun A S => ∃ T ps ns br pl, A [TF K T, IL ps, IL ns, IL br, ILL pl] ∧ T.Ok ∧ RunOk ps ns br ∧ pl.length ≤ 1000 ∧ (∀ row, row ∈ pl → row.length = ps.length ∧ ∀ s, s ∈ row → 0 ≤ s ∧ s ≤ (T.rates.length : Int)) ∧
  (Fits T ps.length ns br pl → S (vI (planCost T ps br pl))) ∧ (¬ Fits T ps.length ns br pl → S (vI (-1)))
abbrev OkLplancost (P : Program) (w : World) (K : PySem.W.Frag) (mg : Str → Option Value) (base : Heap) : Prop := Fn P w K mg base "_law_plan_cost" 3 ["_law_tariff_here", "_law_prices", "_law_needs", "_law_breaks", "_law_plan"] (toSp (spLPlan K))
abbrev runR (K : PySem.W.Frag) (ps ns br : List Int) : Rp := TP K [IL ps, IL ns, IL br]
def spLCost (K : PySem.W.Frag) : Spc := fun A S => ∃ T ps ns br pl, A [TF K T, runR K ps ns br, ILL pl] ∧ T.Ok ∧ RunOk ps ns br ∧ pl.length ≤ 1000 ∧ (∀ row, row ∈ pl → row.length ≤ 1000) ∧
  (Fits T ps.length ns br pl → S (vI (planCost T ps br pl))) ∧ (¬ Fits T ps.length ns br pl → S (vI (-1)))
abbrev OkLcost (P : Program) (w : World) (K : PySem.W.Frag) (mg : Str → Option Value) (base : Heap) : Prop := Fn P w K mg base "_law_cost" 4 ["_law_tariff_here", "_law_run_here", "_law_plan"] (toSp (spLCost K))
def spLBest (K : PySem.W.Frag) : Spc := fun A S => ∃ T ps ns br, A [TF K T, IL ps, IL ns, IL br] ∧ T.Ok ∧ RunOk ps ns br ∧ S (vI (bestC T ps ns br))
abbrev OkLbest (P : Program) (w : World) (K : PySem.W.Frag) (mg : Str → Option Value) (base : Heap) : Prop := Fn P w K mg base "_law_best" 3 ["_law_tariff_here", "_law_prices", "_law_needs", "_law_breaks"] (toSp (spLBest K))
def spLSame : Spc := fun A S => ∃ x y, A [vB x, vB y] ∧ S (vB (decide (x = y)))
abbrev OkLsame (P : Program) (w : World) (K : PySem.W.Frag) (mg : Str → Option Value) (base : Heap) : Prop := Fn P w K mg base "_law_same" 1 ["_law_actual", "_law_due"] (toSp (spLSame))
def spLIsPaper (K : PySem.W.Frag) : Spc := fun A S => ∃ gs hs, A [papR K gs hs] ∧ hs.length ≤ 1000 ∧ S (vB true)
abbrev OkLispaper (P : Program) (w : World) (K : PySem.W.Frag) (mg : Str → Option Value) (base : Heap) : Prop := Fn P w K mg base "_law_is_paper" 1 ["_law_paper"] (toSp (spLIsPaper K))
end Eb
namespace Eb
open PySem PySem.Spec PyProof.Rows L2
def LK (K : PySem.W.Frag) (Ps : List Rp) : Rp := ⟨fun H v => ∃ a vs, v = .ref a ∧ SqL K H a vs ∧ Al H Ps vs, fun e ⟨a, vs, h1, h2, h3⟩ => ⟨a, vs, h1, sql_same e h2, h3.mono e⟩⟩
def spMix : Spc := fun A S => ∃ n, A [vI n] ∧ ∀ r : Int, 0 ≤ r → S (vI r)
abbrev OkLmix (P : Program) (w : World) (K : PySem.W.Frag) (mg : Str → Option Value) (base : Heap) : Prop := Fn P w K mg base "_law_mix" 1 ["_law_number"] (toSp (spMix))
/-- the draws' list and the copy of the script in it are new -/
def spStart (K : PySem.W.Frag) : Sp := fun vs H Q _ => ∃ (a : Addr) (ns : List Int), vs = [.ref a] ∧ SqL K H a (ns.map V.int) ∧ ∀ l l', H l = none → upd H l (.lst (ns.map V.int)) l' = none → Q (.ref l') (upd (upd H l (.lst (ns.map V.int))) l' (.lst [.ref l, .int 0, .int 0, .int 0, .int 0]))
abbrev OkLstart (P : Program) (w : World) (K : PySem.W.Frag) (mg : Str → Option Value) (base : Heap) : Prop := Fn P w K mg base "_law_start" 1 ["_law_script"] (spStart K)
abbrev OkLdraw (P : Program) (w : World) (K : PySem.W.Frag) (mg : Str → Option Value) (base : Heap) : Prop := Fn P w K mg base "_law_draw" 2 ["_law_d", "_law_many"] (toSpD (obDr K) (spDraw))
def spTariff (K : PySem.W.Frag) : Spc := fun A S => A [] ∧ ∀ T : Tar, T.Ok → S (TF K T)
abbrev OkLtariff (P : Program) (w : World) (K : PySem.W.Frag) (mg : Str → Option Value) (base : Heap) : Prop := Fn P w K mg base "_law_tariff" 3 ["_law_d"] (toSpD (obDr K) (spTariff K))
def spPrice : Spc := fun A S => ∃ b, A [vB b] ∧ ∀ p : Int, 1 ≤ p → p ≤ 1000 → S (vI p)
abbrev OkLprice (P : Program) (w : World) (K : PySem.W.Frag) (mg : Str → Option Value) (base : Heap) : Prop := Fn P w K mg base "_law_price" 3 ["_law_d", "_law_high"] (toSpD (obDr K) (spPrice))
structure RunL (ps ns br : List Int) : Prop where
  ok : RunOk ps ns br
  len : ps.length ≤ 10
  nd : ∀ n, n ∈ ns → n ≤ 3
  bl : br.length ≤ 10
  bb : ∀ x, x ∈ br → 0 ≤ x ∧ x ≤ 10
def spRun (K : PySem.W.Frag) : Spc := fun A S => A [vI 10, vI 3] ∧ ∀ ps ns br, RunL ps ns br → S (runR K ps ns br)
abbrev OkLrun (P : Program) (w : World) (K : PySem.W.Frag) (mg : Str → Option Value) (base : Heap) : Prop := Fn P w K mg base "_law_run" 4 ["_law_d", "_law_moments", "_law_most"] (toSpD (obDr K) (spRun K))
section
variable {F : Fr} {Γ : List En} {μ : Mu} {S : Rv → Prop} {E : XK} {tr : TA} {s : Spc} {ob : Ob} {dl : Addr}
theorem te_callE (hd : F.dv = some (dl, ob)) (h : TAv F Γ μ tr (fun rs => ∃ rs', rs = .dv :: rs' ∧ s (CvA F μ rs') (fun P => S (.z P)))) : TEv F Γ μ (tCall (toSpD ob s) [] E tr) S := te_callD (d := (dl, ob)) hd h
theorem te_callEZ (hd : F.dv = some (dl, ob)) (h : TAv F Γ μ tr (fun rs => ∃ rs', rs = .dv :: rs' ∧ s (ZvA rs') (fun P => S (.z P)))) : TEv F Γ μ (tCall (toSpDZ ob s) [] E tr) S := te_callDZ (d := (dl, ob)) hd h
end
theorem rn_listK {K : PySem.W.Frag} {F : Fr} {μ : Mu} {SN : List Rp → Prop} {ns : List Int} (s : SN (ns.map vI)) : RcbN F μ (rLstOf K) [.b (LK K (ns.map vI))] SN := fun Z H w vs al Q k => by
  obtain ⟨v, rfl, hv⟩ := alr1 al
  obtain ⟨a, ws, rfl, q, al2⟩ := hv
  have e := al2.ints
  subst e
  exact ⟨a, _, rfl, .inl (sql_same w.hb q), fun l hl => k l _ Z _ s (w.newOwn hl ⟨_, rfl, Al.toInts _⟩) (Same.refl Z)⟩
theorem rc_listK {K : PySem.W.Frag} {F : Fr} {μ : Mu} {S : Rv → Prop} {ns : List Int} (s : S (.z (IL ns))) : Rcb F μ (rLstOf K) [.b (LK K (ns.map vI))] S := fun Z H w vs al Q k => by
  obtain ⟨v, rfl, hv⟩ := alr1 al
  obtain ⟨a, ws, rfl, q, al2⟩ := hv
  have e := al2.ints
  subst e
  exact ⟨a, _, rfl, .inl (sql_same w.hb q), fun l hl => k _ _ _ _ s (w.new hl) (w.newZ hl) ⟨l, _, rfl, upd_same, Al.toInts _⟩⟩
theorem rc_listI {K : PySem.W.Frag} {F : Fr} {μ : Mu} {S : Rv → Prop} {x : Rv} {l : Lv} {ns : List Int} (h : Sq K F μ x l (ns.map vI)) (s : S (.z (IL ns))) : Rcb F μ (rLstOf K) [x] S := fun Z H w vs al Q k => by
  obtain ⟨v, rfl, hv⟩ := alr1 al
  obtain ⟨a, ws, rfl, q, al2⟩ := h Z H v w hv
  have e := al2.ints
  subst e
  exact ⟨a, _, rfl, q.imp (fun z => SqL.of z) id, fun l hl => k _ _ _ _ s (w.new hl) (w.newZ hl) ⟨l, _, rfl, upd_same, Al.toInts _⟩⟩
end Eb
namespace Eb
open PySem PySem.Spec PyProof.Rows L2
/-- a row, a plan that may be told: not too long, its numbers not too great -/
def RowB (row : List Int) : Prop := row.length ≤ 100 ∧ ∀ x, x ∈ row → -1000000 ≤ x ∧ x ≤ 1000000
def PlanB (pl : List (List Int)) : Prop := pl.length ≤ 100 ∧ ∀ row, row ∈ pl → RowB row
def gb (bs : List Bool) (i : Int) : Bool := bs.getD i.toNat false
theorem at_gb {bs : List Bool} {i : Int} (h0 : 0 ≤ i) (h : i < bs.length) : atI (bs.map vB) i = some (vE (.bl (gb bs i))) := by
  refine at_nat h0 ?_
  unfold gb
  rw [List.getElem?_map]
  have lt : i.toNat < bs.length := by omega
  rw [List.getElem?_eq_getElem lt, List.getD_eq_getElem?_getD, List.getElem?_eq_getElem lt]
  rfl
def spAnyRow (K : PySem.W.Frag) : Spc := fun A S => ∃ (T : Tar) (ps br : List Int) (bs : List Bool), A [TF K T, IL ps, IL br, LS (bs.map vB)] ∧ T.Ok ∧ bs.length = ps.length ∧ ps.length ≤ 100 ∧ ∀ row, RowB row → row.length = ps.length → S (IL row)
abbrev OkLanyrow (P : Program) (w : World) (K : PySem.W.Frag) (mg : Str → Option Value) (base : Heap) : Prop := Fn P w K mg base "_law_any_row" 3 ["_law_d", "_law_tariff_here", "_law_prices", "_law_breaks", "_law_wanted"] (toSpD (obDr K) (spAnyRow K))
def spAnyPlan (K : PySem.W.Frag) : Spc := fun A S => ∃ T ps ns br, A [TF K T, IL ps, IL ns, IL br] ∧ T.Ok ∧ RunL ps ns br ∧ ∀ pl, PlanB pl → pl.length ≤ 10 → (∀ row, row ∈ pl → row.length = ps.length) → S (ILL pl)
abbrev OkLanyplan (P : Program) (w : World) (K : PySem.W.Frag) (mg : Str → Option Value) (base : Heap) : Prop := Fn P w K mg base "_law_any_plan" 4 ["_law_d", "_law_tariff_here", "_law_prices", "_law_needs", "_law_breaks"] (toSpD (obDr K) (spAnyPlan K))
end Eb
namespace Eb
open PySem PySem.Spec PyProof.Rows L2
section
variable {K : PySem.W.Frag} {F : Fr} {Γ : List En} {μ : Mu} {S : Rv → Prop} {SN : List Rp → Prop} {D : TD} {te tl : TE} {to th : TO} {ts : TS}
theorem rop_cat {x y : Rv} {Ps Rs : List Rp} (h1 : SqLs F μ x .z Ps) (h2 : SqLs F μ y .z Rs) (hl : Ps.length + Rs.length ≤ 100000) (s : S (.z (LS (Ps ++ Rs)))) : Rop F μ rCat x y S := fun Z H w v v2 hv hv2 Q k => by
  obtain ⟨a, vs, rfl, q1, al1⟩ := h1 Z H v w hv
  obtain ⟨b, us, rfl, q2, al2⟩ := h2 Z H v2 w hv2
  refine ⟨a, b, vs, us, rfl, rfl, q1, q2, by rw [← al1.length, ← al2.length]; exact sz_le hl, fun p hp => ?_⟩
  exact k _ _ _ _ s (w.new hp) (w.newZ hp) ⟨p, _, rfl, upd_same, (al1.append al2).mono (w.newZ hp)⟩
theorem ropN_cat {x y : Rv} {Ps Rs : List Rp} (h1 : SqLs F μ x .z Ps) (h2 : SqLs F μ y .z Rs) (hl : Ps.length + Rs.length ≤ 100000) (s : SN (Ps ++ Rs)) : RopN F μ rCat x y SN := fun Z H w v v2 hv hv2 Q k => by
  obtain ⟨a, vs, rfl, q1, al1⟩ := h1 Z H v w hv
  obtain ⟨b, us, rfl, q2, al2⟩ := h2 Z H v2 w hv2
  refine ⟨a, b, vs, us, rfl, rfl, q1, q2, by rw [← al1.length, ← al2.length]; exact sz_le hl, fun p hp => ?_⟩
  exact k p _ Z _ s (w.newOwn hp ⟨_, rfl, al1.append al2⟩) (Same.refl Z)
theorem tn_slZ (h : TEv F Γ μ te (fun x => TOv F Γ μ to (fun lo => TOv F Γ μ th (fun hi => ∃ Ps, SqLs F μ x .z Ps ∧ SN (cutR Ps lo hi))))) : TNv F Γ μ (tSl (rSlL K) te to th) SN := tn_sl (x := .dv) h
theorem rn_listI {x : Rv} {l : Lv} {ns : List Int} (h : Sq K F μ x l (ns.map vI)) (s : SN (ns.map vI)) : RcbN F μ (rLstOf K) [x] SN := fun Z H w vs al Q k => by
  obtain ⟨v, rfl, hv⟩ := alr1 al
  obtain ⟨a, ws, rfl, q, al2⟩ := h Z H v w hv
  have e := al2.ints
  subst e
  exact ⟨a, _, rfl, q.imp (fun z => SqL.of z) id, fun l hl => k l _ Z _ s (w.newOwn hl ⟨_, rfl, Al.toInts _⟩) (Same.refl Z)⟩
theorem rc_listI2 {x : Rv} {l : Lv} {ns : List Int} (h : Sq K F μ x l (ns.map vI)) (s : S (.z (LS (ns.map vI)))) : Rcb F μ (rLstOf K) [x] S := fun Z H w vs al Q k => by
  obtain ⟨v, rfl, hv⟩ := alr1 al
  obtain ⟨a, ws, rfl, q, al2⟩ := h Z H v w hv
  have e := al2.ints
  subst e
  exact ⟨a, _, rfl, q.imp (fun z => SqL.of z) id, fun l hl => k _ _ _ _ s (w.new hl) (w.newZ hl) ⟨l, _, rfl, upd_same, Al.toInts _⟩⟩
theorem Al.dropLast {H : Hp} : ∀ {Ps : List Rp} {vs : List V}, Al H Ps vs → Al H Ps.dropLast vs.dropLast
  | [], [], _ => trivial
  | [_], [_], _ => trivial
  | P :: P2 :: Ps, v :: v2 :: vs, h => ⟨h.1, Al.dropLast (Ps := P2 :: Ps) (vs := v2 :: vs) h.2⟩
  | [], _ :: _, h => h.elim
  | _ :: _, [], h => h.elim
  | [_], _ :: _ :: _, h => h.2.elim
  | _ :: _ :: _, [_], h => h.2.elim
/-- x.pop(), x one's own -/
theorem ts_pop {i j : Nat} {l : Addr} {Ps : List Rp} (hi : Γ[i]? = some (.ow l)) (hj : μ[j]? = some (l, obL Ps)) (h0 : Ps ≠ []) (h : D.nx Γ (μ.set j (l, obL Ps.dropLast))) : TSv F Γ μ (tDrop (tBM0 K "list" rPop (tVar i))) D := fun σ Z H w e D' k => by
  obtain ⟨o, h1, h2⟩ := e.get hi
  cases h2
  obtain ⟨_, _, o3, h3, vs, rfl, al⟩ := w.own _ (List.mem_of_getElem? hj)
  have hne : 0 < vs.length := by
    rw [← al.length]
    exact List.length_pos_iff.mpr h0
  refine ⟨.ref l, h1, .inl ⟨rfl, _, SqL.of h3⟩, l, vs, vs[vs.length - 1]'(by omega), rfl, rfl, h3, List.getElem?_eq_getElem (by omega), ?_⟩
  exact k.nx _ _ _ _ _ h (w.mut hj ⟨_, rfl, al.dropLast⟩) e (Same.refl Z)
theorem dr_ref {j : Nat} {l : Addr} {Rs : List Rp} {ds : List PyData} (hj : μ[j]? = some (l, obL Rs)) (h : DpPs K Rs ds) : DpR K F μ (.z (refR l)) (.list ds) := fun Z H v w e => dr_o (F := F) hj h Z H v w e
theorem dr_rowsA {Z H : Hp} (w : Wd F μ Z H) : ∀ (ls : List Addr) (rows : List (List Int)), ls.length = rows.length → (∀ q, q ∈ zipR ls rows → q ∈ μ) → DpAll K H (ls.map V.ref) (rows.map fun r => PyData.list (r.map PyData.int))
  | [], [], _, _ => .nil
  | l :: ls, r :: rows, hl, hm => by
    obtain ⟨_, _, o, h3, vs, rfl, al⟩ := w.own _ (hm (l, obL (r.map vI)) (List.mem_cons_self ..))
    exact .cons (.lst (SqL.of h3) (DpAll.same w.zh _ _ ((dp_ints r).all al))) (dr_rowsA w ls rows (by simpa using hl) fun q hq => hm q (List.mem_cons_of_mem _ hq))
  | [], _ :: _, hl, _ => by simp at hl
  | _ :: _, [], hl, _ => by simp at hl
theorem dr_rows {lh : Addr} {ls : List Addr} {rows : List (List Int)} (hl : ls.length = rows.length) (h0 : (lh, obL (ls.map refR)) ∈ μ) (hm : ∀ q, q ∈ zipR ls rows → q ∈ μ) : DpR K F μ (.o lh) (.list (rows.map fun r => PyData.list (r.map PyData.int))) := fun Z H v w e => by
  obtain ⟨_, _, o, h3, vs, rfl, al⟩ := w.own _ h0
  have e2 : v = .ref lh := e
  have ev : vs = ls.map V.ref := Al.ofE (H := Z) (by rw [List.map_map]; exact al)
  rw [e2]
  exact .lst (SqL.of h3) (by rw [ev]; exact dr_rowsA w ls rows hl hm)
theorem ts_freeRows2 {i i2 n : Nat} {lh ln : Addr} {ls : List Addr} {rows : List (List Int)} {r : List Int} (hl : ls.length = rows.length) (hi : Γ[i]? = some (.ow lh)) (hne : i ≠ i2) (hi2 : Γ[i2]? = some (.rp (refR ln))) (hn : ls[n]? = some ln) (hr : rows[n]? = some r)
    (h : TSv F ((Γ.set i (.rp (ILL rows))).set i2 (.rp (IL r))) μ ts D) : TSv F Γ ((lh, obL (ls.map refR)) :: (zipR ls rows ++ μ)) ts D := fun σ Z H w e D' k => by
  obtain ⟨u, ⟨vs, rfl, al⟩, sm, w3⟩ := w.free
  obtain ⟨Z', z2, w4, al2⟩ := wd_freeZ ls rows hl w3
  have ev : vs = ls.map V.ref := Al.ofE (H := Z) (by rw [List.map_map]; exact al)
  refine h σ Z' H w4 (((e.mono (sm.trans z2)).setG i fun o ho => ?_).setG i2 fun o ho => ?_) D' (k.mono (sm.trans z2))
  · obtain ⟨o2, h1, h2⟩ := e.get hi
    rw [ho] at h1
    cases h1
    cases h2
    exact ⟨.ref lh, rfl, lh, vs, rfl, z2 _ _ upd_same, by rw [ev]; exact al2⟩
  · obtain ⟨o2, h1, v, rfl, h2⟩ := e.get hi2
    rw [ho] at h1
    cases h1
    have e2 : v = .ref ln := h2
    subst e2
    obtain ⟨P, hP, px⟩ := al2.get' (i := n) (v := .ref ln) (by rw [List.getElem?_map, hn]; rfl)
    rw [List.getElem?_map, hr] at hP
    cases hP
    exact ⟨.ref ln, rfl, px⟩
theorem ts_sub {μ' : Mu} (hs : μ'.Sublist μ) (h : TSv F Γ μ' ts D) : TSv F Γ μ ts D := fun σ Z H w e D' k => h σ Z H (w.drop hs) e D' k
end
theorem ints_canlay : ∀ ns : List Int, PyData.canLayAll0 (ns.map PyData.int) = true
  | [] => rfl
  | n :: r => by
    have := ints_canlay r
    simp [PyData.canLayAll0, PyData.canLay0, this]
theorem ints_depth : ∀ ns : List Int, PyData.depthAll (ns.map PyData.int) = 0
  | [] => rfl
  | n :: r => by
    have := ints_depth r
    simp [PyData.depthAll, PyData.depth, this]
theorem ints_shaped (ns : List Int) : SeqAt.shaped (.list (ns.map PyData.int)) = true := by
  simp [SeqAt.shaped, PyData.canLay0, PyData.depth, ints_canlay, ints_depth]
theorem intsT_shaped (ns : List Int) : SeqAt.shaped (.tuple (ns.map PyData.int)) = true := by
  simp [SeqAt.shaped, PyData.canLay0, PyData.depth, ints_canlay, ints_depth]
abbrev rowsD (hs : List (List Int)) : List PyData := hs.map fun r => .list (r.map PyData.int)
theorem rows_canlay : ∀ hs : List (List Int), PyData.canLayAll0 (rowsD hs) = true
  | [] => rfl
  | r :: rest => by
    have := rows_canlay rest
    simp [rowsD, PyData.canLayAll0, PyData.canLay0, ints_canlay] at this ⊢
    exact this
theorem rows_depth : ∀ hs : List (List Int), PyData.depthAll (rowsD hs) ≤ 1
  | [] => Nat.zero_le _
  | r :: rest => by
    have := rows_depth rest
    simp only [rowsD, List.map_cons, PyData.depthAll, PyData.depth, ints_depth] at this ⊢
    omega
theorem rows_shaped (hs : List (List Int)) : SeqAt.shaped (.list (rowsD hs)) = true := by
  have := rows_depth hs
  refine Bool.and_eq_true_iff.mpr ⟨by simp only [PyData.canLay0]; exact rows_canlay hs, decide_eq_true ?_⟩
  simp only [PyData.depth]
  omega
theorem dp_rows {K : PySem.W.Frag} (hs : List (List Int)) : DpPs K (hs.map IL) (rowsD hs) := DpPs.map (fun r => dp_ls (dp_ints r)) hs
theorem eqv_nil (ds : List PyData) : PyData.eqv (.list ds) (.list []) = ds.isEmpty := by
  cases ds <;> simp [PyData.eqv, PyData.eqvAll]
theorem eqvT_nil (ds : List PyData) : PyData.eqv (.tuple ds) (.tuple []) = ds.isEmpty := by
  cases ds <;> simp [PyData.eqv, PyData.eqvAll]
end Eb
namespace Eb
open PySem PySem.Spec PyProof.Rows L2
/-- a paper whose numbers are not too great -/
structure PapB (M : Int) (gs : List Int) (hs : List (List Int)) : Prop where
  gl : gs.length ≤ 100
  hl : hs.length ≤ 100
  gb : ∀ x, x ∈ gs → -M ≤ x ∧ x ≤ M
  rl : ∀ r, r ∈ hs → r.length ≤ 100
  rb : ∀ r, r ∈ hs → ∀ x, x ∈ r → -M ≤ x ∧ x ≤ M
def spSize (K : PySem.W.Frag) : Spc := fun A S => ∃ (M : Int) (gs : List Int) (hs : List (List Int)), A [papR K gs hs] ∧ 0 ≤ M ∧ PapB M gs hs ∧ gs.length ≤ 50 ∧ hs.length ≤ 50 ∧ ∀ gs' hs', PapB M gs' hs' → S (papR K gs' hs')
abbrev OkLchangedsize (P : Program) (w : World) (K : PySem.W.Frag) (mg : Str → Option Value) (base : Heap) : Prop := Fn P w K mg base "_law_changed_size" 3 ["_law_d", "_law_paper"] (toSpD (obDr K) (spSize K))
def spChanged (K : PySem.W.Frag) : Spc := fun A S => ∃ (T : Tar) (pl : List (List Int)) (m : Nat), A [TF K T, ILL pl] ∧ T.Ok ∧ pl.length ≤ 40 ∧ m ≤ 50 ∧ PlanB pl ∧ (∀ row, row ∈ pl → row.length = m) ∧ ∀ pl', PlanB pl' → S (ILL pl')
abbrev OkLchanged (P : Program) (w : World) (K : PySem.W.Frag) (mg : Str → Option Value) (base : Heap) : Prop := Fn P w K mg base "_law_changed" 3 ["_law_d", "_law_tariff_here", "_law_plan"] (toSpD (obDr K) (spChanged K))
def spPlans (K : PySem.W.Frag) : Spc := fun A S => ∃ (T : Tar) (ps ns br : List Int) (pl : List (List Int)), A [TF K T, runR K ps ns br, ILL pl] ∧ T.Ok ∧ RunL ps ns br ∧ pl.length ≤ 30 ∧ PlanB pl ∧ (∀ row, row ∈ pl → row.length = ps.length) ∧ ∀ pls : List (List (List Int)), pls.length ≤ 20 → (∀ p, p ∈ pls → PlanB p) → S (LS (pls.map ILL))
abbrev OkLplans (P : Program) (w : World) (K : PySem.W.Frag) (mg : Str → Option Value) (base : Heap) : Prop := Fn P w K mg base "_law_plans" 5 ["_law_d", "_law_tariff_here", "_law_run_here", "_law_first"] (toSpDZ (obDr K) (spPlans K))
def spSpoil (K : PySem.W.Frag) : Spc := fun A S => ∃ (M : Int) (gs : List Int) (hs : List (List Int)), A [papR K gs hs] ∧ 0 ≤ M ∧ PapB M gs hs ∧ gs.length ≤ 50 ∧ hs.length = gs.length ∧ (∀ r, r ∈ hs → 1 ≤ r.length ∧ r.length ≤ 50) ∧ ∀ gs' hs', PapB (M + 200) gs' hs' → S (papR K gs' hs')
abbrev OkLspoiledpaper (P : Program) (w : World) (K : PySem.W.Frag) (mg : Str → Option Value) (base : Heap) : Prop := Fn P w K mg base "_law_spoiled_paper" 3 ["_law_d", "_law_paper"] (toSpD (obDr K) (spSpoil K))
theorem le_lp {K : PySem.W.Frag} {gs : List Int} {hs : List (List Int)} : (TP K [IL gs, ILL hs]).Le (lpR K gs hs) :=
  le_ts_a ⟨le_ls, Rp.Le.trans le_ls (le_sq_a (LeA.map (fun _ => le_ls) hs)), trivial⟩
theorem le_pp {K : PySem.W.Frag} {gs : List Int} {hs : List (List Int)} : (papR K gs hs).Le (lpR K gs hs) :=
  le_ts_a ⟨le_ts, Rp.Le.trans le_ts (le_sq_a (LeA.map (fun _ => le_ts) hs)), trivial⟩
def spSlack (K : PySem.W.Frag) : Spc := fun A S => ∃ (M : Int) (T : Tar) (ps ns br gs : List Int) (hs : List (List Int)), A [TF K T, IL ps, IL br, IL ns, papR K gs hs] ∧ T.Ok ∧ RunL ps ns br ∧ 0 ≤ M ∧ PapB M gs hs ∧ Sized T ps gs hs ∧ ∀ gs' hs', PapB (M + 200) gs' hs' → S (papR K gs' hs')
abbrev OkLslack (P : Program) (w : World) (K : PySem.W.Frag) (mg : Str → Option Value) (base : Heap) : Prop := Fn P w K mg base "_law_slack" 4 ["_law_d", "_law_tariff_here", "_law_prices", "_law_breaks", "_law_needs", "_law_paper"] (toSpDZ (obDr K) (spSlack K))
def spFollow (K : PySem.W.Frag) : Spc := fun A S => ∃ (M : Int) (T : Tar) (ps ns br gs : List Int) (hs : List (List Int)), A [TF K T, IL ps, IL br, papR K gs hs] ∧ T.Ok ∧ RunL ps ns br ∧ 0 ≤ M ∧ PapB M gs hs ∧ Sized T ps gs hs ∧ ∀ gs' hs', PapB (20 * M + 1000) gs' hs' → S (papR K gs' hs')
abbrev OkLfollowed (P : Program) (w : World) (K : PySem.W.Frag) (mg : Str → Option Value) (base : Heap) : Prop := Fn P w K mg base "_law_followed" 3 ["_law_d", "_law_tariff_here", "_law_prices", "_law_breaks", "_law_paper"] (toSpDZ (obDr K) (spFollow K))
end Eb
namespace Eb
open PySem PySem.Spec PyProof.Rows L2
local macro_rules | `(tactic| lsm_bools) => `(tactic| with_reducible first
  | exact SqTs.q st_b
  | exact SqLs.q sl_b
  | exact SqTs.q st_z
  | exact SqLs.q sl_z
  | (refine' SqLs.q (sl_o ?h); (case h => with_unfolding_all rfl))
  | exact sq_b
  | exact sq_z
  | exact sq_lb
  | exact SqLs.q sl_o0
  | exact SqLs.q sl_o1
  | exact SqLs.q sl_o2
  | exact SqLs.q sl_vL
  | exact SqLs.q sl_atL)
local macro_rules | `(tactic| l_intsC) => `(tactic| with_reducible first
  | exact sl_b
  | exact sl_z
  | (refine' sl_o ?h; (case h => with_unfolding_all rfl))
  | exact sl_o0
  | exact sl_o1
  | exact sl_o2)
local macro_rules | `(tactic| leaf_len) => `(tactic| first
  | assumption
  | omega
  | (simp only [List.length_map, List.length_append, List.length_cons, List.length_nil, List.length_replicate] at *; omega))
local macro_rules | `(tactic| pre_facts) => `(tactic| first
  | exact trivial
  | (refine ⟨?_, ?_⟩; (with_reducible first
    | exact cv_z Rp.Le.rfl
    | exact cv_b Rp.Le.rfl
    | (refine' cv_o ?h Rp.Le.rfl; (case h => with_unfolding_all rfl))
    | exact cv_z le_ls
    | exact cv_b le_ls
    | exact cv_z le_ts
    | exact cv_b le_ts
    | (refine' cv_o ?h le_ls; (case h => with_unfolding_all rfl))); pre_facts))
local macro_rules | `(tactic| o_readsAll) => `(tactic| with_reducible first
  | (refine' te_at ?h ?_; (case h => with_unfolding_all rfl))
  | refine ent_boE ?_
  | refine ent_lbE ?_
  | refine ent_rp ?_
  | refine ent_bo ?_
  | refine ent_rz ?_
  | refine ent_rb ?_
  | refine ent_lz ?_
  | refine ent_lb ?_
  | refine ent_ow ?_
  | refine ent_dv ?_
  | (refine' te_ground ?h ?_; (case h => assumption))
  | refine te_c ?_
  | refine te_op ?_
  | refine te_call ?_
  | (refine' te_callE ?h ?_; (case h => assumption))
  | refine te_cb ?_
  | refine te_ckw ?_
  | refine te_if ?_
  | refine te_andV ?_
  | refine te_orV ?_
  | refine te_notV ?_
  | refine te_chain ?_
  | (refine' te_tup (K := ?hK) ?_; (case hK => assumption))
  | refine te_new (tn_lst ?_)
  | refine tn_lst ?_
  | refine hl3 ?_
  | refine hl2 ?_
  | refine hl1 ?_
  | refine hl0 ?_
  | refine hl_z ?_
  | refine te_new (tn_lrg ?_)
  | refine to_none ?_
  | refine to_some ?_
  | refine rc_intB ?_
  | refine rc_intI ?_
  | refine rc_max2 ?_
  | refine rc_min2 ?_
  | refine te_unI ?_
  | refine ta_nil ?_
  | refine ta_cons ?_
  | refine tt_test ?_
  | refine tt_B ?_
  | refine tt_not ?_
  | refine tt_and ?_
  | refine tt_or ?_
  | refine tt_yes ?_
  | refine rop_0 ?_
  | refine rop_eqI ?_
  | refine rop_neI ?_
  | refine rop_isN ?_
  | refine rop_notN ?_
  | (refine' rop_ixE ?h ?k ?_; (case h => lsm_bools); (case k => (refine at_gi ?_ ?_; leaf_len; leaf_len)))
  | (refine' rop_ixE ?h ?k ?_; (case h => lsm_bools); (case k => exact at_nat (by decide) (by with_unfolding_all rfl)))
  | (refine' rop_ix ?h ?k ?_; (case h => lsm_bools); (case k => exact at_nat (by decide) (by with_unfolding_all rfl)))
  | (refine' rop_ix ?h ?k ?_; (case h => lsm_bools); (case k => (refine at_row ?_ ?_; leaf_len; leaf_len)))
  | (refine' rop_ix ?h ?k ?_; (case h => lsm_bools); (case k => (refine at_rowG ?_ ?_; leaf_len; leaf_len)))
  | (refine' rc_lenI ?h ?_; (case h => lsm_bools))
  | (refine' rc_len ?h ?_; (case h => lsm_bools))
  | (refine' rc_sum ?h ?_; (case h => l_intsC))
  | (refine' rc_tuple ?h ?_; (case h => l_intsC))
  | (refine' rop_inI ?h ?_; (case h => lsm_bools))
  | (refine' rop_niI ?h ?_; (case h => lsm_bools))
  | (refine rop_mulL ?_ ?_ ?_; leaf_len; leaf_len)
  | (refine rop_mulR ?_ ?_ ?_; leaf_len; leaf_len)
  | (refine rop_mod ?_ ?_; leaf_len)
  | (refine rop_fdiv ?_ ?_ ?_; leaf_len; leaf_len)
  | refine Exists.intro _ (And.intro rfl ?_))
local macro_rules | `(tactic| nest_cls) => `(tactic| with_reducible first
  | refine ts_seq ?_
  | refine ts_next ?_
  | refine ts_ret ?_
  | refine ts_set ?_
  | refine ts_if ?_
  | (refine' ts_aug ?h ?_; (case h => with_unfolding_all rfl))
  | (refine' te_at ?h ?_; (case h => with_unfolding_all rfl))
  | refine ent_boE ?_
  | refine ent_lbE ?_
  | refine ent_rp ?_
  | refine ent_bo ?_
  | refine ent_rz ?_
  | refine ent_rb ?_
  | refine ent_lz ?_
  | refine ent_lb ?_
  | refine ent_ow ?_
  | refine ent_dv ?_
  | (refine' te_ground ?h ?_; (case h => assumption))
  | refine te_c ?_
  | refine te_op ?_
  | refine te_call ?_
  | (refine' te_callE ?h ?_; (case h => assumption))
  | refine te_cb ?_
  | refine te_ckw ?_
  | refine te_if ?_
  | refine te_andV ?_
  | refine te_orV ?_
  | refine te_notV ?_
  | refine te_chain ?_
  | (refine' te_tup (K := ?hK) ?_; (case hK => assumption))
  | refine te_new (tn_lst ?_)
  | refine tn_lst ?_
  | refine hl3 ?_
  | refine hl2 ?_
  | refine hl1 ?_
  | refine hl0 ?_
  | refine hl_z ?_
  | refine te_new (tn_lrg ?_)
  | refine to_none ?_
  | refine to_some ?_
  | refine rc_intB ?_
  | refine rc_intI ?_
  | refine rc_max2 ?_
  | refine rc_min2 ?_
  | refine te_unI ?_
  | refine ta_nil ?_
  | refine ta_cons ?_
  | refine tt_test ?_
  | refine tt_B ?_
  | refine tt_not ?_
  | refine tt_and ?_
  | refine tt_or ?_
  | refine tt_yes ?_
  | refine rop_0 ?_
  | refine rop_eqI ?_
  | refine rop_neI ?_
  | refine rop_isN ?_
  | refine rop_notN ?_
  | (refine' rop_ixE ?h ?k ?_; (case h => lsm_bools); (case k => (refine at_gi ?_ ?_; leaf_len; leaf_len)))
  | (refine' rop_ixE ?h ?k ?_; (case h => lsm_bools); (case k => exact at_nat (by decide) (by with_unfolding_all rfl)))
  | (refine' rop_ix ?h ?k ?_; (case h => lsm_bools); (case k => exact at_nat (by decide) (by with_unfolding_all rfl)))
  | (refine' rop_ix ?h ?k ?_; (case h => lsm_bools); (case k => (refine at_row ?_ ?_; leaf_len; leaf_len)))
  | (refine' rop_ix ?h ?k ?_; (case h => lsm_bools); (case k => (refine at_rowG ?_ ?_; leaf_len; leaf_len)))
  | (refine' rc_lenI ?h ?_; (case h => lsm_bools))
  | (refine' rc_len ?h ?_; (case h => lsm_bools))
  | (refine' rc_sum ?h ?_; (case h => l_intsC))
  | (refine' rc_tuple ?h ?_; (case h => l_intsC))
  | (refine' rop_inI ?h ?_; (case h => lsm_bools))
  | (refine' rop_niI ?h ?_; (case h => lsm_bools))
  | (refine rop_mulL ?_ ?_ ?_; leaf_len; leaf_len)
  | (refine rop_mulR ?_ ?_ ?_; leaf_len; leaf_len)
  | (refine rop_mod ?_ ?_; leaf_len)
  | (refine rop_fdiv ?_ ?_ ?_; leaf_len; leaf_len)
  | refine Exists.intro _ (And.intro rfl ?_))
section
variable {P : Program} {w : World} {K : PySem.W.Frag} {mg : Str → Option Value} {base : Heap}

abbrev nPoff : List Str := ["tariff"]
theorem scPoff : FnScope nPoff ["tariff"] (defScope sPoff) := ⟨rfl, rfl, rfl, by decide +kernel, rfl, by decide +kernel, by decide +kernel⟩
theorem ok_off (C : Ctx K mg)  : OkPoff P w K mg base := by
  have sc := scPoff
  refine C.fn (i := 0) rfl rfl sc (fun _ _ _ _ _ _ us hl => match us, hl with | [_], _ => rfl) (len_sp ?len) fun cdv A outer s H vs Q E hr h => ⟨_, (pss_one (ps_ret (pe_callB call_len_seq (by rfl) (C.f 69) PySem.boot_len (pa_cons (pe_ix ix_seq (pv 0) pe_int (fun _ _ => rfl)) pa_nil)))), run_sp h ?body⟩
  case len => exact fun A S ⟨T, hA, hS⟩ => ⟨_, hA, rfl⟩
  case body =>
    refine fun A S ⟨T, hA, hS⟩ => ⟨_, hA, fun F hF => ?_⟩
    show TSv F [.bo _] [] _ _
    try simp only [cx_K, cx_K2]
    repeat nest_cls
    exact hS
abbrev nPrate : List Str := ["tariff", "state"]
theorem scPrate : FnScope nPrate ["tariff", "state"] (defScope sPrate) := ⟨rfl, rfl, rfl, by decide +kernel, rfl, by decide +kernel, by decide +kernel⟩
theorem ok_rate (C : Ctx K mg) (g_off : OkPoff P w K mg base) : OkPrate P w K mg base := by
  have sc := scPrate
  refine C.fn (i := 1) rfl rfl sc (fun _ _ _ _ _ _ us hl => match us, hl with | [_, _], _ => rfl) (len_sp ?len) fun cdv A outer s H vs Q E hr h => ⟨_, (pss_one (ps_ret (pe_ifExp (pt_cmpR op_eq (pv 1) (pe_fn g_off (hr.mono (by decide)) rfl (pa_cons (pv 0) pa_nil)) (nomark _)) pe_int (pe_ix ix_seq (pe_ix ix_seq (pv 0) pe_int (fun _ _ => rfl)) (pv 1) (fun _ _ => rfl))))), run_sp h ?body⟩
  case len => exact fun A S ⟨T, s, hA, h0, h1, hS⟩ => ⟨_, hA, rfl⟩
  case body =>
    refine fun A S ⟨T, s, hA, h0, h1, hS⟩ => ⟨_, hA, fun F hF => ?_⟩
    show TSv F [.bo _, .bo _] [] _ _
    try simp only [cx_K, cx_K2]
    repeat nest_cls
    refine ⟨_, (by pre_facts), ?_⟩
    repeat nest_cls
    refine ⟨fun hb => ?_, fun hb => ?_⟩
    · repeat nest_cls
      rw [Tar.rate, if_pos (of_decide_eq_true hb)] at hS
      exact hS
    · have hn := of_decide_eq_false hb
      repeat nest_cls
      rw [Tar.rate, if_neg hn] at hS
      exact hS
abbrev nPwake : List Str := ["tariff", "state"]
theorem scPwake : FnScope nPwake ["tariff", "state"] (defScope sPwake) := ⟨rfl, rfl, rfl, by decide +kernel, rfl, by decide +kernel, by decide +kernel⟩
theorem ok_wake (C : Ctx K mg)  : OkPwake P w K mg base := by
  have sc := scPwake
  refine C.fn (i := 2) rfl rfl sc (fun _ _ _ _ _ _ us hl => match us, hl with | [_, _], _ => rfl) (len_sp ?len) fun cdv A outer s H vs Q E hr h => ⟨_, (pss_one (ps_ret (pe_ix ix_seq (pe_ix ix_seq (pv 0) pe_int (fun _ _ => rfl)) (pv 1) (fun _ _ => rfl)))), run_sp h ?body⟩
  case len => exact fun A S ⟨T, s, hA, h0, h1, hS⟩ => ⟨_, hA, rfl⟩
  case body =>
    refine fun A S ⟨T, s, hA, h0, h1, hS⟩ => ⟨_, hA, fun F hF => ?_⟩
    show TSv F [.bo _, .bo _] [] _ _
    try simp only [cx_K, cx_K2]
    repeat nest_cls
    exact hS
abbrev nPstatecost : List Str := ["tariff", "state", "total"]
theorem scPstatecost : FnScope nPstatecost ["tariff", "state", "total"] (defScope sPstatecost) := ⟨rfl, rfl, rfl, by decide +kernel, rfl, by decide +kernel, by decide +kernel⟩
theorem ok_state_cost (C : Ctx K mg) (g_wake : OkPwake P w K mg base) (g_rate : OkPrate P w K mg base) : OkPstatecost P w K mg base := by
  have sc := scPstatecost
  refine C.fn (i := 3) rfl rfl sc (fun _ _ _ _ _ _ us hl => match us, hl with | [_, _, _], _ => rfl) (len_sp ?len) fun cdv A outer s H vs Q E hr h => ⟨_, (pss_one (ps_ret (pe_op op_add (pe_op op_mul (pe_fn g_rate (hr.mono (by decide)) rfl (pa_cons (pv 0) (pa_cons (pv 1) pa_nil))) (pv 2)) (pe_fn g_wake (hr.mono (by decide)) rfl (pa_cons (pv 0) (pa_cons (pv 1) pa_nil)))))), run_sp h ?body⟩
  case len => exact fun A S ⟨T, s, t, hA, ok, h0, h1, hS⟩ => ⟨_, hA, rfl⟩
  case body =>
    refine fun A S ⟨T, s, t, hA, ok, h0, h1, hS⟩ => ⟨_, hA, fun F hF => ?_⟩
    show TSv F [.bo _, .bo _, .bo _] [] _ _
    try simp only [cx_K, cx_K2]
    repeat nest_cls
    refine ⟨_, _, (by pre_facts), h0, h1, ?_⟩
    have hr1 := ok.rate h0 h1
    have hl := ok.len
    repeat nest_cls
    refine ⟨_, _, (by pre_facts), h0, (by omega), ?_⟩
    repeat nest_cls
    exact hS
abbrev nPstepcost : List Str := ["tariff", "before", "after"]
theorem scPstepcost : FnScope nPstepcost ["tariff", "before", "after"] (defScope sPstepcost) := ⟨rfl, rfl, rfl, by decide +kernel, rfl, by decide +kernel, by decide +kernel⟩
theorem ok_step_cost (C : Ctx K mg) (g_wake : OkPwake P w K mg base) : OkPstepcost P w K mg base := by
  have sc := scPstepcost
  refine C.fn (i := 5) rfl rfl sc (fun _ _ _ _ _ _ us hl => match us, hl with | [_, _, _], _ => rfl) (len_sp ?len) fun cdv A outer s H vs Q E hr h => ⟨_, (pss_cons (ps_if (pt_cmpR op_ge (pv 2) (pv 1) (nomark _)) (pss_one (ps_ret pe_int)) pss_nil) (pss_one (ps_ret (pe_ifExp (pt_cmpR op_eq (pv 2) pe_int (nomark _)) (pe_fn g_wake (hr.mono (by decide)) rfl (pa_cons (pv 0) (pa_cons (pv 1) pa_nil))) pe_non)))), run_sp h ?body⟩
  case len => exact fun A S ⟨T, b, a, hA, ok, h0, h1, hS⟩ => ⟨_, hA, rfl⟩
  case body =>
    refine fun A S ⟨T, b, a, hA, ok, h0, h1, hS⟩ => ⟨_, hA, fun F hF => ?_⟩
    show TSv F [.bo _, .bo _, .bo _] [] _ _
    try simp only [cx_K, cx_K2]
    have hl := ok.len
    repeat nest_cls
    refine ⟨fun hb => ?_, fun hb => ?_⟩
    · have hb2 := of_decide_eq_true hb
      repeat nest_cls
      rw [Tar.step, if_pos hb2] at hS
      exact hS
    · have hb2 := of_decide_eq_false hb
      rw [Tar.step, if_neg hb2] at hS
      repeat nest_cls
      refine ⟨fun hc => ?_, fun hc => ?_⟩
      · have hc2 := of_decide_eq_true hc
        rw [if_pos hc2] at hS
        repeat nest_cls
        refine ⟨_, _, (by pre_facts), by omega, by omega, ?_⟩
        repeat nest_cls
        exact hS
      · have hc2 := of_decide_eq_false hc
        rw [if_neg hc2] at hS
        repeat nest_cls
        exact hS
abbrev nPidlestate : List Str := ["tariff", "total", "best", "state"]
theorem scPidlestate : FnScope nPidlestate ["tariff", "total"] (defScope sPidlestate) := ⟨rfl, rfl, rfl, by decide +kernel, rfl, by decide +kernel, by decide +kernel⟩
theorem ok_idle_state (C : Ctx K mg) (g_off : OkPoff P w K mg base) (g_state_cost : OkPstatecost P w K mg base) : OkPidlestate P w K mg base := by
  have sc := scPidlestate
  refine C.fn (i := 4) rfl rfl sc (fun _ _ _ _ _ _ us hl => match us, hl with | [_, _], _ => rfl) (len_sp ?len) fun cdv A outer s H vs Q E hr h => ⟨_, (pss_cons (ps_set (i := 2) sc.nd rfl (Or.inl rfl) pe_int) (pss_cons (ps_for PassesOwn.never rfl (pi_range2 (by rfl) (C.f 73) (pa_cons pe_int (pa_cons (pe_op op_add (pe_fn g_off (hr.mono (by decide)) rfl (pa_cons (pv 0) pa_nil)) pe_int) pa_nil))) (pg_name (i := 3) sc.nd rfl (Or.inl rfl)) (pss_one (ps_if (pt_cmpR op_lt (pe_fn g_state_cost (hr.mono (by decide)) rfl (pa_cons (pv 0) (pa_cons (pv 3) (pa_cons (pv 1) pa_nil)))) (pe_fn g_state_cost (hr.mono (by decide)) rfl (pa_cons (pv 0) (pa_cons (pv 2) (pa_cons (pv 1) pa_nil)))) (nomark _)) (pss_one (ps_set (i := 2) sc.nd rfl (Or.inl rfl) (pv 3))) pss_nil))) (pss_one (ps_ret (pv 2))))), run_sp h ?body⟩
  case len => exact fun A S ⟨T, t, hA, ok, hS⟩ => ⟨_, hA, rfl⟩
  case body =>
    refine fun A S ⟨T, t, hA, ok, hS⟩ => ⟨_, hA, fun F hF => ?_⟩
    show TSv F [.bo _, .bo _, .no, .no] [] _ _
    try simp only [cx_K, cx_K2]
    have hl := ok.le
    repeat nest_cls
    refine ts_forR2 ?_
    repeat nest_cls
    refine ⟨_, (by pre_facts), ?_⟩
    repeat nest_cls
    refine ⟨_, _, rfl, by omega, by omega, by omega, by omega, fun k Γ1 μ1 => ∃ e3, Γ1 = [.bo (TF K T), .bo (vI t), .rp (vI (T.idleUp t k)), e3] ∧ μ1 = [], ⟨_, rfl, rfl⟩, ?_, ?_⟩
    · rintro k Γ1 μ1 hk ⟨e3, rfl, rfl⟩
      have hi := T.idleUp_range t k
      refine tg_name ?_
      repeat nest_cls
      refine ⟨_, _, _, (by pre_facts), ok, by omega, by omega, ?_⟩
      repeat nest_cls
      refine ⟨_, _, _, (by pre_facts), ok, by omega, by omega, ?_⟩
      repeat nest_cls
      refine ⟨fun hb => ?_, fun hb => ?_⟩
      · have hb2 := of_decide_eq_true hb
        repeat nest_cls
        refine ⟨.rp (vI (1 + k)), ?_, rfl⟩
        show _ = [_, _, En.rp (vI (T.idleUp t (k + 1))), _]
        rw [Tar.idleUp, if_pos (by rw [Int.add_comm]; exact hb2), Int.add_comm (k : Int)]
        rfl
      · have hb2 := of_decide_eq_false hb
        repeat nest_cls
        refine ⟨.rp (vI (1 + k)), ?_, rfl⟩
        show _ = [_, _, En.rp (vI (T.idleUp t (k + 1))), _]
        rw [Tar.idleUp, if_neg (by rw [Int.add_comm]; exact hb2)]
        rfl
    · rintro Γ1 μ1 ⟨e3, rfl, rfl⟩
      repeat nest_cls
      have e : ((T.rates.length : Int) + 1 - 1).toNat = T.rates.length := by omega
      rw [e]
      exact hS
end
section
variable {P : Program} {w : World} {K : PySem.W.Frag} {mg : Str → Option Value} {base : Heap}

abbrev nPisbroken : List Str := ["breaks", "first", "second", "moment"]
theorem scPisbroken : FnScope nPisbroken ["breaks", "first", "second"] (defScope sPisbroken) := ⟨rfl, rfl, rfl, by decide +kernel, rfl, by decide +kernel, by decide +kernel⟩
theorem ok_is_broken (C : Ctx K mg)  : OkPisbroken P w K mg base := by
  have sc := scPisbroken
  refine C.fn (i := 6) rfl rfl sc (fun _ _ _ _ _ _ us hl => match us, hl with | [_, _, _], _ => rfl) (len_sp ?len) fun cdv A outer s H vs Q E hr h => ⟨_, (pss_one (ps_ret (pe_callB (cr_any rfl) (by rfl) (C.f 64) (by decide +kernel) (pa_cons (pe_lc (own := [("moment", 3)]) rfl sc.nd (pi_list (pv 0)) (blkOk_by (own := [("moment", 3)]) (N := nPisbroken) (sc := defScope sPisbroken) (by decide +kernel)) (fun _ _ _ _ _ => pg_name (i := 3) sc.nd rfl (Or.inl rfl)) (fun _ _ _ _ _ => pts_nil) (fun _ _ _ _ _ => (pe_chain op_le op_lt (pv 1) (pv 3) (pv 2)))) pa_nil)))), run_sp h ?body⟩
  case len => exact fun A S ⟨br, f, s, hA, hl, hS⟩ => ⟨_, hA, rfl⟩
  case body =>
    refine fun A S ⟨br, f, s, hA, hl, hS⟩ => ⟨_, hA, fun F hF => ?_⟩
    show TSv F [.bo _, .bo _, .bo _, .no] [] _ _
    try simp only [cx_K, cx_K2]
    repeat nest_cls
    refine te_new (tn_fmL (α := Int) ?_)
    repeat nest_cls
    refine ⟨_, br, vI, fun _ => true, fun m => vB (decide (f ≤ m) && decide (m < s)), IsL.b _, by omega, fun m hm L acc => ?_, ?_⟩
    · repeat nest_cls
      refine ⟨rfl, fun _ => ?_⟩
      repeat nest_cls
      refine ⟨fun hb => ?_, fun hb => ?_⟩
      · repeat nest_cls
        show Hld _ [vB (decide (f ≤ m) && decide (m < s))]
        rw [hb]
        exact ⟨rfl, trivial⟩
      · show Hld _ [vB (decide (f ≤ m) && decide (m < s))]
        rw [hb]
        exact ⟨rfl, trivial⟩
    · rw [filt_all]
      repeat nest_cls
      have e : br.map (fun m => vB (decide (f ≤ m) && decide (m < s))) = (br.map fun m => decide (f ≤ m) && decide (m < s)).map vB := by rw [List.map_map]; rfl
      rw [e]
      refine rc_any (by l_intsC) ?_
      rw [List.any_map]
      exact ⟨_, rfl, hS⟩
abbrev nPgapstate : List Str := ["tariff", "prices", "breaks", "first", "second"]
theorem scPgapstate : FnScope nPgapstate ["tariff", "prices", "breaks", "first", "second"] (defScope sPgapstate) := ⟨rfl, rfl, rfl, by decide +kernel, rfl, by decide +kernel, by decide +kernel⟩
theorem ok_gap_state (C : Ctx K mg) (g_is_broken : OkPisbroken P w K mg base) (g_idle_state : OkPidlestate P w K mg base) (g_off : OkPoff P w K mg base) : OkPgapstate P w K mg base := by
  have sc := scPgapstate
  refine C.fn (i := 7) rfl rfl sc (fun _ _ _ _ _ _ us hl => match us, hl with | [_, _, _, _, _], _ => rfl) (len_sp ?len) fun cdv A outer s H vs Q E hr h => ⟨_, (pss_cons (ps_if (pt_val (pe_fn g_is_broken (hr.mono (by decide)) rfl (pa_cons (pv 2) (pa_cons (pv 3) (pa_cons (pv 4) pa_nil))))) (pss_one (ps_ret (pe_fn g_off (hr.mono (by decide)) rfl (pa_cons (pv 0) pa_nil)))) pss_nil) (pss_one (ps_ret (pe_fn g_idle_state (hr.mono (by decide)) rfl (pa_cons (pv 0) (pa_cons (pe_callB (cr_sum rfl) (by rfl) (C.f 76) (by decide +kernel) (pa_cons (pe_slice sl_list (pv 1) (po_some (pe_op op_add (pv 3) pe_int)) (po_some (pv 4))) pa_nil)) pa_nil)))))), run_sp h ?body⟩
  case len => exact fun A S ⟨T, ps, br, f, s, hA, ok, hl, hS⟩ => ⟨_, hA, rfl⟩
  case body =>
    refine fun A S ⟨T, ps, br, f, s, hA, ok, hl, hS⟩ => ⟨_, hA, fun F hF => ?_⟩
    show TSv F [.bo _, .bo _, .bo _, .bo _, .bo _] [] _ _
    try simp only [cx_K, cx_K2]
    repeat nest_cls
    refine ⟨_, _, _, (by pre_facts), hl, ?_⟩
    repeat nest_cls
    refine ⟨fun hb => ?_, fun hb => ?_⟩
    · repeat nest_cls
      refine ⟨_, (by pre_facts), ?_⟩
      repeat nest_cls
      rw [gapState, if_pos hb] at hS
      exact hS
    · repeat nest_cls
      refine te_new (tn_slI ?_)
      repeat nest_cls
      refine ⟨_, ps, sl_b, ?_⟩
      repeat nest_cls
      refine ⟨_, _, (by pre_facts), ok, ?_⟩
      repeat nest_cls
      rw [gapState, if_neg (by rw [hb]; exact Bool.false_ne_true)] at hS
      exact hS
abbrev nPbeforeof : List Str := ["tariff", "breaks", "row", "moment"]
theorem scPbeforeof : FnScope nPbeforeof ["tariff", "breaks", "row", "moment"] (defScope sPbeforeof) := ⟨rfl, rfl, rfl, by decide +kernel, rfl, by decide +kernel, by decide +kernel⟩
theorem ok_before_of (C : Ctx K mg) (g_off : OkPoff P w K mg base) : OkPbeforeof P w K mg base := by
  have sc := scPbeforeof
  refine C.fn (i := 10) rfl rfl sc (fun _ _ _ _ _ _ us hl => match us, hl with | [_, _, _, _], _ => rfl) (len_sp ?len) fun cdv A outer s H vs Q E hr h => ⟨_, (pss_one (ps_ret (pe_ifExp (PW.pt (pw_or (pt_cmpR op_eq (pv 3) pe_int (nomark _)) (pw_or1 (pt_cmpR op_in_seq (pe_op op_sub (pv 3) pe_int) (pv 1) (by rfl))))) (pe_fn g_off (hr.mono (by decide)) rfl (pa_cons (pv 0) pa_nil)) (pe_ix ix_seq (pv 2) (pe_op op_sub (pv 3) pe_int) (fun _ _ => rfl))))), run_sp h ?body⟩
  case len => exact fun A S ⟨T, br, row, k, hA, h0, h1, hS⟩ => ⟨_, hA, rfl⟩
  case body =>
    refine fun A S ⟨T, br, row, k, hA, h0, h1, hS⟩ => ⟨_, hA, fun F hF => ?_⟩
    show TSv F [.bo _, .bo _, .bo _, .bo _] [] _ _
    try simp only [cx_K, cx_K2]
    repeat nest_cls
    refine ⟨fun hb => ?_, fun hb => ?_⟩
    · have hb2 := of_decide_eq_true hb
      repeat nest_cls
      refine ⟨fun _ => ?_, fun z => by cases z⟩
      repeat nest_cls
      refine ⟨_, (by pre_facts), ?_⟩
      repeat nest_cls
      rw [bef, if_pos (Or.inl hb2)] at hS
      exact hS
    · have hb2 := of_decide_eq_false hb
      repeat nest_cls
      refine ⟨fun hc => ?_, fun hc => ?_⟩
      · have hc2 := of_decide_eq_true hc
        repeat nest_cls
        refine ⟨_, (by pre_facts), ?_⟩
        repeat nest_cls
        rw [bef, if_pos (Or.inr hc2)] at hS
        exact hS
      · have hc2 := of_decide_eq_false hc
        repeat nest_cls
        rw [bef, if_neg (fun z => z.elim hb2 hc2)] at hS
        exact hS
end
section
variable {P : Program} {w : World} {K : PySem.W.Frag} {mg : Str → Option Value} {base : Heap}

abbrev nPlanerow : List Str := ["tariff", "prices", "needs", "breaks", "lane", "row", "last", "moment", "need", "state", "between"]
theorem scPlanerow : FnScope nPlanerow ["tariff", "prices", "needs", "breaks", "lane"] (defScope sPlanerow) := ⟨rfl, rfl, rfl, by decide +kernel, rfl, by decide +kernel, by decide +kernel⟩
theorem ok_lane_row (C : Ctx K mg) (g_off : OkPoff P w K mg base) (g_gap_state : OkPgapstate P w K mg base) : OkPlanerow P w K mg base := by
  have sc := scPlanerow
  refine C.fn (i := 8) rfl rfl sc (fun _ _ _ _ _ _ us hl => match us, hl with | [_, _, _, _, _], _ => rfl) (len_sp ?len) fun cdv A outer s H vs Q E hr h => ⟨_, (pss_cons (ps_set (i := 5) sc.nd rfl (Or.inl rfl) (pe_op op_rep (pe_lst (pa_cons (pe_fn g_off (hr.mono (by decide)) rfl (pa_cons (pv 0) pa_nil)) pa_nil)) (pe_callB call_len_seq (by rfl) (C.f 69) PySem.boot_len (pa_cons (pv 1) pa_nil)))) (pss_cons (ps_set (i := 6) sc.nd rfl (Or.inl rfl) pe_non) (pss_cons (ps_for PassesOwn.never rfl (pi_enum (by rfl) (C.f 66) (pa_cons (pv 2) pa_nil)) (pg_tup rfl (pgs_cons (pg_name (i := 7) sc.nd rfl (Or.inl rfl)) (pgs_cons (pg_name (i := 8) sc.nd rfl (Or.inl rfl)) pgs_nil))) (pss_one (ps_if (pt_cmpR op_ge (pv 8) (pv 4) (nomark _)) (pss_cons (ps_asg pe_int (pg_sub (pv 5) (pv 7) set_list)) (pss_cons (ps_if (pt_cmpR op_notN (pv 6) pe_non (nomark _)) (pss_cons (ps_set (i := 9) sc.nd rfl (Or.inl rfl) (pe_fn g_gap_state (hr.mono (by decide)) rfl (pa_cons (pv 0) (pa_cons (pv 1) (pa_cons (pv 3) (pa_cons (pv 6) (pa_cons (pv 7) pa_nil))))))) (pss_one (ps_for PassesOwn.never rfl (pi_range2 (by rfl) (C.f 73) (pa_cons (pe_op op_add (pv 6) pe_int) (pa_cons (pv 7) pa_nil))) (pg_name (i := 10) sc.nd rfl (Or.inl rfl)) (pss_one (ps_asg (pv 9) (pg_sub (pv 5) (pv 10) set_list)))))) pss_nil) (pss_one (ps_set (i := 6) sc.nd rfl (Or.inl rfl) (pv 7))))) pss_nil))) (pss_one (ps_ret (pv 5)))))), run_sp h ?body⟩
  case len => exact fun A S ⟨T, ps, ns, br, lane, hA, ok, rok, hS⟩ => ⟨_, hA, rfl⟩
  case body =>
    refine fun A S ⟨T, ps, ns, br, lane, hA, ok, rok, hS⟩ => ⟨_, hA, fun F hF => ?_⟩
    show TSv F [.bo _, .bo _, .bo _, .bo _, .bo _, .no, .no, .no, .no, .no, .no] [] _ _
    try simp only [cx_K, cx_K2]
    have hpl := rok.few
    have hnl := rok.len
    have hbl := rok.bf
    refine ts_seq (ts_setN (tn_op (te_new (tn_lst ?_))))
    repeat nest_cls
    refine ⟨_, (by pre_facts), ?_⟩
    repeat nest_cls
    refine rn_rep (by omega) (by omega) ?_
    intro l
    repeat nest_cls
    refine ts_forE ?_
    repeat nest_cls
    refine ⟨_, _, _, rfl, IsL.b _, fun k Γ1 μ1 => ∃ e7 e8 e9 e10, Γ1 = [.bo (TF K T), .bo (IL ps), .bo (IL ns), .bo (IL br), .bo (vI lane), .ow l, .rp (vM (laneUp T ps ns br lane k).2), e7, e8, e9, e10] ∧ μ1 = [(l, obL ((laneUp T ps ns br lane k).1.map vI))], ?_, ?_, ?_⟩
    · refine ⟨.no, .no, .no, .no, rfl, ?_⟩
      show _ = [(l, obL ((List.replicate ps.length (T.rates.length : Int)).map vI))]
      rw [List.map_replicate, Int.toNat_natCast]
    · rintro k Γ1 μ1 P hP ⟨e7, e8, e9, e10, rfl, rfl⟩
      obtain ⟨hk, rfl⟩ := at_map hP
      have hrl := laneUp_length T ps ns br lane k
      repeat nest_cls
      refine ⟨fun hb => ?_, fun hb => ?_⟩
      · have hb2 := of_decide_eq_true hb
        repeat nest_cls
        refine ts_item (i := 5) (j := 0) (by with_unfolding_all rfl) (by with_unfolding_all rfl) ?_
        repeat nest_cls
        refine ⟨_, k, rfl, ixn_nat (by rw [List.length_map]; omega), ?_⟩
        show TSv F _ [(l, obL (((laneUp T ps ns br lane k).1.map vI).set k (vI 0)))] _ _
        rw [← List.map_set]
        cases hl : (laneUp T ps ns br lane k).2 with
        | none =>
          simp only [vM_none]
          repeat nest_cls
          refine ⟨fun z => (by cases z), fun _ => ?_⟩
          repeat nest_cls
          refine ⟨.rp (vI k), .bo (vI (gi ns k)), e9, e10, ?_, ?_⟩
          · rw [laneUp_new hb2 hl]
            rfl
          · rw [laneUp_new hb2 hl]
        | some l0 =>
          have hlt := laneUp_last T ps ns br lane k l0 hl
          simp only [vM_some]
          repeat nest_cls
          refine ⟨fun _ => ?_, fun z => (by cases z)⟩
          repeat nest_cls
          refine ⟨_, _, _, _, _, (by pre_facts), ok, hbl, ?_⟩
          repeat nest_cls
          refine ts_forR2 ?_
          repeat nest_cls
          refine ⟨_, _, rfl, by omega, by omega, by omega, by omega, fun j Γ1 μ1 => ∃ e10, Γ1 = [.bo (TF K T), .bo (IL ps), .bo (IL ns), .bo (IL br), .bo (vI lane), .ow l, .rp (vI (l0 : Nat)), .rp (vI k), .bo (vI (gi ns k)), .rp (vI (gapState T ps br l0 k)), e10] ∧ μ1 = [(l, obL ((fill ((laneUp T ps ns br lane k).1.set k 0) (l0 + 1) ((l0 + 1) + j) (gapState T ps br l0 k)).map vI))], ?_, ?_, ?_⟩
          · refine ⟨_, rfl, ?_⟩
            rw [Nat.add_zero, fill_nil]
          · rintro j Γ1 μ1 hj ⟨e10, rfl, rfl⟩
            refine tg_name ?_
            refine ts_item (i := 5) (j := 0) (by with_unfolding_all rfl) (by with_unfolding_all rfl) ?_
            repeat nest_cls
            refine ⟨_, l0 + 1 + j, rfl, ?_, ?_⟩
            · have e : ((l0 : Int) + 1 + (j : Int)) = ((l0 + 1 + j : Nat) : Int) := by omega
              rw [e]
              exact ixn_nat (by rw [List.length_map, fill_length, List.length_set]; omega)
            · refine ⟨_, rfl, ?_⟩
              show [(l, obL ((List.map vI _).set (l0 + 1 + j) _))] = _
              rw [← List.map_set, ← fill_step _ _ _ _ (by rw [List.length_set]; omega)]
          · rintro Γ1 μ1 ⟨e10, rfl, rfl⟩
            repeat nest_cls
            have e : l0 + 1 + ((k : Int) - ((l0 : Int) + 1)).toNat = k := by omega
            refine ⟨.rp (vI k), .bo (vI (gi ns k)), .rp (vI (gapState T ps br l0 k)), e10, ?_, ?_⟩
            · rw [laneUp_go hb2 hl]
              rfl
            · rw [laneUp_go hb2 hl, e]
      · have hb2 := of_decide_eq_false hb
        repeat nest_cls
        refine ⟨.rp (vI k), .bo (vI (gi ns k)), e9, e10, ?_, ?_⟩
        · rw [laneUp_no hb2]
          rfl
        · rw [laneUp_no hb2]
    · rintro Γ1 μ1 ⟨e7, e8, e9, e10, rfl, rfl⟩
      show TSv F _ _ _ _
      refine ts_retO (i := 5) (j := 0) (by with_unfolding_all rfl) (by with_unfolding_all rfl) ?_
      rw [List.length_map]
      exact hS
end
section
variable {P : Program} {w : World} {K : PySem.W.Frag} {mg : Str → Option Value} {base : Heap}

abbrev nProwcost : List Str := ["tariff", "prices", "breaks", "row", "total", "moment", "state"]
theorem scProwcost : FnScope nProwcost ["tariff", "prices", "breaks", "row"] (defScope sProwcost) := ⟨rfl, rfl, rfl, by decide +kernel, rfl, by decide +kernel, by decide +kernel⟩
theorem ok_row_cost (C : Ctx K mg) (g_step_cost : OkPstepcost P w K mg base) (g_rate : OkPrate P w K mg base) (g_before_of : OkPbeforeof P w K mg base) : OkProwcost P w K mg base := by
  have sc := scProwcost
  refine C.fn (i := 13) rfl rfl sc (fun _ _ _ _ _ _ us hl => match us, hl with | [_, _, _, _], _ => rfl) (len_sp ?len) fun cdv A outer s H vs Q E hr h => ⟨_, (pss_cons (ps_set (i := 4) sc.nd rfl (Or.inl rfl) pe_int) (pss_cons (ps_for PassesOwn.never rfl (pi_enum (by rfl) (C.f 66) (pa_cons (pv 3) pa_nil)) (pg_tup rfl (pgs_cons (pg_name (i := 5) sc.nd rfl (Or.inl rfl)) (pgs_cons (pg_name (i := 6) sc.nd rfl (Or.inl rfl)) pgs_nil))) (pss_cons (ps_aug (i := 4) sc.nd rfl (Or.inl rfl) (pe_op op_mul (pe_fn g_rate (hr.mono (by decide)) rfl (pa_cons (pv 0) (pa_cons (pv 6) pa_nil))) (pe_ix ix_seq (pv 1) (pv 5) (fun _ _ => rfl))) ip_add) (pss_one (ps_aug (i := 4) sc.nd rfl (Or.inl rfl) (pe_fn g_step_cost (hr.mono (by decide)) rfl (pa_cons (pv 0) (pa_cons (pe_fn g_before_of (hr.mono (by decide)) rfl (pa_cons (pv 0) (pa_cons (pv 2) (pa_cons (pv 3) (pa_cons (pv 5) pa_nil))))) (pa_cons (pv 6) pa_nil)))) ip_add)))) (pss_one (ps_ret (pv 4))))), run_sp h ?body⟩
  case len => exact fun A S ⟨T, ps, br, row, hA, ok, ⟨rl, rk⟩, hS⟩ => ⟨_, hA, rfl⟩
  case body =>
    refine fun A S ⟨T, ps, br, row, hA, ok, ⟨rl, rk⟩, hS⟩ => ⟨_, hA, fun F hF => ?_⟩
    show TSv F [.bo _, .bo _, .bo _, .bo _, .no, .no, .no] [] _ _
    try simp only [cx_K, cx_K2]
    repeat nest_cls
    refine ts_forE ?_
    repeat nest_cls
    refine ⟨_, _, _, rfl, IsL.b _, fun k Γ1 μ1 => ∃ e5 e6, Γ1 = [.bo (TF K T), .bo (IL ps), .bo (IL br), .bo (IL row), .rp (vI (rowCostUp T ps br row k)), e5, e6] ∧ μ1 = [], ⟨_, _, rfl, rfl⟩, ?_, ?_⟩
    · rintro k Γ1 μ1 P hP ⟨e5, e6, rfl, rfl⟩
      obtain ⟨hk, rfl⟩ := at_map hP
      obtain ⟨h0, h1, h2⟩ := rk k (by omega)
      have hr := ok.rate h0 h1
      repeat nest_cls
      refine ⟨_, _, (by pre_facts), h0, h1, ?_⟩
      repeat nest_cls
      refine ⟨_, _, _, _, (by pre_facts), by omega, by omega, ?_⟩
      repeat nest_cls
      have hb : bef T br row k ≤ (T.rates.length : Int) := by
        unfold bef
        split
        · omega
        · rename_i hf
          have hk0 : k ≠ 0 := fun z => hf (Or.inl (by omega))
          have e : (k : Int) - 1 = ((k - 1 : Nat) : Int) := by omega
          rw [e]
          exact (rk (k - 1) (by omega)).2.1
      refine ⟨_, _, _, (by pre_facts), ok, h0, hb, ?_⟩
      cases hs : T.step (bef T br row k) (gi row k) with
      | none => exact absurd hs h2
      | some c =>
        refine ⟨c, rfl, .rp (vI k), .bo (vI (gi row k)), ?_, rfl⟩
        show _ = [_, _, _, _, En.rp (vI (rowCostUp T ps br row (k + 1))), _, _]
        rw [rowCostUp, hs]
        rfl
    · rintro Γ1 μ1 ⟨e5, e6, rfl, rfl⟩
      repeat nest_cls
      rw [List.length_map]
      exact hS
abbrev nPplancost : List Str := ["tariff", "prices", "breaks", "plan", "row"]
theorem scPplancost : FnScope nPplancost ["tariff", "prices", "breaks", "plan"] (defScope sPplancost) := ⟨rfl, rfl, rfl, by decide +kernel, rfl, by decide +kernel, by decide +kernel⟩
theorem ok_plan_cost (C : Ctx K mg) (g_row_cost : OkProwcost P w K mg base) : OkPplancost P w K mg base := by
  have sc := scPplancost
  refine C.fn (i := 14) rfl rfl sc (fun _ _ _ _ _ _ us hl => match us, hl with | [_, _, _, _], _ => rfl) (len_sp ?len) fun cdv A outer s H vs Q E hr h => ⟨_, (pss_one (ps_ret (pe_callB (cr_sum rfl) (by rfl) (C.f 76) (by decide +kernel) (pa_cons (pe_lc (own := [("row", 4)]) rfl sc.nd (pi_list (pv 3)) (blkOk_by (own := [("row", 4)]) (N := nPplancost) (sc := defScope sPplancost) (by decide +kernel)) (fun _ _ _ _ _ => pg_name (i := 4) sc.nd rfl (Or.inl rfl)) (fun _ _ _ _ _ => pts_nil) (fun _ _ _ _ _ => (pe_fn g_row_cost (hr.mono (by decide)) rfl (pa_cons (pv 0) (pa_cons (pv 1) (pa_cons (pv 2) (pa_cons (pv 4) pa_nil))))))) pa_nil)))), run_sp h ?body⟩
  case len => exact fun A S ⟨T, ps, br, pl, hA, ok, rk, hl, hS⟩ => ⟨_, hA, rfl⟩
  case body =>
    refine fun A S ⟨T, ps, br, pl, hA, ok, rk, hl, hS⟩ => ⟨_, hA, fun F hF => ?_⟩
    show TSv F [.bo _, .bo _, .bo _, .bo _, .no] [] _ _
    try simp only [cx_K, cx_K2]
    repeat nest_cls
    refine te_new (tn_fmL (α := List Int) ?_)
    repeat nest_cls
    refine ⟨_, pl, IL, fun _ => true, fun row => vI (rowCost T ps br row), IsL.b _, by omega, fun row hm L acc => ?_, ?_⟩
    · repeat nest_cls
      refine ⟨rfl, fun _ => ?_⟩
      repeat nest_cls
      refine ⟨_, _, _, _, (by pre_facts), ok, rk row hm, rfl, trivial⟩
    · rw [filt_all]
      repeat nest_cls
      have e : pl.map (fun row => vI (rowCost T ps br row)) = (pl.map (rowCost T ps br)).map vI := by rw [List.map_map]; rfl
      rw [e]
      repeat nest_cls
      exact hS
end
section
variable {P : Program} {w : World} {K : PySem.W.Frag} {mg : Str → Option Value} {base : Heap}

abbrev nPisrow : List Str := ["tariff", "breaks", "row", "size", "moment", "state"]
theorem scPisrow : FnScope nPisrow ["tariff", "breaks", "row", "size"] (defScope sPisrow) := ⟨rfl, rfl, rfl, by decide +kernel, rfl, by decide +kernel, by decide +kernel⟩
theorem ok_is_row (C : Ctx K mg) (g_step_cost : OkPstepcost P w K mg base) (g_off : OkPoff P w K mg base) (g_before_of : OkPbeforeof P w K mg base) : OkPisrow P w K mg base := by
  have sc := scPisrow
  refine C.fn (i := 11) rfl rfl sc (fun _ _ _ _ _ _ us hl => match us, hl with | [_, _, _, _], _ => rfl) (len_sp ?len) fun cdv A outer s H vs Q E hr h => ⟨_, (pss_cons (ps_if (pt_cmpR op_ne (pe_callB call_len_seq (by rfl) (C.f 69) PySem.boot_len (pa_cons (pv 2) pa_nil)) (pv 3) (nomark _)) (pss_one (ps_ret pe_bl)) pss_nil) (pss_cons (ps_for PassesOwn.never rfl (pi_enum (by rfl) (C.f 66) (pa_cons (pv 2) pa_nil)) (pg_tup rfl (pgs_cons (pg_name (i := 4) sc.nd rfl (Or.inl rfl)) (pgs_cons (pg_name (i := 5) sc.nd rfl (Or.inl rfl)) pgs_nil))) (pss_cons (ps_if (PW.pt (pw_or (pt_cmpR op_lt (pv 5) pe_int (nomark _)) (pw_or1 (pt_cmpR op_gt (pv 5) (pe_fn g_off (hr.mono (by decide)) rfl (pa_cons (pv 0) pa_nil)) (nomark _))))) (pss_one (ps_ret pe_bl)) pss_nil) (pss_one (ps_if (pt_cmpR op_isN (pe_fn g_step_cost (hr.mono (by decide)) rfl (pa_cons (pv 0) (pa_cons (pe_fn g_before_of (hr.mono (by decide)) rfl (pa_cons (pv 0) (pa_cons (pv 1) (pa_cons (pv 2) (pa_cons (pv 4) pa_nil))))) (pa_cons (pv 5) pa_nil)))) pe_non (nomark _)) (pss_one (ps_ret pe_bl)) pss_nil)))) (pss_one (ps_ret pe_bl)))), run_sp h ?body⟩
  case len => exact fun A S ⟨T, br, row, m, hA, ok, hS⟩ => ⟨_, hA, rfl⟩
  case body =>
    refine fun A S ⟨T, br, row, m, hA, ok, hS⟩ => ⟨_, hA, fun F hF => ?_⟩
    show TSv F [.bo _, .bo _, .bo _, .bo _, .no, .no] [] _ _
    try simp only [cx_K, cx_K2]
    have ft : ¬ RowOk T br row m → S (vB false) := fun h => hS false ⟨fun z => (nomatch z), fun z => absurd z h⟩
    repeat nest_cls
    refine ⟨fun hb => ?_, fun hb => ?_⟩
    · repeat nest_cls
      refine ft fun r => ?_
      have e := r.1
      rw [e] at hb
      simp at hb
    · have hlen : row.length = m := by
        have h2 := hb
        simp only [Bool.not_eq_false', decide_eq_true_eq] at h2
        omega
      repeat nest_cls
      refine ts_forE ?_
      repeat nest_cls
      refine ⟨_, _, _, rfl, IsL.b _, fun k Γ1 μ1 => (∃ e4 e5, Γ1 = [.bo (TF K T), .bo (IL br), .bo (IL row), .bo (vI m), e4, e5] ∧ μ1 = []) ∧ ∀ j : Nat, j < k → StOk T br row j, ⟨⟨_, _, rfl, rfl⟩, fun j hj => absurd hj (Nat.not_lt_zero j)⟩, ?_, ?_⟩
      · rintro k Γ1 μ1 P hP ⟨⟨e4, e5, rfl, rfl⟩, hk⟩
        obtain ⟨hkl, rfl⟩ := at_map hP
        have bad : ¬ StOk T br row k → S (vB false) := fun h => ft fun r => h (r.2 k (by omega))
        repeat nest_cls
        refine ⟨fun hb1 => ?_, fun hb1 => ?_⟩
        · repeat nest_cls
          refine ⟨fun _ => ?_, fun z => (nomatch z)⟩
          repeat nest_cls
          exact bad fun r => by
            have := r.1
            have := of_decide_eq_true hb1
            omega
        · have h0 := of_decide_eq_false hb1
          repeat nest_cls
          refine ⟨_, (by pre_facts), ?_⟩
          repeat nest_cls
          refine ⟨fun hb2 => ?_, fun hb2 => ?_⟩
          · repeat nest_cls
            exact bad fun r => by
              have := r.2.1
              have := of_decide_eq_true hb2
              omega
          · have h1 := of_decide_eq_false hb2
            repeat nest_cls
            refine ⟨_, _, _, _, (by pre_facts), by omega, by omega, ?_⟩
            repeat nest_cls
            have hb : bef T br row k ≤ (T.rates.length : Int) := by
              unfold bef
              split
              · omega
              · rename_i hf
                have hk0 : k ≠ 0 := fun z => hf (Or.inl (by omega))
                have e : (k : Int) - 1 = ((k - 1 : Nat) : Int) := by omega
                rw [e]
                exact (hk (k - 1) (by omega)).2.1
            refine ⟨_, _, _, (by pre_facts), ok, by omega, hb, ?_⟩
            cases hs : T.step (bef T br row k) (gi row k) with
            | none =>
              simp only [vO_none]
              repeat nest_cls
              refine ⟨fun _ => ?_, fun z => (nomatch z)⟩
              repeat nest_cls
              exact bad fun r => r.2.2 hs
            | some c =>
              simp only [vO_some]
              repeat nest_cls
              refine ⟨fun z => (nomatch z), fun _ => ?_⟩
              repeat nest_cls
              refine ⟨⟨.rp (vI k), .bo (vI (gi row k)), rfl, rfl⟩, fun j hj => ?_⟩
              rcases Nat.lt_succ_iff_lt_or_eq.mp hj with h | h
              · exact hk j h
              · subst h
                exact ⟨by omega, by omega, by rw [hs]; exact fun z => (nomatch z)⟩
      · rintro Γ1 μ1 ⟨⟨e4, e5, rfl, rfl⟩, hk⟩
        repeat nest_cls
        refine hS true ⟨fun _ => ⟨hlen, fun k hkm => hk k (by rw [List.length_map]; omega)⟩, fun _ => rfl⟩
abbrev nPfits : List Str := ["tariff", "prices", "needs", "breaks", "plan", "row", "moment", "need"]
theorem scPfits : FnScope nPfits ["tariff", "prices", "needs", "breaks", "plan"] (defScope sPfits) := ⟨rfl, rfl, rfl, by decide +kernel, rfl, by decide +kernel, by decide +kernel⟩
theorem ok_fits (C : Ctx K mg) (g_is_row : OkPisrow P w K mg base) : OkPfits P w K mg base := by
  have sc := scPfits
  refine C.fn (i := 12) rfl rfl sc (fun _ _ _ _ _ _ us hl => match us, hl with | [_, _, _, _, _], _ => rfl) (len_sp ?len) fun cdv A outer s H vs Q E hr h => ⟨_, (pss_cons (ps_for PassesOwn.never rfl (pi_list (pv 4)) (pg_name (i := 5) sc.nd rfl (Or.inl rfl)) (pss_one (ps_if (pt_not (pt_val (pe_fn g_is_row (hr.mono (by decide)) rfl (pa_cons (pv 0) (pa_cons (pv 3) (pa_cons (pv 5) (pa_cons (pe_callB call_len_seq (by rfl) (C.f 69) PySem.boot_len (pa_cons (pv 1) pa_nil)) pa_nil))))))) (pss_one (ps_ret pe_bl)) pss_nil))) (pss_cons (ps_for PassesOwn.never rfl (pi_enum (by rfl) (C.f 66) (pa_cons (pv 2) pa_nil)) (pg_tup rfl (pgs_cons (pg_name (i := 6) sc.nd rfl (Or.inr rfl)) (pgs_cons (pg_name (i := 7) sc.nd rfl (Or.inl rfl)) pgs_nil))) (pss_one (ps_if (pt_cmpR op_lt (pe_callB call_len_seq (by rfl) (C.f 69) PySem.boot_len (pa_cons (pe_lc (own := [("row", 5)]) rfl sc.nd (pi_list (pv 4)) (blkOk_by (own := [("row", 5)]) (N := nPfits) (sc := defScope sPfits) (by decide +kernel)) (fun _ _ _ _ _ => pg_name (i := 5) sc.nd rfl (Or.inl rfl)) (fun _ _ _ _ _ => pts_one (pt_cmpR op_eq (pe_ix (show IxR _ (rIx K) from ix_seq) (pv 5) (pv 6) (fun _ _ => rfl)) pe_int (nomark _))) (fun _ _ _ _ _ => (pv 5))) pa_nil)) (pv 7) (nomark _)) (pss_one (ps_ret pe_bl)) pss_nil))) (pss_one (ps_ret pe_bl)))), run_sp h ?body⟩
  case len => exact fun A S ⟨T, ps, ns, br, pl, hA, ok, rok, hpl, hS⟩ => ⟨_, hA, rfl⟩
  case body =>
    refine fun A S ⟨T, ps, ns, br, pl, hA, ok, rok, hpl, hS⟩ => ⟨_, hA, fun F hF => ?_⟩
    show TSv F [.bo _, .bo _, .bo _, .bo _, .bo _, .no, .no, .no] [] _ _
    try simp only [cx_K, cx_K2]
    have ft : ¬ Fits T ps.length ns br pl → S (vB false) := fun h => hS false ⟨fun z => (nomatch z), fun z => absurd z h⟩
    have hnl := rok.len
    repeat nest_cls
    refine ts_forL ?_
    repeat nest_cls
    refine ⟨_, _, IsL.b _, fun k Γ1 μ1 => (∃ e5, Γ1 = [.bo (TF K T), .bo (IL ps), .bo (IL ns), .bo (IL br), .bo (ILL pl), e5, .no, .no] ∧ μ1 = []) ∧ ∀ (j : Nat) row, j < k → pl[j]? = some row → RowOk T br row ps.length, ⟨⟨_, rfl, rfl⟩, fun j _ hj => absurd hj (Nat.not_lt_zero j)⟩, ?_, ?_⟩
    · rintro k Γ1 μ1 P hP ⟨⟨e5, rfl, rfl⟩, hk⟩
      obtain ⟨row, hrow, rfl⟩ := at_mapF hP
      refine tg_name ?_
      repeat nest_cls
      refine ⟨_, _, _, _, (by pre_facts), ok, fun b hb => ?_⟩
      repeat nest_cls
      refine ⟨fun hb1 => ?_, fun hb1 => ?_⟩
      · repeat nest_cls
        refine ft fun f => ?_
        have := hb.mpr (f.1 row (List.mem_of_getElem? hrow))
        rw [this] at hb1
        cases hb1
      · repeat nest_cls
        refine ⟨⟨.bo (IL row), rfl, rfl⟩, fun j r hj hr => ?_⟩
        rcases Nat.lt_succ_iff_lt_or_eq.mp hj with h | h
        · exact hk j r h hr
        · subst h
          rw [hrow] at hr
          cases hr
          refine hb.mp ?_
          cases b with
          | true => rfl
          | false => cases hb1
    · rintro Γ1 μ1 ⟨⟨e5, rfl, rfl⟩, hk⟩
      have rk : ∀ row, row ∈ pl → RowOk T br row ps.length := fun row hm => by
        obtain ⟨j, hj⟩ := List.mem_iff_getElem?.mp hm
        exact hk j row (by rw [List.length_map]; exact (List.getElem?_eq_some_iff.mp hj).1) hj
      repeat nest_cls
      refine ts_forE ?_
      repeat nest_cls
      refine ⟨_, _, _, rfl, IsL.b _, fun k Γ1 μ1 => (∃ e6 e7, Γ1 = [.bo (TF K T), .bo (IL ps), .bo (IL ns), .bo (IL br), .bo (ILL pl), e5, e6, e7] ∧ μ1 = []) ∧ ∀ j : Nat, j < k → gi ns j ≤ hotN pl j, ⟨⟨_, _, rfl, rfl⟩, fun j hj => absurd hj (Nat.not_lt_zero j)⟩, ?_, ?_⟩
      · rintro k Γ1 μ1 P hP ⟨⟨e6, e7, rfl, rfl⟩, hk2⟩
        obtain ⟨hkl, rfl⟩ := at_map hP
        repeat nest_cls
        refine te_new (tn_fmL (α := List Int) ?_)
        repeat nest_cls
        refine ⟨_, pl, IL, fun row => decide (gi row k = 0), fun _ => vAny, IsL.b _, by omega, fun row hm L acc => ?_, ?_⟩
        · have hrl := (rk row hm).1
          repeat nest_cls
          refine ⟨rfl, fun _ => ?_⟩
          repeat nest_cls
          exact ⟨rfl, trivial⟩
        · repeat nest_cls
          refine ⟨fun hb1 => ?_, fun hb1 => ?_⟩
          · repeat nest_cls
            refine ft fun f => ?_
            have h1 := f.2 k hkl
            have h2 := of_decide_eq_true hb1
            rw [List.length_map] at h2
            unfold hotN at h1
            omega
          · repeat nest_cls
            refine ⟨⟨.rp (vI k), .bo (vI (gi ns k)), rfl, rfl⟩, fun j hj => ?_⟩
            rcases Nat.lt_succ_iff_lt_or_eq.mp hj with h | h
            · exact hk2 j h
            · subst h
              have h2 := of_decide_eq_false hb1
              rw [List.length_map] at h2
              unfold hotN
              omega
      · rintro Γ1 μ1 ⟨⟨e6, e7, rfl, rfl⟩, hk2⟩
        repeat nest_cls
        exact hS true ⟨fun _ => ⟨rk, fun k hk3 => hk2 k (by rw [List.length_map]; exact hk3)⟩, fun _ => rfl⟩
end
section
variable {P : Program} {w : World} {K : PySem.W.Frag} {mg : Str → Option Value} {base : Heap}

abbrev nPcheapest : List Str := ["tariff", "prices", "needs", "breaks", "lane"]
theorem scPcheapest : FnScope nPcheapest ["tariff", "prices", "needs", "breaks"] (defScope sPcheapest) := ⟨rfl, rfl, rfl, by decide +kernel, rfl, by decide +kernel, by decide +kernel⟩
theorem ok_cheapest (C : Ctx K mg) (g_lane_row : OkPlanerow P w K mg base) : OkPcheapest P w K mg base := by
  have sc := scPcheapest
  refine C.fn (i := 9) rfl rfl sc (fun _ _ _ _ _ _ us hl => match us, hl with | [_, _, _, _], _ => rfl) (len_sp ?len) fun cdv A outer s H vs Q E hr h => ⟨_, (pss_one (ps_ret (pe_lc (own := [("lane", 4)]) rfl sc.nd (pi_range1 rfl (C.f 73) (pa_cons (pe_callBK (cr_maxD rfl) (by rfl) (C.f 71) (by decide +kernel) (pa_cons (pv 2) pa_nil) (pk_cons pe_int pk_nil)) pa_nil)) (blkOk_by (own := [("lane", 4)]) (N := nPcheapest) (sc := defScope sPcheapest) (by decide +kernel)) (fun _ _ _ _ _ => pg_name (i := 4) sc.nd rfl (Or.inl rfl)) (fun _ _ _ _ _ => pts_nil) (fun _ _ _ _ _ => (pe_fn g_lane_row (hr.mono (by decide)) rfl (pa_cons (pv 0) (pa_cons (pv 1) (pa_cons (pv 2) (pa_cons (pv 3) (pa_cons (pe_op op_add (pv 4) pe_int) pa_nil)))))))))), run_sp h ?body⟩
  case len => exact fun A S ⟨T, ps, ns, br, hA, ok, rok, hS⟩ => ⟨_, hA, rfl⟩
  case body =>
    refine fun A S ⟨T, ps, ns, br, hA, ok, rok, hS⟩ => ⟨_, hA, fun F hF => ?_⟩
    show TSv F [.bo _, .bo _, .bo _, .bo _, .no] [] _ _
    try simp only [cx_K, cx_K2]
    have hmx := rok.mx
    repeat nest_cls
    refine te_new (tn_fmR ?_)
    repeat nest_cls
    refine rck_maxD (by l_intsC) fun m hm => ?_
    have em := maxN_is rok.nn hm
    repeat nest_cls
    refine ⟨m, fun _ => true, fun n => IL (laneRow T ps ns br ((n : Int) + 1)), rfl, by omega, by omega, fun n hn L acc => ?_, ?_⟩
    · repeat nest_cls
      refine ⟨rfl, fun _ => ?_⟩
      repeat nest_cls
      exact ⟨_, _, _, _, _, (by pre_facts), ok, rok, rfl, trivial⟩
    · refine ⟨_, rfl, ?_⟩
      rw [filt_all, em]
      have e : chPlan T ps ns br = (List.range (maxN ns).toNat).map fun (l : Nat) => laneRow T ps ns br ((l : Int) + 1) := rfl
      rw [e] at hS
      show S (LS _)
      have e2 : ((List.range (maxN ns).toNat).map fun (l : Nat) => laneRow T ps ns br ((l : Int) + 1)).map IL = (List.range (maxN ns).toNat).map fun (n : Nat) => IL (laneRow T ps ns br ((n : Int) + 1)) := by rw [List.map_map]; rfl
      rw [← e2]
      exact hS
end
section
variable {P : Program} {w : World} {K : PySem.W.Frag} {mg : Str → Option Value} {base : Heap}

abbrev nPplaceafter : List Str := ["tariff", "moment", "state"]
theorem scPplaceafter : FnScope nPplaceafter ["tariff", "moment", "state"] (defScope sPplaceafter) := ⟨rfl, rfl, rfl, by decide +kernel, rfl, by decide +kernel, by decide +kernel⟩
theorem ok_place_after (C : Ctx K mg) (g_off : OkPoff P w K mg base) : OkPplaceafter P w K mg base := by
  have sc := scPplaceafter
  refine C.fn (i := 15) rfl rfl sc (fun _ _ _ _ _ _ us hl => match us, hl with | [_, _, _], _ => rfl) (len_sp ?len) fun cdv A outer s H vs Q E hr h => ⟨_, (pss_cons (ps_if (pt_cmpR op_eq (pv 2) (pe_fn g_off (hr.mono (by decide)) rfl (pa_cons (pv 0) pa_nil)) (nomark _)) (pss_one (ps_ret (pe_glob (v := .ref (He.ga K "GROUND")) rfl (C.g 62) rfl))) pss_nil) (pss_one (ps_ret (pe_ifExp (pt_cmpR op_eq (pv 2) pe_int (nomark _)) (pe_tup (pa_cons pe_str (pa_cons (pv 1) (pa_cons pe_int pa_nil)))) (pe_tup (pa_cons pe_str (pa_cons (pv 1) (pa_cons (pv 2) pa_nil)))))))), run_sp h ?body⟩
  case len => exact fun A S ⟨T, t, s, hA, hS⟩ => ⟨_, hA, rfl⟩
  case body =>
    refine fun A S ⟨T, t, s, hA, hS⟩ => ⟨_, hA, fun F hF => ?_⟩
    show TSv F [.bo _, .bo _, .bo _] [] _ _
    try simp only [cx_K, cx_K2]
    repeat nest_cls
    refine ⟨_, (by pre_facts), ?_⟩
    repeat nest_cls
    refine ⟨fun hb => ?_, fun hb => ?_⟩
    · repeat nest_cls
      rw [plAfter, if_pos (of_decide_eq_true hb)] at hS
      exact hS
    · rw [plAfter, if_neg (of_decide_eq_false hb)] at hS
      repeat nest_cls
      refine ⟨fun hc => ?_, fun hc => ?_⟩
      · rw [if_pos (of_decide_eq_true hc)] at hS
        repeat nest_cls
        exact hS
      · rw [if_neg (of_decide_eq_false hc)] at hS
        repeat nest_cls
        exact hS
abbrev nPisfresh : List Str := ["breaks", "moment"]
theorem scPisfresh : FnScope nPisfresh ["breaks", "moment"] (defScope sPisfresh) := ⟨rfl, rfl, rfl, by decide +kernel, rfl, by decide +kernel, by decide +kernel⟩
theorem ok_is_fresh (C : Ctx K mg)  : OkPisfresh P w K mg base := by
  have sc := scPisfresh
  refine C.fn (i := 16) rfl rfl sc (fun _ _ _ _ _ _ us hl => match us, hl with | [_, _], _ => rfl) (len_sp ?len) fun cdv A outer s H vs Q E hr h => ⟨_, (pss_one (ps_ret (pe_or (pe_cmpR op_eq (pv 1) pe_int (nomark _)) (pe_one (pe_cmpR op_in_seq (pe_op op_sub (pv 1) pe_int) (pv 0) (by rfl)))))), run_sp h ?body⟩
  case len => exact fun A S ⟨br, k, hA, hS⟩ => ⟨_, hA, rfl⟩
  case body =>
    refine fun A S ⟨br, k, hA, hS⟩ => ⟨_, hA, fun F hF => ?_⟩
    show TSv F [.bo _, .bo _] [] _ _
    try simp only [cx_K, cx_K2]
    repeat nest_cls
    refine ⟨fun hb => ?_, fun hb => ?_⟩
    · refine ⟨_, rfl, ?_⟩
      have e : decide (Fresh br k) = true := decide_eq_true (.inl (of_decide_eq_true hb))
      rw [e] at hS
      exact hS
    · have hn := of_decide_eq_false hb
      repeat nest_cls
      have e : decide (Fresh br k) = decide (k - 1 ∈ br) := by
        by_cases h : k - 1 ∈ br
        · rw [decide_eq_true h, decide_eq_true (Or.inr h)]
        · rw [decide_eq_false h, decide_eq_false (fun z => z.elim hn h)]
      rw [e] at hS
      exact hS
abbrev nPstatesin : List Str := ["tariff", "breaks", "moment"]
theorem scPstatesin : FnScope nPstatesin ["tariff", "breaks", "moment"] (defScope sPstatesin) := ⟨rfl, rfl, rfl, by decide +kernel, rfl, by decide +kernel, by decide +kernel⟩
theorem ok_states_in (C : Ctx K mg) (g_is_fresh : OkPisfresh P w K mg base) (g_off : OkPoff P w K mg base) : OkPstatesin P w K mg base := by
  have sc := scPstatesin
  refine C.fn (i := 17) rfl rfl sc (fun _ _ _ _ _ _ us hl => match us, hl with | [_, _, _], _ => rfl) (len_sp ?len) fun cdv A outer s H vs Q E hr h => ⟨_, (pss_cons (ps_if (pt_val (pe_fn g_is_fresh (hr.mono (by decide)) rfl (pa_cons (pv 1) (pa_cons (pv 2) pa_nil)))) (pss_one (ps_ret (pe_lst (pa_cons pe_int (pa_cons (pe_fn g_off (hr.mono (by decide)) rfl (pa_cons (pv 0) pa_nil)) pa_nil))))) pss_nil) (pss_one (ps_ret (pe_listRg rfl rfl (C.f 70) (prg_1 rfl (C.f 73) (pe_op op_add (pe_fn g_off (hr.mono (by decide)) rfl (pa_cons (pv 0) pa_nil)) pe_int)))))), run_sp h ?body⟩
  case len => exact fun A S ⟨T, br, k, hA, ok, hS⟩ => ⟨_, hA, rfl⟩
  case body =>
    refine fun A S ⟨T, br, k, hA, ok, hS⟩ => ⟨_, hA, fun F hF => ?_⟩
    show TSv F [.bo _, .bo _, .bo _] [] _ _
    try simp only [cx_K, cx_K2]
    have hle := ok.le
    repeat nest_cls
    refine ⟨_, _, (by pre_facts), ?_⟩
    repeat nest_cls
    refine ⟨fun hb => ?_, fun hb => ?_⟩
    · rw [statesIn, if_pos (of_decide_eq_true hb)] at hS
      repeat nest_cls
      refine ⟨_, (by pre_facts), ?_⟩
      repeat nest_cls
      exact hS
    · rw [statesIn, if_neg (of_decide_eq_false hb)] at hS
      repeat nest_cls
      refine ⟨_, (by pre_facts), ?_⟩
      repeat nest_cls
      exact ⟨by omega, by omega, _, rfl, hS⟩
end
theorem rgI_get {n : Int} {k : Nat} (h : (k : Int) < n) : (rgI n)[k]? = some (k : Int) := by
  unfold rgI
  rw [List.getElem?_map, List.getElem?_range (by omega)]
  rfl
theorem fm_take_succ {α β : Type} (xs : List α) (f : α → List β) {n : Nat} {x : α} (h : xs[n]? = some x) : (xs.take (n + 1)).flatMap f = (xs.take n).flatMap f ++ f x := by
  have lt := (List.getElem?_eq_some_iff.mp h).1
  have e : xs[n] = x := (List.getElem?_eq_some_iff.mp h).2
  rw [List.take_succ_eq_append_getElem lt, e, List.flatMap_append]
  simp
theorem rg2_get {a b : Int} {k : Nat} (h : a + (k : Int) < b) : (rg2 a b)[k]? = some (a + (k : Int)) := by
  unfold rg2
  rw [List.getElem?_map, List.getElem?_range (by omega)]
  rfl
theorem rg2_length (a b : Int) : (rg2 a b).length = (b - a).toNat := by unfold rg2; rw [List.length_map, List.length_range]
theorem rgI_length (n : Int) : (rgI n).length = n.toNat := by unfold rgI; rw [List.length_map, List.length_range]
theorem waysB_le {T : Tar} (o : T.Ok) (ps br : List Int) (t b : Int) (hb : 0 ≤ b) : (waysB T ps br t b).length ≤ 10 := by
  have := o.le
  unfold waysB
  split
  · rw [List.length_cons, List.length_map, rg2_length]
    unfold mx1
    split <;> omega
  · exact Nat.zero_le _
theorem flat_le {α β : Type} (f : α → List β) (c : Nat) : ∀ xs : List α, (∀ x, x ∈ xs → (f x).length ≤ c) → (xs.flatMap f).length ≤ c * xs.length
  | [], _ => by simp
  | x :: r, h => by
    have h1 := h x (List.mem_cons_self ..)
    have h2 := flat_le f c r fun y hy => h y (List.mem_cons_of_mem _ hy)
    rw [List.flatMap_cons, List.length_append, List.length_cons, Nat.mul_add]
    omega
theorem mem_rgI {n x : Int} (h : x ∈ rgI n) : 0 ≤ x ∧ x < n := by
  unfold rgI at h
  obtain ⟨k, hk, rfl⟩ := List.mem_map.mp h
  have := List.mem_range.mp hk
  omega
theorem waysInto_le {T : Tar} (o : T.Ok) (ps br : List Int) (t : Int) : (waysInto T ps br t).length ≤ 100 := by
  have := o.le
  unfold waysInto
  rw [List.length_append]
  split
  · simp
  · have h := flat_le (waysB T ps br t) 10 (rgI T.rates.length) fun b hb => waysB_le o ps br t b (mem_rgI hb).1
    rw [rgI_length] at h
    simp only [List.length_cons, List.length_nil]
    omega
section
variable {P : Program} {w : World} {K : PySem.W.Frag} {mg : Str → Option Value} {base : Heap}

abbrev nPwaysinto : List Str := ["tariff", "prices", "breaks", "moment", "start", "ways", "before", "place", "state"]
theorem scPwaysinto : FnScope nPwaysinto ["tariff", "prices", "breaks", "moment"] (defScope sPwaysinto) := ⟨rfl, rfl, rfl, by decide +kernel, rfl, by decide +kernel, by decide +kernel⟩
theorem ok_ways_into (C : Ctx K mg) (g_is_fresh : OkPisfresh P w K mg base) (g_off : OkPoff P w K mg base) (g_place_after : OkPplaceafter P w K mg base) (g_wake : OkPwake P w K mg base) (g_states_in : OkPstatesin P w K mg base) (g_rate : OkPrate P w K mg base) : OkPwaysinto P w K mg base := by
  have sc := scPwaysinto
  refine C.fn (i := 18) rfl rfl sc (fun _ _ _ _ _ _ us hl => match us, hl with | [_, _, _, _], _ => rfl) (len_sp ?len) fun cdv A outer s H vs Q E hr h => ⟨_, (pss_cons (ps_set (i := 4) sc.nd rfl (Or.inl rfl) (pe_tup (pa_cons pe_str (pa_cons (pv 3) (pa_cons pe_int pa_nil))))) (pss_cons (ps_set (i := 5) sc.nd rfl (Or.inl rfl) (pe_lst (pa_cons (pe_tup (pa_cons (pe_glob (v := .ref (He.ga K "GROUND")) rfl (C.g 62) rfl) (pa_cons (pv 4) (pa_cons (pe_fn g_wake (hr.mono (by decide)) rfl (pa_cons (pv 0) (pa_cons (pe_fn g_off (hr.mono (by decide)) rfl (pa_cons (pv 0) pa_nil)) pa_nil))) pa_nil)))) (pa_cons (pe_tup (pa_cons (pv 4) (pa_cons (pe_tup (pa_cons pe_str (pa_cons (pv 3) (pa_cons pe_int pa_nil)))) (pa_cons (pe_op op_mul (pe_fn g_rate (hr.mono (by decide)) rfl (pa_cons (pv 0) (pa_cons pe_int pa_nil))) (pe_ix ix_seq (pv 1) (pv 3) (fun _ _ => rfl))) pa_nil)))) pa_nil)))) (pss_cons (ps_if (pt_val (pe_fn g_is_fresh (hr.mono (by decide)) rfl (pa_cons (pv 2) (pa_cons (pv 3) pa_nil)))) (pss_one (ps_ret (pv 5))) pss_nil) (pss_cons (ps_for PassesOwn.never rfl (pi_range1 rfl (C.f 73) (pa_cons (pe_fn g_off (hr.mono (by decide)) rfl (pa_cons (pv 0) pa_nil)) pa_nil)) (pg_name (i := 6) sc.nd rfl (Or.inl rfl)) (pss_cons (ps_set (i := 7) sc.nd rfl (Or.inl rfl) (pe_fn g_place_after (hr.mono (by decide)) rfl (pa_cons (pv 0) (pa_cons (pe_op op_sub (pv 3) pe_int) (pa_cons (pv 6) pa_nil))))) (pss_one (ps_if (pt_cmpR op_in_seq (pv 6) (pe_fn g_states_in (hr.mono (by decide)) rfl (pa_cons (pv 0) (pa_cons (pv 2) (pa_cons (pe_op op_sub (pv 3) pe_int) pa_nil)))) (by rfl)) (pss_cons (ps_expr (pe_bm PySem.F.plainAttrs_list PySem.F.slot_list_append PySem.F.type_list_append mt_append (pv 5) (pa_cons (pe_tup (pa_cons (pv 7) (pa_cons (pv 4) (pa_cons (pe_fn g_wake (hr.mono (by decide)) rfl (pa_cons (pv 0) (pa_cons (pv 6) pa_nil))) pa_nil)))) pa_nil))) (pss_one (ps_for PassesOwn.never rfl (pi_range2 (by rfl) (C.f 73) (pa_cons (pe_callB (call_max2 rfl) (by rfl) (C.f 71) (by decide +kernel) (pa_cons (pv 6) (pa_cons pe_int pa_nil))) (pa_cons (pe_fn g_off (hr.mono (by decide)) rfl (pa_cons (pv 0) pa_nil)) pa_nil))) (pg_name (i := 8) sc.nd rfl (Or.inl rfl)) (pss_one (ps_expr (pe_bm PySem.F.plainAttrs_list PySem.F.slot_list_append PySem.F.type_list_append mt_append (pv 5) (pa_cons (pe_tup (pa_cons (pv 7) (pa_cons (pe_tup (pa_cons pe_str (pa_cons (pv 3) (pa_cons (pv 8) pa_nil)))) (pa_cons (pe_op op_mul (pe_fn g_rate (hr.mono (by decide)) rfl (pa_cons (pv 0) (pa_cons (pv 8) pa_nil))) (pe_ix ix_seq (pv 1) (pv 3) (fun _ _ => rfl))) pa_nil)))) pa_nil))))))) pss_nil)))) (pss_one (ps_ret (pv 5))))))), run_sp h ?body⟩
  case len => exact fun A S ⟨T, ps, br, t, hA, ok, h0, h1, hS⟩ => ⟨_, hA, rfl⟩
  case body =>
    refine fun A S ⟨T, ps, br, t, hA, ok, h0, h1, hS⟩ => ⟨_, hA, fun F hF => ?_⟩
    show TSv F [.bo _, .bo _, .bo _, .bo _, .no, .no, .no, .no, .no] [] _ _
    try simp only [cx_K, cx_K2]
    have hle := ok.le
    have hpos := ok.pos
    have hwl := ok.len
    have hr0 := ok.rate (s := 0) (by omega) (by omega)
    refine ts_seq (ts_set ?_)
    repeat o_readsAll
    refine ts_seq (ts_setN ?_)
    repeat o_readsAll
    refine ⟨_, (by pre_facts), ?_⟩
    repeat nest_cls
    refine ⟨_, _, (by pre_facts), by omega, by omega, ?_⟩
    repeat nest_cls
    refine ⟨_, _, (by pre_facts), by omega, by omega, ?_⟩
    repeat nest_cls
    intro l
    repeat nest_cls
    refine ⟨_, _, (by pre_facts), ?_⟩
    repeat nest_cls
    refine ⟨fun hb => ?_, fun hb => ?_⟩
    · show TSv F _ _ _ _
      refine ts_retO (i := 5) (j := 0) (by with_unfolding_all rfl) (by with_unfolding_all rfl) ?_
      rw [waysInto, if_pos (of_decide_eq_true hb), List.append_nil] at hS
      exact hS
    · rw [waysInto, if_neg (of_decide_eq_false hb)] at hS
      have ht0 : t ≠ 0 := fun z => of_decide_eq_false hb (.inl z)
      repeat nest_cls
      refine ts_forR1 ?_
      repeat nest_cls
      refine ⟨_, (by pre_facts), ?_⟩
      repeat nest_cls
      refine ⟨by omega, by omega, fun k Γ1 μ1 => ∃ e6 e7 e8, Γ1 = [.bo (TF K T), .bo (IL ps), .bo (IL br), .bo (vI t), .rp (plR K (.inn t)), .ow l, e6, e7, e8] ∧ μ1 = [(l, obL ((([⟨.ground, .inn t, T.wake T.rates.length⟩, ⟨.inn t, .out t, T.rate 0 * gi ps t⟩] : List Way) ++ ((rgI T.rates.length).take k).flatMap (waysB T ps br t)).map (wayR K)))], ⟨_, _, _, rfl, rfl⟩, ?_, ?_⟩
      · rintro k Γ1 μ1 hk ⟨e6, e7, e8, rfl, rfl⟩
        have hrk := rgI_get hk
        refine tg_name ?_
        repeat nest_cls
        refine ⟨_, _, _, (by pre_facts), ?_⟩
        repeat nest_cls
        refine ⟨_, _, _, (by pre_facts), ok, ?_⟩
        repeat nest_cls
        have hpre : (([⟨.ground, .inn t, T.wake T.rates.length⟩, ⟨.inn t, .out t, T.rate 0 * gi ps t⟩] : List Way) ++ ((rgI T.rates.length).take k).flatMap (waysB T ps br t)).length ≤ 100 := by
          have h := flat_le (waysB T ps br t) 10 ((rgI T.rates.length).take k) fun b hb => waysB_le ok ps br t b (mem_rgI (List.mem_of_mem_take hb)).1
          rw [List.length_take, rgI_length] at h
          rw [List.length_append]
          simp only [List.length_cons, List.length_nil]
          omega
        have hg2 : ([⟨.ground, .inn t, T.wake T.rates.length⟩, ⟨.inn t, .out t, T.rate 0 * gi ps t⟩] : List Way) ++ ((rgI T.rates.length).take (k + 1)).flatMap (waysB T ps br t) = (([⟨.ground, .inn t, T.wake T.rates.length⟩, ⟨.inn t, .out t, T.rate 0 * gi ps t⟩] : List Way) ++ ((rgI T.rates.length).take k).flatMap (waysB T ps br t)) ++ waysB T ps br t k := by
          rw [fm_take_succ _ _ hrk, ← List.append_assoc]
        generalize hg : ([⟨.ground, .inn t, T.wake T.rates.length⟩, ⟨.inn t, .out t, T.rate 0 * gi ps t⟩] : List Way) ++ ((rgI T.rates.length).take k).flatMap (waysB T ps br t) = pre at hpre hg2 ⊢
        refine ⟨fun hc => ?_, fun hc => ?_⟩
        · have hc2 := of_decide_eq_true hc
          have eB : waysB T ps br t k = ⟨plAfter T (t - 1) k, .inn t, T.wake k⟩ :: (rg2 (mx1 k) T.rates.length).map (fun s => ⟨plAfter T (t - 1) k, .asleep t s, T.rate s * gi ps t⟩) := by rw [waysB, if_pos hc2]
          repeat nest_cls
          refine ts_app (i := 5) (j := 0) (by with_unfolding_all rfl) (by with_unfolding_all rfl) (by rw [List.length_map]; omega) ?_
          repeat nest_cls
          refine ⟨_, _, (by pre_facts), by omega, by omega, ?_⟩
          repeat nest_cls
          refine ts_forR2 ?_
          repeat nest_cls
          refine ⟨_, (by pre_facts), ?_⟩
          repeat nest_cls
          have hm0 : 0 ≤ mx1 k := by unfold mx1; split <;> omega
          have hm1 : mx1 k ≤ 5 := by unfold mx1; split <;> omega
          refine ⟨mx1 k, _, rfl, by omega, by omega, by omega, by omega, fun j Γ1 μ1 => ∃ e8, Γ1 = [.bo (TF K T), .bo (IL ps), .bo (IL br), .bo (vI t), .rp (plR K (.inn t)), .ow l, .rp (vI k), .rp (plR K (plAfter T (t - 1) k)), e8] ∧ μ1 = [(l, obL ((pre ++ (⟨plAfter T (t - 1) k, .inn t, T.wake k⟩ : Way) :: ((rg2 (mx1 k) T.rates.length).take j).map (fun s => (⟨plAfter T (t - 1) k, .asleep t s, T.rate s * gi ps t⟩ : Way))).map (wayR K)))], ⟨e8, rfl, ?_⟩, ?_, ?_⟩
          · show [(l, obL (pre.map (wayR K) ++ [_]))] = _
            rw [List.take_zero, List.map_nil, List.map_append]
            rfl
          · rintro j Γ1 μ1 hj ⟨e8, rfl, rfl⟩
            have hrj := rg2_get hj
            have hrt := ok.rate (s := mx1 k + (j : Int)) (by omega) (by omega)
            refine tg_name ?_
            refine ts_app (i := 5) (j := 0) (by with_unfolding_all rfl) (by with_unfolding_all rfl) ?_ ?_
            · rw [List.length_map, List.length_append, List.length_cons, List.length_map, List.length_take, rg2_length]
              omega
            · repeat nest_cls
              refine ⟨_, _, (by pre_facts), by omega, by omega, ?_⟩
              repeat nest_cls
              show [(l, obL (_ ++ [wayR K ⟨plAfter T (t - 1) k, .asleep t (mx1 k + (j : Int)), T.rate (mx1 k + (j : Int)) * gi ps t⟩]))] = _
              have lt := (List.getElem?_eq_some_iff.mp hrj).1
              have e2 := (List.getElem?_eq_some_iff.mp hrj).2
              rw [List.take_succ_eq_append_getElem lt, e2, List.map_append, List.map_append, List.map_append, List.map_cons, List.map_cons, List.map_append, List.append_assoc]
              rfl
          · rintro Γ1 μ1 ⟨e8, rfl, rfl⟩
            refine ⟨.rp (vI k), .rp (plR K (plAfter T (t - 1) k)), e8, rfl, ?_⟩
            rw [hg2, eB, List.take_of_length_le (by rw [rg2_length] <;> exact Nat.le_refl _)]
        · have hc2 := of_decide_eq_false hc
          have eB : waysB T ps br t k = [] := by rw [waysB, if_neg hc2]
          repeat nest_cls
          refine ⟨.rp (vI k), .rp (plR K (plAfter T (t - 1) k)), e8, rfl, ?_⟩
          rw [hg2, eB, List.append_nil]
      · rintro Γ1 μ1 ⟨e6, e7, e8, rfl, rfl⟩
        show TSv F _ _ _ _
        refine ts_retO (i := 5) (j := 0) (by with_unfolding_all rfl) (by with_unfolding_all rfl) ?_
        rw [List.take_of_length_le (by rw [rgI_length] <;> exact Nat.le_refl _)]
        exact hS
end
theorem waysAt_le {T : Tar} (o : T.Ok) (ps br : List Int) (t : Int) : (waysAt T ps br t).length ≤ 105 := by
  have h1 := waysInto_le o ps br t
  have h2 := statesIn_le o br t
  unfold waysAt
  rw [List.length_append, List.length_map]
  have h3 : ((statesIn T br t).filter fun s => decide (s ≠ (T.rates.length : Int))).length ≤ (statesIn T br t).length := List.length_filter_le ..
  omega
theorem flatN_le {α β : Type} (f : α → List β) (c n : Nat) (xs : List α) (hn : xs.length ≤ n) (h : ∀ x, x ∈ xs → (f x).length ≤ c) : (xs.flatMap f).length ≤ c * n :=
  Nat.le_trans (flat_le f c xs h) (Nat.mul_le_mul_left c hn)
def waysTo (T : Tar) (ps br : List Int) (k : Nat) : List Way := (List.range k).flatMap fun (t : Nat) => waysAt T ps br t
theorem waysTo_le {T : Tar} (o : T.Ok) (ps br : List Int) {k : Nat} (h : k ≤ 100) : (waysTo T ps br k).length ≤ 105 * 100 := flatN_le _ 105 100 _ (by rw [List.length_range]; omega) fun t _ => waysAt_le o ps br t
def backs (T : Tar) (t : Int) (ss : List Int) : List Way := (ss.filter fun s => decide (s ≠ (T.rates.length : Int))).map fun s => ⟨plAfter T t s, .ground, 0⟩
theorem waysAt_eq (T : Tar) (ps br : List Int) (t : Int) : waysAt T ps br t = waysInto T ps br t ++ backs T t (statesIn T br t) := rfl
theorem waysTo_succ (T : Tar) (ps br : List Int) (k : Nat) : waysTo T ps br (k + 1) = waysTo T ps br k ++ (waysInto T ps br k ++ backs T k (statesIn T br k)) := by
  unfold waysTo
  rw [List.range_succ, List.flatMap_append, ← waysAt_eq]
  simp
theorem backs_le (T : Tar) (t : Int) (ss : List Int) : (backs T t ss).length ≤ ss.length := by
  unfold backs
  rw [List.length_map]
  exact List.length_filter_le ..
theorem backs_succ (T : Tar) (t : Int) {ss : List Int} {j : Nat} {s : Int} (h : ss[j]? = some s) : backs T t (ss.take (j + 1)) = if s = (T.rates.length : Int) then backs T t (ss.take j) else backs T t (ss.take j) ++ [⟨plAfter T t s, .ground, 0⟩] := by
  have lt := (List.getElem?_eq_some_iff.mp h).1
  have e : ss[j] = s := (List.getElem?_eq_some_iff.mp h).2
  unfold backs
  rw [List.take_succ_eq_append_getElem lt, e, List.filter_append, List.map_append]
  by_cases q : s = (T.rates.length : Int)
  · simp [q]
  · simp [q]
section
variable {P : Program} {w : World} {K : PySem.W.Frag} {mg : Str → Option Value} {base : Heap}

abbrev nPallways : List Str := ["tariff", "prices", "breaks", "ways", "moment", "state"]
theorem scPallways : FnScope nPallways ["tariff", "prices", "breaks"] (defScope sPallways) := ⟨rfl, rfl, rfl, by decide +kernel, rfl, by decide +kernel, by decide +kernel⟩
theorem ok_all_ways (C : Ctx K mg) (g_states_in : OkPstatesin P w K mg base) (g_ways_into : OkPwaysinto P w K mg base) (g_off : OkPoff P w K mg base) (g_place_after : OkPplaceafter P w K mg base) : OkPallways P w K mg base := by
  have sc := scPallways
  refine C.fn (i := 19) rfl rfl sc (fun _ _ _ _ _ _ us hl => match us, hl with | [_, _, _], _ => rfl) (len_sp ?len) fun cdv A outer s H vs Q E hr h => ⟨_, (pss_cons (ps_set (i := 3) sc.nd rfl (Or.inl rfl) (pe_lst pa_nil)) (pss_cons (ps_for PassesOwn.never rfl (pi_range1 rfl (C.f 73) (pa_cons (pe_callB call_len_seq (by rfl) (C.f 69) PySem.boot_len (pa_cons (pv 1) pa_nil)) pa_nil)) (pg_name (i := 4) sc.nd rfl (Or.inl rfl)) (pss_cons (ps_expr (pe_bm PySem.F.plainAttrs_list PySem.F.slot_list_extend PySem.F.type_list_extend mt_extend (pv 3) (pa_cons (pe_fn g_ways_into (hr.mono (by decide)) rfl (pa_cons (pv 0) (pa_cons (pv 1) (pa_cons (pv 2) (pa_cons (pv 4) pa_nil))))) pa_nil))) (pss_one (ps_for PassesOwn.never rfl (pi_list (pe_fn g_states_in (hr.mono (by decide)) rfl (pa_cons (pv 0) (pa_cons (pv 2) (pa_cons (pv 4) pa_nil))))) (pg_name (i := 5) sc.nd rfl (Or.inl rfl)) (pss_one (ps_if (pt_cmpR op_ne (pv 5) (pe_fn g_off (hr.mono (by decide)) rfl (pa_cons (pv 0) pa_nil)) (nomark _)) (pss_one (ps_expr (pe_bm PySem.F.plainAttrs_list PySem.F.slot_list_append PySem.F.type_list_append mt_append (pv 3) (pa_cons (pe_tup (pa_cons (pe_fn g_place_after (hr.mono (by decide)) rfl (pa_cons (pv 0) (pa_cons (pv 4) (pa_cons (pv 5) pa_nil)))) (pa_cons (pe_glob (v := .ref (He.ga K "GROUND")) rfl (C.g 62) rfl) (pa_cons pe_int pa_nil)))) pa_nil)))) pss_nil)))))) (pss_one (ps_ret (pv 3))))), run_sp h ?body⟩
  case len => exact fun A S ⟨T, ps, br, hA, ok, h100, hS⟩ => ⟨_, hA, rfl⟩
  case body =>
    refine fun A S ⟨T, ps, br, hA, ok, h100, hS⟩ => ⟨_, hA, fun F hF => ?_⟩
    show TSv F [.bo _, .bo _, .bo _, .no, .no, .no] [] _ _
    try simp only [cx_K, cx_K2]
    have hle := ok.le
    refine ts_seq (ts_setN ?_)
    repeat o_readsAll
    intro l
    refine ts_seq (ts_forR1 ?_)
    repeat o_readsAll
    refine ⟨by omega, by omega, fun k Γ1 μ1 => ∃ e4 e5, Γ1 = [.bo (TF K T), .bo (IL ps), .bo (IL br), .ow l, e4, e5] ∧ μ1 = [(l, obL ((waysTo T ps br k).map (wayR K)))], ⟨_, _, rfl, rfl⟩, ?_, ?_⟩
    · rintro k Γ1 μ1 hk ⟨e4, e5, rfl, rfl⟩
      have hk2 : k < ps.length := by omega
      have hpre := waysTo_le ok ps br (k := k) (by omega)
      have hwi := waysInto_le ok ps br k
      have hsl := statesIn_le ok br k
      refine tg_name ?_
      refine ts_seq (ts_ext (i := 3) (j := 0) (by with_unfolding_all rfl) (by with_unfolding_all rfl) ?_)
      repeat o_readsAll
      refine ⟨_, _, _, _, (by pre_facts), ok, by omega, by omega, ?_⟩
      repeat o_readsAll
      refine ⟨by rw [List.length_map, List.length_map]; omega, ?_⟩
      refine ts_forL ?_
      repeat o_readsAll
      refine ⟨_, _, _, (by pre_facts), ok, ?_⟩
      refine ⟨_, _, .z _, fun j Γ1 μ1 => ∃ e5, Γ1 = [.bo (TF K T), .bo (IL ps), .bo (IL br), .ow l, .rp (vI (k : Nat)), e5] ∧ μ1 = [(l, obL ((waysTo T ps br k ++ (waysInto T ps br k ++ backs T k ((statesIn T br k).take j))).map (wayR K)))], ⟨e5, rfl, ?_⟩, ?_, ?_⟩
      · show [(l, obL ((waysTo T ps br k).map (wayR K) ++ (waysInto T ps br k).map (wayR K)))] = _
        rw [List.take_zero, show backs T k [] = [] from rfl, List.append_nil, List.map_append]
      · rintro j Γ1 μ1 P hP hI
        obtain ⟨e5, rfl, rfl⟩ := hI
        obtain ⟨s, hs, rfl⟩ := at_mapF hP
        have hbs := backs_succ T k hs
        have hb := backs_le T k ((statesIn T br k).take j)
        rw [List.length_take] at hb
        refine tg_name ?_
        repeat nest_cls
        refine ⟨_, (by pre_facts), ?_⟩
        repeat nest_cls
        refine ⟨fun hc => ?_, fun hc => ?_⟩
        · have hc2 : ¬ s = (T.rates.length : Int) := by simpa using hc
          rw [if_neg hc2] at hbs
          refine ts_app (i := 3) (j := 0) (by with_unfolding_all rfl) (by with_unfolding_all rfl) (by rw [List.length_map, List.length_append, List.length_append]; omega) ?_
          repeat o_readsAll
          refine ⟨_, _, _, (by pre_facts), ?_⟩
          repeat o_readsAll
          rw [hbs]
          show [(l, obL (_ ++ [wayR K ⟨plAfter T k s, .ground, 0⟩]))] = _
          simp only [List.map_append, List.append_assoc]
          rfl
        · have hc2 : s = (T.rates.length : Int) := by simpa using hc
          rw [if_pos hc2] at hbs
          repeat nest_cls
          rw [hbs]
      · rintro Γ1 μ1 ⟨e5, rfl, rfl⟩
        refine ⟨_, _, rfl, ?_⟩
        rw [List.length_map, List.take_length, waysTo_succ]
    · rintro Γ1 μ1 ⟨e4, e5, rfl, rfl⟩
      show TSv F _ _ _ _
      refine ts_retO (i := 3) (j := 0) (by with_unfolding_all rfl) (by with_unfolding_all rfl) ?_
      exact hS
end
theorem cands_succ {T : Tar} {bf : List (Int × Int)} {own s : Int} {j : Nat} {q : Int × Int} (h : bf[j]? = some q) : cands T (bf.take (j + 1)) own s = cands T (bf.take j) own s ++ (match T.step q.1 s with | some c => [q.2 + c + own] | none => []) := by
  have lt := (List.getElem?_eq_some_iff.mp h).1
  have e : bf[j] = q := (List.getElem?_eq_some_iff.mp h).2
  unfold cands
  rw [List.take_succ_eq_append_getElem lt, e, List.filterMap_append]
  congr 1
  cases hq : T.step q.1 s with
  | none => simp [hq]
  | some c => simp [hq]
section
variable {P : Program} {w : World} {K : PySem.W.Frag} {mg : Str → Option Value} {base : Heap}

abbrev nPnetcost : List Str := ["tariff", "prices", "gains", "moment", "state", "cost"]
theorem scPnetcost : FnScope nPnetcost ["tariff", "prices", "gains", "moment", "state"] (defScope sPnetcost) := ⟨rfl, rfl, rfl, by decide +kernel, rfl, by decide +kernel, by decide +kernel⟩
theorem ok_net_cost (C : Ctx K mg) (g_rate : OkPrate P w K mg base) : OkPnetcost P w K mg base := by
  have sc := scPnetcost
  refine C.fn (i := 25) rfl rfl sc (fun _ _ _ _ _ _ us hl => match us, hl with | [_, _, _, _, _], _ => rfl) (len_sp ?len) fun cdv A outer s H vs Q E hr h => ⟨_, (pss_cons (ps_set (i := 5) sc.nd rfl (Or.inl rfl) (pe_op op_mul (pe_fn g_rate (hr.mono (by decide)) rfl (pa_cons (pv 0) (pa_cons (pv 4) pa_nil))) (pe_ix ix_seq (pv 1) (pv 3) (fun _ _ => rfl)))) (pss_one (ps_ret (pe_ifExp (pt_cmpR op_eq (pv 4) pe_int (nomark _)) (pe_op op_sub (pv 5) (pe_ix ix_seq (pv 2) (pv 3) (fun _ _ => rfl))) (pv 5))))), run_sp h ?body⟩
  case len => exact fun A S ⟨T, ps, gs, k, s, hA, ok, h0, h1, h2, h3, h4, hS⟩ => ⟨_, hA, rfl⟩
  case body =>
    refine fun A S ⟨T, ps, gs, k, s, hA, ok, h0, h1, h2, h3, h4, hS⟩ => ⟨_, hA, fun F hF => ?_⟩
    show TSv F [.bo _, .bo _, .bo _, .bo _, .bo _, .no] [] _ _
    try simp only [cx_K, cx_K2]
    have hr := ok.rate h3 h4
    repeat nest_cls
    refine ⟨_, _, (by pre_facts), h3, h4, ?_⟩
    repeat nest_cls
    refine ⟨fun hb => ?_, fun hb => ?_⟩
    · rw [netC, if_pos (of_decide_eq_true hb)] at hS
      repeat nest_cls
      exact hS
    · rw [netC, if_neg (of_decide_eq_false hb)] at hS
      repeat nest_cls
      exact hS
abbrev nPheadsbefore : List Str := ["tariff", "breaks", "heads", "moment", "states", "state"]
theorem scPheadsbefore : FnScope nPheadsbefore ["tariff", "breaks", "heads", "moment"] (defScope sPheadsbefore) := ⟨rfl, rfl, rfl, by decide +kernel, rfl, by decide +kernel, by decide +kernel⟩
theorem ok_heads_before (C : Ctx K mg) (g_states_in : OkPstatesin P w K mg base) (g_is_fresh : OkPisfresh P w K mg base) (g_off : OkPoff P w K mg base) : OkPheadsbefore P w K mg base := by
  have sc := scPheadsbefore
  refine C.fn (i := 24) rfl rfl sc (fun _ _ _ _ _ _ us hl => match us, hl with | [_, _, _, _], _ => rfl) (len_sp ?len) fun cdv A outer s H vs Q E hr h => ⟨_, (pss_cons (ps_if (pt_cmpR op_eq (pv 3) pe_int (nomark _)) (pss_one (ps_ret (pe_lst (pa_cons (pe_tup (pa_cons (pe_fn g_off (hr.mono (by decide)) rfl (pa_cons (pv 0) pa_nil)) (pa_cons pe_int pa_nil))) pa_nil)))) pss_nil) (pss_cons (ps_set (i := 4) sc.nd rfl (Or.inl rfl) (pe_fn g_states_in (hr.mono (by decide)) rfl (pa_cons (pv 0) (pa_cons (pv 1) (pa_cons (pe_op op_sub (pv 3) pe_int) pa_nil))))) (pss_cons (ps_if (pt_val (pe_fn g_is_fresh (hr.mono (by decide)) rfl (pa_cons (pv 1) (pa_cons (pv 3) pa_nil)))) (pss_one (ps_ret (pe_lc (own := [("state", 5)]) rfl sc.nd (pi_list (pv 4)) (blkOk_by (own := [("state", 5)]) (N := nPheadsbefore) (sc := defScope sPheadsbefore) (by decide +kernel)) (fun _ _ _ _ _ => pg_name (i := 5) sc.nd rfl (Or.inl rfl)) (fun _ _ _ _ _ => pts_nil) (fun _ _ _ _ _ => (pe_tup (pa_cons (pe_fn g_off (hr.mono (by decide)) rfl (pa_cons (pv 0) pa_nil)) (pa_cons (pe_ix (show IxR _ (rIx K) from ix_seq) (pe_ix (show IxR _ (rIx K) from ix_seq) (pv 2) (pe_op op_sub (pv 3) pe_int) (fun _ _ => rfl)) (pv 5) (fun _ _ => rfl)) pa_nil))))))) pss_nil) (pss_one (ps_ret (pe_lc (own := [("state", 5)]) rfl sc.nd (pi_list (pv 4)) (blkOk_by (own := [("state", 5)]) (N := nPheadsbefore) (sc := defScope sPheadsbefore) (by decide +kernel)) (fun _ _ _ _ _ => pg_name (i := 5) sc.nd rfl (Or.inl rfl)) (fun _ _ _ _ _ => pts_nil) (fun _ _ _ _ _ => (pe_tup (pa_cons (pv 5) (pa_cons (pe_ix (show IxR _ (rIx K) from ix_seq) (pe_ix (show IxR _ (rIx K) from ix_seq) (pv 2) (pe_op op_sub (pv 3) pe_int) (fun _ _ => rfl)) (pv 5) (fun _ _ => rfl)) pa_nil)))))))))), run_sp h ?body⟩
  case len => exact fun A S ⟨T, br, hs, k, hA, ok, h0, h1, hrl, hS⟩ => ⟨_, hA, rfl⟩
  case body =>
    refine fun A S ⟨T, br, hs, k, hA, ok, h0, h1, hrl, hS⟩ => ⟨_, hA, fun F hF => ?_⟩
    show TSv F [.bo _, .bo _, .bo _, .bo _, .no, .no] [] _ _
    try simp only [cx_K, cx_K2]
    have hle := ok.le
    have hsl := statesIn_le ok br (k - 1)
    repeat nest_cls
    refine ⟨fun hb => ?_, fun hb => ?_⟩
    · rw [hBefore, if_pos (of_decide_eq_true hb)] at hS
      repeat nest_cls
      refine ⟨_, (by pre_facts), ?_⟩
      repeat nest_cls
      exact hS
    · have hk := of_decide_eq_false hb
      rw [hBefore, if_neg hk, List.map_map] at hS
      have hrow := hrl _ (rowAt_mem (i := k - 1) (by omega) (by omega))
      repeat nest_cls
      refine ⟨_, _, _, (by pre_facts), ok, ?_⟩
      repeat nest_cls
      refine ⟨_, _, (by pre_facts), ?_⟩
      repeat nest_cls
      refine ⟨fun hf => ?_, fun hf => ?_⟩
      · have hf2 := of_decide_eq_true hf
        repeat nest_cls
        refine te_new (tn_fmL (α := Int) ?_)
        repeat nest_cls
        refine ⟨_, statesIn T br (k - 1), vI, fun _ => true, fun s => TP K [vI (T.rates.length : Nat), vI (gi (rowAt hs (k - 1)) s)], IsL.z _, by omega, fun s hm L acc => ?_, ?_⟩
        · have hsr := statesIn_range hm
          repeat nest_cls
          refine ⟨rfl, fun _ => ?_⟩
          repeat nest_cls
          refine ⟨_, (by pre_facts), ?_⟩
          repeat nest_cls
          exact ⟨rfl, trivial⟩
        · rw [filt_all]
          repeat nest_cls
          have e : (statesIn T br (k - 1)).map ((fun q : Int × Int => TP K [vI q.1, vI q.2]) ∘ fun s => (if Fresh br k then (T.rates.length : Int) else s, gi (rowAt hs (k - 1)) s)) = (statesIn T br (k - 1)).map (fun s => TP K [vI (T.rates.length : Nat), vI (gi (rowAt hs (k - 1)) s)]) := List.map_congr_left fun s _ => by
            show TP K [vI (if Fresh br k then (T.rates.length : Int) else s), _] = _
            rw [if_pos hf2]
          rw [e] at hS
          exact hS
      · have hf2 := of_decide_eq_false hf
        repeat nest_cls
        refine te_new (tn_fmL (α := Int) ?_)
        repeat nest_cls
        refine ⟨_, statesIn T br (k - 1), vI, fun _ => true, fun s => TP K [vI s, vI (gi (rowAt hs (k - 1)) s)], IsL.z _, by omega, fun s hm L acc => ?_, ?_⟩
        · have hsr := statesIn_range hm
          repeat nest_cls
          refine ⟨rfl, fun _ => ?_⟩
          repeat nest_cls
          exact ⟨rfl, trivial⟩
        · rw [filt_all]
          repeat nest_cls
          have e : (statesIn T br (k - 1)).map ((fun q : Int × Int => TP K [vI q.1, vI q.2]) ∘ fun s => (if Fresh br k then (T.rates.length : Int) else s, gi (rowAt hs (k - 1)) s)) = (statesIn T br (k - 1)).map (fun s => TP K [vI s, vI (gi (rowAt hs (k - 1)) s)]) := List.map_congr_left fun s _ => by
            show TP K [vI (if Fresh br k then (T.rates.length : Int) else s), _] = _
            rw [if_neg hf2]
          rw [e] at hS
          exact hS
abbrev nPleasthead : List Str := ["tariff", "prices", "gains", "before", "moment", "state", "own", "found", "start", "head", "step"]
theorem scPleasthead : FnScope nPleasthead ["tariff", "prices", "gains", "before", "moment", "state"] (defScope sPleasthead) := ⟨rfl, rfl, rfl, by decide +kernel, rfl, by decide +kernel, by decide +kernel⟩
theorem ok_least_head (C : Ctx K mg) (g_net_cost : OkPnetcost P w K mg base) (g_step_cost : OkPstepcost P w K mg base) : OkPleasthead P w K mg base := by
  have sc := scPleasthead
  refine C.fn (i := 26) rfl rfl sc (fun _ _ _ _ _ _ us hl => match us, hl with | [_, _, _, _, _, _], _ => rfl) (len_sp ?len) fun cdv A outer s H vs Q E hr h => ⟨_, (pss_cons (ps_set (i := 6) sc.nd rfl (Or.inl rfl) (pe_fn g_net_cost (hr.mono (by decide)) rfl (pa_cons (pv 0) (pa_cons (pv 1) (pa_cons (pv 2) (pa_cons (pv 4) (pa_cons (pv 5) pa_nil))))))) (pss_cons (ps_set (i := 7) sc.nd rfl (Or.inl rfl) (pe_lst pa_nil)) (pss_cons (ps_for PassesOwn.never rfl (pi_list (pv 3)) (pg_tup rfl (pgs_cons (pg_name (i := 8) sc.nd rfl (Or.inl rfl)) (pgs_cons (pg_name (i := 9) sc.nd rfl (Or.inl rfl)) pgs_nil))) (pss_cons (ps_set (i := 10) sc.nd rfl (Or.inl rfl) (pe_fn g_step_cost (hr.mono (by decide)) rfl (pa_cons (pv 0) (pa_cons (pv 8) (pa_cons (pv 5) pa_nil))))) (pss_one (ps_if (pt_cmpR op_notN (pv 10) pe_non (nomark _)) (pss_one (ps_expr (pe_bm PySem.F.plainAttrs_list PySem.F.slot_list_append PySem.F.type_list_append mt_append (pv 7) (pa_cons (pe_op op_add (pe_op op_add (pv 9) (pv 10)) (pv 6)) pa_nil)))) pss_nil)))) (pss_one (ps_ret (pe_callB (cr_min rfl) (by rfl) (C.f 72) (by decide +kernel) (pa_cons (pv 7) pa_nil))))))), run_sp h ?body⟩
  case len => exact fun A S ⟨T, ps, gs, bf, k, s, hA, ok, h0, h1, h2, h3, h4, hbl, hbo, hne, hS⟩ => ⟨_, hA, rfl⟩
  case body =>
    refine fun A S ⟨T, ps, gs, bf, k, s, hA, ok, h0, h1, h2, h3, h4, hbl, hbo, hne, hS⟩ => ⟨_, hA, fun F hF => ?_⟩
    show TSv F [.bo _, .bo _, .bo _, .bo _, .bo _, .bo _, .no, .no, .no, .no, .no] [] _ _
    try simp only [cx_K, cx_K2]
    repeat nest_cls
    refine ⟨_, _, _, _, _, (by pre_facts), ok, h0, h1, h2, h3, h4, ?_⟩
    generalize netC T ps gs k s = own at hne hS ⊢
    refine ts_seq (ts_setN ?_)
    repeat o_readsAll
    intro l
    refine ts_seq (ts_forL ?_)
    repeat o_readsAll
    refine ⟨_, _, IsL.b _, fun j Γ1 μ1 => ∃ e8 e9 e10, Γ1 = [.bo (TF K T), .bo (IL ps), .bo (SQ K (gs.map vI)), .bo (LS (bf.map fun q => TP K [vI q.1, vI q.2])), .bo (vI k), .bo (vI s), .rp (vI own), .ow l, e8, e9, e10] ∧ μ1 = [(l, obL ((cands T (bf.take j) own s).map vI))], ⟨_, _, _, rfl, rfl⟩, ?_, ?_⟩
    · rintro j Γ1 μ1 P hP ⟨e8, e9, e10, rfl, rfl⟩
      obtain ⟨q, hq, rfl⟩ := at_mapF hP
      have hcl := cands_le T (bf.take j) own s
      rw [List.length_take] at hcl
      have hcs := cands_succ (T := T) (own := own) (s := s) hq
      refine tg_tup2 (lv := .b) ?_
      repeat nest_cls
      refine ⟨_, _, _, (by pre_facts), ok, h3, hbo q (List.mem_of_getElem? hq), ?_⟩
      cases hst : T.step q.1 s with
      | none =>
        rw [hst] at hcs
        simp only [vO_none]
        repeat nest_cls
        refine ⟨fun z => (nomatch z), fun _ => ?_⟩
        repeat nest_cls
        refine ⟨.bo (vI q.1), .bo (vI q.2), .rp vN, rfl, ?_⟩
        rw [hcs, List.append_nil]
      | some c =>
        rw [hst] at hcs
        simp only [vO_some]
        repeat nest_cls
        refine ⟨fun _ => ?_, fun z => (nomatch z)⟩
        refine ts_app (i := 7) (j := 0) (by with_unfolding_all rfl) (by with_unfolding_all rfl) (by rw [List.length_map]; omega) ?_
        repeat nest_cls
        refine ⟨.bo (vI q.1), .bo (vI q.2), .rp (vI c), rfl, ?_⟩
        show [(l, obL (_ ++ [vI (q.2 + c + own)]))] = _
        rw [hcs, List.map_append]
        rfl
    · rintro Γ1 μ1 ⟨e8, e9, e10, rfl, rfl⟩
      rw [List.length_map, List.take_length]
      repeat nest_cls
      refine rc_min (l := .z) (sl_o (j := 0) (by with_unfolding_all rfl)) (by cases hc : cands T bf own s with | nil => exact absurd hc hne | cons _ _ => simp) fun m hm1 hm2 => ⟨_, rfl, ?_⟩
      rw [minL_is hm1 hm2]
      exact hS
end
theorem bdec {P : Prop} [d : Decidable P] {b : Bool} (h : b = true ↔ P) : b = decide P := by
  cases b with
  | true => exact (decide_eq_true (h.mp rfl)).symm
  | false => exact (decide_eq_false (fun z => by have := h.mpr z; cases this)).symm
section
variable {P : Program} {w : World} {K : PySem.W.Frag} {mg : Str → Option Value} {base : Heap}

abbrev nPhassizes : List Str := ["tariff", "prices", "paper", "gains", "heads", "row"]
theorem scPhassizes : FnScope nPhassizes ["tariff", "prices", "paper"] (defScope sPhassizes) := ⟨rfl, rfl, rfl, by decide +kernel, rfl, by decide +kernel, by decide +kernel⟩
theorem ok_has_sizes (C : Ctx K mg) (g_off : OkPoff P w K mg base) : OkPhassizes P w K mg base := by
  have sc := scPhassizes
  refine C.fn (i := 28) rfl rfl sc (fun _ _ _ _ _ _ us hl => match us, hl with | [_, _, _], _ => rfl) (len_sp ?len) fun cdv A outer s H vs Q E hr h => ⟨_, (pss_cons (ps_asg (pv 2) (pg_tup rfl (pgs_cons (pg_name (i := 3) sc.nd rfl (Or.inl rfl)) (pgs_cons (pg_name (i := 4) sc.nd rfl (Or.inl rfl)) pgs_nil)))) (pss_cons (ps_if (PW.pt (pw_or (pt_cmpR op_ne (pe_callB call_len_seq (by rfl) (C.f 69) PySem.boot_len (pa_cons (pv 3) pa_nil)) (pe_callB call_len_seq (by rfl) (C.f 69) PySem.boot_len (pa_cons (pv 1) pa_nil)) (nomark _)) (pw_or1 (pt_cmpR op_ne (pe_callB call_len_seq (by rfl) (C.f 69) PySem.boot_len (pa_cons (pv 4) pa_nil)) (pe_callB call_len_seq (by rfl) (C.f 69) PySem.boot_len (pa_cons (pv 1) pa_nil)) (nomark _))))) (pss_one (ps_ret pe_bl)) pss_nil) (pss_one (ps_ret (pe_callB (cr_all rfl) (by rfl) (C.f 63) (by decide +kernel) (pa_cons (pe_lc (own := [("row", 5)]) rfl sc.nd (pi_tup (pv 4)) (blkOk_by (own := [("row", 5)]) (N := nPhassizes) (sc := defScope sPhassizes) (by decide +kernel)) (fun _ _ _ _ _ => pg_name (i := 5) sc.nd rfl (Or.inl rfl)) (fun _ _ _ _ _ => pts_nil) (fun _ _ _ _ _ => (pe_cmpR op_eq (pe_callB (show CallR _ _ (rLen K) from call_len_seq) (by rfl) (C.f 69) PySem.boot_len (pa_cons (pv 5) pa_nil)) (pe_op op_add (pe_fn g_off (hr.mono (by decide)) rfl (pa_cons (pv 0) pa_nil)) pe_int) (nomark _)))) pa_nil)))))), run_sp h ?body⟩
  case len => exact fun A S ⟨T, ps, gs, hs, hA, hl, hS⟩ => ⟨_, hA, rfl⟩
  case body =>
    refine fun A S ⟨T, ps, gs, hs, hA, hl, hS⟩ => ⟨_, hA, fun F hF => ?_⟩
    show TSv F [.bo _, .bo _, .bo _, .no, .no, .no] [] _ _
    try simp only [cx_K, cx_K2]
    refine ts_seq (ts_asg ?_)
    repeat nest_cls
    refine tg_tup2 (lv := .b) ?_
    repeat nest_cls
    have ft : ¬ Sized T ps gs hs → S (vB false) := fun h => hS false ⟨fun z => (nomatch z), fun z => absurd z h⟩
    refine ⟨fun hb => ?_, fun hb => ?_⟩
    · repeat nest_cls
      refine ⟨fun _ => ?_, fun z => (nomatch z)⟩
      repeat nest_cls
      refine ft fun r => ?_
      have e := r.1
      simp only [List.length_map, Bool.not_eq_true', decide_eq_false_iff_not] at hb
      omega
    · have h1 : gs.length = ps.length := by
        simp only [List.length_map, Bool.not_eq_false', decide_eq_true_eq] at hb
        omega
      repeat nest_cls
      refine ⟨fun hb2 => ?_, fun hb2 => ?_⟩
      · repeat nest_cls
        refine ft fun r => ?_
        have e := r.2.1
        simp only [List.length_map, Bool.not_eq_true', decide_eq_false_iff_not] at hb2
        omega
      · have h2 : hs.length = ps.length := by
          simp only [List.length_map, Bool.not_eq_false', decide_eq_true_eq] at hb2
          omega
        repeat nest_cls
        refine te_new (tn_fmT (α := List Int) ?_)
        repeat nest_cls
        refine ⟨_, hs, rowR K, fun _ => true, fun r => vB (decide (r.length = T.rates.length + 1)), IsT.b _, by omega, fun r hm L acc => ?_, ?_⟩
        · repeat nest_cls
          refine ⟨rfl, fun _ => ?_⟩
          repeat nest_cls
          refine ⟨_, (by pre_facts), ?_⟩
          repeat nest_cls
          have e : decide (((r.length : Nat) : Int) = ((T.rates.length : Nat) : Int) + 1) = decide (r.length = T.rates.length + 1) := by
            by_cases h : r.length = T.rates.length + 1
            · rw [decide_eq_true h, decide_eq_true (by omega)]
            · rw [decide_eq_false h, decide_eq_false (by omega)]
          rw [e]
          exact ⟨rfl, trivial⟩
        · rw [filt_all]
          repeat nest_cls
          have e : hs.map (fun r => vB (decide (r.length = T.rates.length + 1))) = (hs.map fun r => decide (r.length = T.rates.length + 1)).map vB := by rw [List.map_map]; rfl
          rw [e]
          refine rc_all (l := .z) sl_z ?_
          refine ⟨_, rfl, hS _ ?_⟩
          rw [List.all_map, List.all_eq_true]
          exact ⟨fun h => ⟨h1, h2, fun r hr => of_decide_eq_true (h r hr)⟩, fun h r hr => decide_eq_true (h.2.2 r hr)⟩
abbrev nPisrowsound : List Str := ["tariff", "prices", "breaks", "paper", "moment", "states", "before", "gains", "heads", "state", "head"]
theorem scPisrowsound : FnScope nPisrowsound ["tariff", "prices", "breaks", "paper", "moment"] (defScope sPisrowsound) := ⟨rfl, rfl, rfl, by decide +kernel, rfl, by decide +kernel, by decide +kernel⟩
theorem ok_is_row_sound (C : Ctx K mg) (g_states_in : OkPstatesin P w K mg base) (g_heads_before : OkPheadsbefore P w K mg base) (g_least_head : OkPleasthead P w K mg base) : OkPisrowsound P w K mg base := by
  have sc := scPisrowsound
  refine C.fn (i := 29) rfl rfl sc (fun _ _ _ _ _ _ us hl => match us, hl with | [_, _, _, _, _], _ => rfl) (len_sp ?len) fun cdv A outer s H vs Q E hr h => ⟨_, (pss_cons (ps_asg (pv 3) (pg_tup rfl (pgs_cons (pg_name (i := 7) sc.nd rfl (Or.inl rfl)) (pgs_cons (pg_name (i := 8) sc.nd rfl (Or.inl rfl)) pgs_nil)))) (pss_cons (ps_set (i := 5) sc.nd rfl (Or.inl rfl) (pe_fn g_states_in (hr.mono (by decide)) rfl (pa_cons (pv 0) (pa_cons (pv 2) (pa_cons (pv 4) pa_nil))))) (pss_cons (ps_set (i := 6) sc.nd rfl (Or.inl rfl) (pe_fn g_heads_before (hr.mono (by decide)) rfl (pa_cons (pv 0) (pa_cons (pv 2) (pa_cons (pv 8) (pa_cons (pv 4) pa_nil)))))) (pss_cons (ps_for PassesOwn.never rfl (pi_enumT (by rfl) (C.f 66) (pa_cons (pe_ix ix_seq (pv 8) (pv 4) (fun _ _ => rfl)) pa_nil)) (pg_tup rfl (pgs_cons (pg_name (i := 9) sc.nd rfl (Or.inl rfl)) (pgs_cons (pg_name (i := 10) sc.nd rfl (Or.inl rfl)) pgs_nil))) (pss_one (ps_if (pt_cmpR op_notIn_seq (pv 9) (pv 5) (by rfl)) (pss_one (ps_if (pt_cmpR op_ne (pv 10) pe_int (nomark _)) (pss_one (ps_ret pe_bl)) pss_nil)) (pss_one (ps_if (pt_cmpR op_gt (pv 10) (pe_fn g_least_head (hr.mono (by decide)) rfl (pa_cons (pv 0) (pa_cons (pv 1) (pa_cons (pv 7) (pa_cons (pv 6) (pa_cons (pv 4) (pa_cons (pv 9) pa_nil))))))) (nomark _)) (pss_one (ps_ret pe_bl)) (pss_one (ps_if (PW.pt (pw_and (pt_cmpR op_eq (pv 4) (pe_op op_sub (pe_callB call_len_seq (by rfl) (C.f 69) PySem.boot_len (pa_cons (pv 1) pa_nil)) pe_int) (nomark _)) (pw_and1 (pt_cmpR op_lt (pv 10) pe_int (nomark _))))) (pss_one (ps_ret pe_bl)) pss_nil))))))) (pss_one (ps_ret pe_bl)))))), run_sp h ?body⟩
  case len => exact fun A S ⟨T, ps, br, gs, hs, k, hA, ok, h0, h1, hz, hS⟩ => ⟨_, hA, rfl⟩
  case body =>
    refine fun A S ⟨T, ps, br, gs, hs, k, hA, ok, h0, h1, hz, hS⟩ => ⟨_, hA, fun F hF => ?_⟩
    show TSv F [.bo _, .bo _, .bo _, .bo _, .bo _, .no, .no, .no, .no, .no, .no] [] _ _
    try simp only [cx_K, cx_K2]
    have hle := ok.le
    have hzl := hz.1
    have hhl := hz.2.1
    have hrow := hz.2.2 _ (rowAt_mem (i := k) h0 (by omega))
    have ft : ¬ RowSound T ps br gs hs k → S (vB false) := fun h => hS false ⟨fun z => (nomatch z), fun z => absurd z h⟩
    refine ts_seq (ts_asg ?_)
    repeat nest_cls
    refine tg_tup2 (lv := .b) ?_
    repeat nest_cls
    refine ⟨_, _, _, (by pre_facts), ok, ?_⟩
    repeat nest_cls
    refine ⟨_, _, _, _, (by pre_facts), ok, h0, by omega, hz.2.2, ?_⟩
    repeat nest_cls
    refine ts_forET ?_
    repeat nest_cls
    refine ⟨_, _, _, rfl, IsT.b _, fun n Γ1 μ1 => (∃ e9 e10, Γ1 = [.bo (TF K T), .bo (IL ps), .bo (IL br), .bo (papR K gs hs), .bo (vI k), .rp (IL (statesIn T br k)), .rp (LS ((hBefore T br hs k).map fun q => TP K [vI q.1, vI q.2])), .bo (TP K (gs.map vI)), .bo (TP K (hs.map (rowR K))), e9, e10] ∧ μ1 = []) ∧ ∀ j : Nat, j < n → CellOk T ps br gs hs k j, ⟨⟨_, _, rfl, rfl⟩, fun j hj => absurd hj (Nat.not_lt_zero j)⟩, ?_, ?_⟩
    · rintro n Γ1 μ1 P hP ⟨⟨e9, e10, rfl, rfl⟩, hk⟩
      obtain ⟨hnl, rfl⟩ := at_map hP
      have hn2 : (n : Int) ≤ (T.rates.length : Int) := by omega
      have bad : ¬ CellOk T ps br gs hs k n → S (vB false) := fun h => ft fun r => h (r n (by omega) hn2)
      have go : CellOk T ps br gs hs k n → ∀ j : Nat, j < n + 1 → CellOk T ps br gs hs k j := fun h j hj => by
        rcases Nat.lt_succ_iff_lt_or_eq.mp hj with h2 | h2
        · exact hk j h2
        · rw [h2]; exact h
      repeat nest_cls
      refine ⟨fun hb => ?_, fun hb => ?_⟩
      · have hni : ¬ (n : Int) ∈ statesIn T br k := by simpa using hb
        have ec : CellOk T ps br gs hs k n = (gi (rowAt hs k) n = 0) := by unfold CellOk; rw [if_neg hni]
        repeat nest_cls
        refine ⟨fun hb2 => ?_, fun hb2 => ?_⟩
        · repeat nest_cls
          refine bad fun c => ?_
          rw [ec] at c
          simp [c] at hb2
        · repeat nest_cls
          exact ⟨⟨.rp (vI n), .bo (vI (gi (rowAt hs k) n)), rfl, rfl⟩, go (by rw [ec]; simpa using hb2)⟩
      · have hin : (n : Int) ∈ statesIn T br k := by simpa using hb
        have hne := cands_ne (hs := hs) (own := netC T ps gs k n) hin
        have ec : CellOk T ps br gs hs k n = ((∀ c, c ∈ cands T (hBefore T br hs k) (netC T ps gs k n) n → gi (rowAt hs k) n ≤ c) ∧ (k = (ps.length : Int) - 1 → 0 ≤ gi (rowAt hs k) n)) := by unfold CellOk; rw [if_pos hin]
        repeat nest_cls
        refine ⟨_, _, _, _, _, _, (by pre_facts), ok, h0, h1, by omega, by omega, hn2, by have := hBefore_le ok br hs k; omega, fun q hq => (hBefore_off hq).1, hne, ?_⟩
        repeat nest_cls
        refine ⟨fun hb2 => ?_, fun hb2 => ?_⟩
        · have h2 := of_decide_eq_true hb2
          repeat nest_cls
          refine bad fun c => ?_
          rw [ec] at c
          have := c.1 _ (minL_mem hne)
          omega
        · have h2 := of_decide_eq_false hb2
          have hc : ∀ c, c ∈ cands T (hBefore T br hs k) (netC T ps gs k n) n → gi (rowAt hs k) n ≤ c := fun c hc => by
            have := minL_le hc
            omega
          repeat nest_cls
          refine ⟨fun hb3 => ?_, fun hb3 => ?_⟩
          · have h3 := of_decide_eq_true hb3
            repeat nest_cls
            refine ⟨fun hb4 => ?_, fun hb4 => ?_⟩
            · have h4 := of_decide_eq_true hb4
              repeat nest_cls
              refine bad fun c => ?_
              rw [ec] at c
              have := c.2 h3
              omega
            · have h4 := of_decide_eq_false hb4
              repeat nest_cls
              exact ⟨⟨.rp (vI n), .bo (vI (gi (rowAt hs k) n)), rfl, rfl⟩, go (by rw [ec]; exact ⟨hc, fun _ => by omega⟩)⟩
          · have h3 := of_decide_eq_false hb3
            refine ⟨fun z => (nomatch z), fun _ => ?_⟩
            repeat nest_cls
            exact ⟨⟨.rp (vI n), .bo (vI (gi (rowAt hs k) n)), rfl, rfl⟩, go (by rw [ec]; exact ⟨hc, fun z => absurd z h3⟩)⟩
    · rintro Γ1 μ1 ⟨⟨e9, e10, rfl, rfl⟩, hk⟩
      repeat nest_cls
      refine hS true ⟨fun _ s hs0 hs1 => ?_, fun _ => rfl⟩
      have := hk s.toNat (by rw [List.length_map]; omega)
      rw [Int.toNat_of_nonneg hs0] at this
      exact this
abbrev nPissound : List Str := ["tariff", "prices", "breaks", "paper", "moment", "gain"]
theorem scPissound : FnScope nPissound ["tariff", "prices", "breaks", "paper"] (defScope sPissound) := ⟨rfl, rfl, rfl, by decide +kernel, rfl, by decide +kernel, by decide +kernel⟩
theorem ok_is_sound (C : Ctx K mg) (g_has_sizes : OkPhassizes P w K mg base) (g_is_row_sound : OkPisrowsound P w K mg base) : OkPissound P w K mg base := by
  have sc := scPissound
  refine C.fn (i := 30) rfl rfl sc (fun _ _ _ _ _ _ us hl => match us, hl with | [_, _, _, _], _ => rfl) (len_sp ?len) fun cdv A outer s H vs Q E hr h => ⟨_, (pss_cons (ps_if (PW.pt (pw_or (pt_not (pt_val (pe_fn g_has_sizes (hr.mono (by decide)) rfl (pa_cons (pv 0) (pa_cons (pv 1) (pa_cons (pv 3) pa_nil)))))) (pw_or1 (pt_val (pe_callB (cr_any rfl) (by rfl) (C.f 64) (by decide +kernel) (pa_cons (pe_lc (own := [("gain", 5)]) rfl sc.nd (pi_tup (pe_ix ix_seq (pv 3) pe_int (fun _ _ => rfl))) (blkOk_by (own := [("gain", 5)]) (N := nPissound) (sc := defScope sPissound) (by decide +kernel)) (fun _ _ _ _ _ => pg_name (i := 5) sc.nd rfl (Or.inl rfl)) (fun _ _ _ _ _ => pts_nil) (fun _ _ _ _ _ => (pe_cmpR op_lt (pv 5) pe_int (nomark _)))) pa_nil)))))) (pss_one (ps_ret pe_bl)) pss_nil) (pss_one (ps_ret (pe_callB (cr_all rfl) (by rfl) (C.f 63) (by decide +kernel) (pa_cons (pe_lc (own := [("moment", 4)]) rfl sc.nd (pi_range1 rfl (C.f 73) (pa_cons (pe_callB call_len_seq (by rfl) (C.f 69) PySem.boot_len (pa_cons (pv 1) pa_nil)) pa_nil)) (blkOk_by (own := [("moment", 4)]) (N := nPissound) (sc := defScope sPissound) (by decide +kernel)) (fun _ _ _ _ _ => pg_name (i := 4) sc.nd rfl (Or.inl rfl)) (fun _ _ _ _ _ => pts_nil) (fun _ _ _ _ _ => (pe_fn g_is_row_sound (hr.mono (by decide)) rfl (pa_cons (pv 0) (pa_cons (pv 1) (pa_cons (pv 2) (pa_cons (pv 3) (pa_cons (pv 4) pa_nil)))))))) pa_nil))))), run_sp h ?body⟩
  case len => exact fun A S ⟨T, ps, br, gs, hs, hA, ok, hgl, hhl, hS⟩ => ⟨_, hA, rfl⟩
  case body =>
    refine fun A S ⟨T, ps, br, gs, hs, hA, ok, hgl, hhl, hS⟩ => ⟨_, hA, fun F hF => ?_⟩
    show TSv F [.bo _, .bo _, .bo _, .bo _, .no, .no] [] _ _
    try simp only [cx_K, cx_K2]
    have ft : ¬ PSound T ps br gs hs → S (vB false) := fun h => hS false ⟨fun z => (nomatch z), fun z => absurd z h⟩
    repeat nest_cls
    refine ⟨_, _, _, _, (by pre_facts), hhl, fun b hb => ?_⟩
    repeat nest_cls
    refine ⟨fun hb1 => ?_, fun hb1 => ?_⟩
    · refine ⟨fun _ => ?_, fun z => (nomatch z)⟩
      repeat nest_cls
      refine ft fun r => ?_
      rw [hb.mpr r.sz] at hb1
      cases hb1
    · have sz : Sized T ps gs hs := hb.mp (by cases b with | true => rfl | false => cases hb1)
      have h1 := sz.1
      repeat nest_cls
      refine te_new (tn_fmT (α := Int) ?_)
      repeat nest_cls
      refine ⟨_, gs, vI, fun _ => true, fun g => vB (decide (g < 0)), IsT.b _, by omega, fun g hm L acc => ?_, ?_⟩
      · repeat nest_cls
        refine ⟨rfl, fun _ => ?_⟩
        repeat nest_cls
        exact ⟨rfl, trivial⟩
      · rw [filt_all]
        repeat nest_cls
        have e : gs.map (fun g => vB (decide (g < 0))) = (gs.map fun g => decide (g < 0)).map vB := by rw [List.map_map]; rfl
        rw [e]
        refine rc_any (l := .z) sl_z ?_
        refine ⟨_, rfl, ?_⟩
        rw [List.any_map]
        refine ⟨fun hb2 => ?_, fun hb2 => ?_⟩
        · repeat nest_cls
          refine ft fun r => ?_
          obtain ⟨g, hg, hn⟩ := List.any_eq_true.mp hb2
          have h2 : g < 0 := of_decide_eq_true hn
          have := r.pos g hg
          omega
        · have pos : ∀ g, g ∈ gs → 0 ≤ g := fun g hg => by
            have h2 := List.any_eq_false.mp hb2 g hg
            have h3 : ¬ g < 0 := fun z => h2 (decide_eq_true z)
            omega
          repeat nest_cls
          refine te_new (tn_fmR ?_)
          repeat nest_cls
          refine ⟨_, fun _ => true, fun n => vB (@decide (RowSound T ps br gs hs (n : Nat)) (Classical.propDecidable _)), rfl, by omega, by omega, fun n hn L acc => ?_, ?_⟩
          · repeat nest_cls
            refine ⟨rfl, fun _ => ?_⟩
            repeat nest_cls
            refine ⟨_, _, _, _, _, _, (by pre_facts), ok, by omega, by omega, sz, fun b2 hb2 => ?_⟩
            refine ⟨?_, trivial⟩
            rw [@bdec _ (Classical.propDecidable _) _ hb2]
          · rw [filt_all]
            repeat nest_cls
            have e : (List.range ((ps.length : Nat) : Int).toNat).map (fun n => vB (@decide (RowSound T ps br gs hs (n : Nat)) (Classical.propDecidable _))) = ((List.range ps.length).map fun n => @decide (RowSound T ps br gs hs (n : Nat)) (Classical.propDecidable _)).map vB := by rw [List.map_map]; rfl
            rw [e]
            refine rc_all (l := .z) sl_z ?_
            refine ⟨_, rfl, hS _ ?_⟩
            rw [List.all_map, List.all_eq_true]
            exact ⟨fun h => ⟨sz, pos, fun k hk => @of_decide_eq_true _ (Classical.propDecidable _) (h k (List.mem_range.mpr hk))⟩, fun h k hk => @decide_eq_true _ (Classical.propDecidable _) (h.ok k (List.mem_range.mp hk))⟩
abbrev nPpapersum : List Str := ["needs", "paper", "need", "gain"]
theorem scPpapersum : FnScope nPpapersum ["needs", "paper"] (defScope sPpapersum) := ⟨rfl, rfl, rfl, by decide +kernel, rfl, by decide +kernel, by decide +kernel⟩
theorem ok_paper_sum (C : Ctx K mg)  : OkPpapersum P w K mg base := by
  have sc := scPpapersum
  refine C.fn (i := 31) rfl rfl sc (fun _ _ _ _ _ _ us hl => match us, hl with | [_, _], _ => rfl) (len_sp ?len) fun cdv A outer s H vs Q E hr h => ⟨_, (pss_one (ps_ret (pe_callB (cr_sum rfl) (by rfl) (C.f 76) (by decide +kernel) (pa_cons (pe_lc (own := [("need", 2), ("gain", 3)]) rfl sc.nd (pi_zipM (by rfl) (C.f 78) (pa_cons (pv 0) (pa_cons (pe_ix ix_seq (pv 1) pe_int (fun _ _ => rfl)) pa_nil))) (blkOk_by (own := [("need", 2), ("gain", 3)]) (N := nPpapersum) (sc := defScope sPpapersum) (by decide +kernel)) (fun _ _ _ _ _ => (show PG _ _ (gTup K 2 (gCons (gName 2) (gCons (gName 3) gNil))) from pg_tup rfl (pgs_cons (pg_name (i := 2) sc.nd rfl (Or.inl rfl)) (pgs_cons (pg_name (i := 3) sc.nd rfl (Or.inl rfl)) pgs_nil)))) (fun _ _ _ _ _ => pts_nil) (fun _ _ _ _ _ => (pe_op op_mul (pv 2) (pv 3)))) pa_nil)))), run_sp h ?body⟩
  case len => exact fun A S ⟨ns, gs, hs, hA, hl, h1, hb, hS⟩ => ⟨_, hA, rfl⟩
  case body =>
    refine fun A S ⟨ns, gs, hs, hA, hl, h1, hb, hS⟩ => ⟨_, hA, fun F hF => ?_⟩
    show TSv F [.bo _, .bo _, .no, .no] [] _ _
    try simp only [cx_K, cx_K2]
    repeat nest_cls
    refine te_new (tn_fmZM (α := Int) (β := Int) (by decide) ?_)
    repeat nest_cls
    refine ⟨_, _, _, _, ns, gs, vI, vI, fun n g => vI (n * g), rfl, IsL.b _, IsT.b _, hl, by omega, fun n g hn hg L acc => ?_, ?_⟩
    · have h3 := hb n hn
      repeat nest_cls
      refine ⟨rfl, fun _ => ?_⟩
      repeat nest_cls
      exact ⟨rfl, trivial⟩
    · repeat nest_cls
      have e : List.zipWith (fun n g : Int => vI (n * g)) ns gs = (List.zipWith (fun n g => n * g) ns gs).map vI := by rw [List.map_zipWith]
      rw [e]
      repeat nest_cls
      exact hS
abbrev nPaccepts : List Str := ["tariff", "prices", "needs", "breaks", "plan", "paper"]
theorem scPaccepts : FnScope nPaccepts ["tariff", "prices", "needs", "breaks", "plan", "paper"] (defScope sPaccepts) := ⟨rfl, rfl, rfl, by decide +kernel, rfl, by decide +kernel, by decide +kernel⟩
theorem ok_accepts (C : Ctx K mg) (g_plan_cost : OkPplancost P w K mg base) (g_paper_sum : OkPpapersum P w K mg base) (g_fits : OkPfits P w K mg base) (g_is_sound : OkPissound P w K mg base) : OkPaccepts P w K mg base := by
  have sc := scPaccepts
  refine C.fn (i := 32) rfl rfl sc (fun _ _ _ _ _ _ us hl => match us, hl with | [_, _, _, _, _, _], _ => rfl) (len_sp ?len) fun cdv A outer s H vs Q E hr h => ⟨_, (pss_cons (ps_if (PW.pt (pw_or (pt_not (pt_val (pe_fn g_fits (hr.mono (by decide)) rfl (pa_cons (pv 0) (pa_cons (pv 1) (pa_cons (pv 2) (pa_cons (pv 3) (pa_cons (pv 4) pa_nil)))))))) (pw_or1 (pt_not (pt_val (pe_fn g_is_sound (hr.mono (by decide)) rfl (pa_cons (pv 0) (pa_cons (pv 1) (pa_cons (pv 3) (pa_cons (pv 5) pa_nil)))))))))) (pss_one (ps_ret pe_bl)) pss_nil) (pss_one (ps_ret (pe_cmpR op_eq (pe_fn g_plan_cost (hr.mono (by decide)) rfl (pa_cons (pv 0) (pa_cons (pv 1) (pa_cons (pv 3) (pa_cons (pv 4) pa_nil))))) (pe_fn g_paper_sum (hr.mono (by decide)) rfl (pa_cons (pv 2) (pa_cons (pv 5) pa_nil))) (nomark _))))), run_sp h ?body⟩
  case len => exact fun A S ⟨T, ps, ns, br, pl, gs, hs, hA, ok, rok, hpl, hgl, hhl, hS⟩ => ⟨_, hA, rfl⟩
  case body =>
    refine fun A S ⟨T, ps, ns, br, pl, gs, hs, hA, ok, rok, hpl, hgl, hhl, hS⟩ => ⟨_, hA, fun F hF => ?_⟩
    show TSv F [.bo _, .bo _, .bo _, .bo _, .bo _, .bo _] [] _ _
    try simp only [cx_K, cx_K2]
    have ft : ¬ (Fits T ps.length ns br pl ∧ PSound T ps br gs hs ∧ planCost T ps br pl = pSum ns gs) → S (vB false) := fun h => hS false ⟨fun z => (nomatch z), fun z => absurd z h⟩
    have hnl := rok.len
    have hfew := rok.few
    repeat nest_cls
    refine ⟨_, _, _, _, _, (by pre_facts), ok, rok, hpl, fun b hb => ?_⟩
    repeat nest_cls
    refine ⟨fun hb1 => ?_, fun hb1 => ?_⟩
    · refine ⟨fun _ => ?_, fun z => (nomatch z)⟩
      repeat nest_cls
      refine ft fun r => ?_
      rw [hb.mpr r.1] at hb1
      cases hb1
    · have hf := hb.mp (by cases b with | true => rfl | false => cases hb1)
      repeat nest_cls
      refine ⟨_, _, _, _, _, (by pre_facts), ok, hgl, hhl, fun b2 hb2 => ?_⟩
      repeat nest_cls
      refine ⟨fun hb3 => ?_, fun hb3 => ?_⟩
      · repeat nest_cls
        refine ft fun r => ?_
        rw [hb2.mpr r.2.1] at hb3
        cases hb3
      · have hs2 := hb2.mp (by cases b2 with | true => rfl | false => cases hb3)
        have hgl2 := hs2.sz.1
        repeat nest_cls
        refine ⟨_, _, _, _, (by pre_facts), ok, hf.1, hpl, ?_⟩
        repeat nest_cls
        refine ⟨_, _, _, (by pre_facts), by omega, by omega, fun n hn => ?_, ?_⟩
        · obtain ⟨i, hi0, hi1, e⟩ := mem_gi hn
          have := rok.nb i hi0 hi1
          omega
        · repeat nest_cls
          exact hS _ ⟨fun h => ⟨hf, hs2, of_decide_eq_true h⟩, fun h => decide_eq_true h.2.2⟩
end
theorem evPlan_succ {T : Tar} {br : List Int} {pl : List (List Int)} {j : Nat} {row : List Int} (h : pl[j]? = some row) : evPlan T br (pl.take (j + 1)) = evPlan T br (pl.take j) ++ evRow T br row := by
  have lt := (List.getElem?_eq_some_iff.mp h).1
  have e : pl[j] = row := (List.getElem?_eq_some_iff.mp h).2
  unfold evPlan
  rw [List.take_succ_eq_append_getElem lt, e, List.flatMap_append]
  simp
theorem take_all {α : Type} {xs : List α} {P : α → Prop} (h : ∀ x, x ∈ xs → P x) (j : Nat) : ∀ x, x ∈ xs.take j → P x := fun x hx => h x (List.mem_of_mem_take hx)
section
variable {P : Program} {w : World} {K : PySem.W.Frag} {mg : Str → Option Value} {base : Heap}

abbrev nPcountway : List Str := ["used", "start", "end"]
theorem scPcountway : FnScope nPcountway ["used", "start", "end"] (defScope sPcountway) := ⟨rfl, rfl, rfl, by decide +kernel, rfl, by decide +kernel, by decide +kernel⟩
theorem ok_count_way (C : Ctx K mg)  : OkPcountway P w K mg base := by
  have sc := scPcountway
  refine C.fn (i := 20) rfl rfl sc (fun _ _ _ _ _ _ us hl => match us, hl with | [_, _, _], _ => rfl) (len_spM ?len) fun cdv A outer s H vs Q E hr h => ⟨_, (pss_one (ps_if (pt_cmpR (op_neD hr.units) (pv 1) (pv 2) (nomark _)) (pss_one (ps_nput hr.units (pv 0) (pe_tup (pa_cons (pv 1) (pa_cons (pv 2) pa_nil))) (pe_op op_add (pe_nget2 hr.units (pv 0) (pe_tup (pa_cons (pv 1) (pa_cons (pv 2) pa_nil))) pe_int ⟨rfl, rfl, rfl, rfl⟩) pe_int) rfl)) pss_nil)), run_spM h ?body⟩
  case len => exact fun A S o1 o2 ⟨kv, p, q, hA, hl, h1, h2, hS⟩ => ⟨_, hA, rfl⟩
  case body =>
    refine fun A S o1 o2 ⟨kv, p, q, hA, hl, h1, h2, hS⟩ => ⟨_, hA, fun F dl hF => ?_⟩
    show TSv F [.ow _, .rp _, .rp _] [_] _ _
    try simp only [cx_K, cx_K2, cx_P, cx_w, cx_P2, cx_w2]
    subst h1 h2
    refine ts_if ?_
    repeat nest_cls
    refine rop_nePl (dr_z dp_pl) (dr_z dp_pl) ?_
    repeat nest_cls
    refine ⟨fun hb => ?_, fun hb => ?_⟩
    · have hn : ¬ p = q := by simpa using hb
      refine ts_nput (i := 0) (j := 0) (by with_unfolding_all rfl) (by with_unfolding_all rfl) (by omega) ?_
      refine te_op (te_nget2 ?_)
      repeat o_readsAll
      refine ⟨⟨kv, dn_o (j := 0) (by with_unfolding_all rfl)⟩, ?_⟩
      repeat o_readsAll
      refine ⟨kv, wyK p q, 0, rfl, dn_o (j := 0) (by with_unfolding_all rfl), kr_z (ky_wy p q), ?_⟩
      repeat o_readsAll
      refine ⟨_, wyK p q, rfl, ky_wy p q, ?_, hS⟩
      rw [cntW, if_neg hn]
      rfl
    · have hn : p = q := by simpa using hb
      repeat nest_cls
      refine ⟨?_, hS⟩
      rw [cntW, if_pos hn]
abbrev nPusedways : List Str := ["tariff", "breaks", "plan", "used", "row", "place", "moment", "state", "after"]
theorem scPusedways : FnScope nPusedways ["tariff", "breaks", "plan"] (defScope sPusedways) := ⟨rfl, rfl, rfl, by decide +kernel, rfl, by decide +kernel, by decide +kernel⟩
theorem ok_used_ways (C : Ctx K mg) (g_count_way : OkPcountway P w K mg base) (g_place_after : OkPplaceafter P w K mg base) (g_before_of : OkPbeforeof P w K mg base) (g_off : OkPoff P w K mg base) : OkPusedways P w K mg base := by
  have sc := scPusedways
  refine C.fn (i := 21) rfl rfl sc (fun _ _ _ _ _ _ us hl => match us, hl with | [_, _, _], _ => rfl) (len_sp ?len) fun cdv A outer s H vs Q E hr h => ⟨_, (pss_cons (ps_set (i := 3) sc.nd rfl (Or.inl rfl) pe_nnew) (pss_cons (ps_for PassesOwn.never rfl (pi_list (pv 2)) (pg_name (i := 4) sc.nd rfl (Or.inl rfl)) (pss_cons (ps_set (i := 5) sc.nd rfl (Or.inl rfl) (pe_glob (v := .ref (He.ga K "GROUND")) rfl (C.g 62) rfl)) (pss_cons (ps_for PassesOwn.never rfl (pi_enum (by rfl) (C.f 66) (pa_cons (pv 4) pa_nil)) (pg_tup rfl (pgs_cons (pg_name (i := 6) sc.nd rfl (Or.inl rfl)) (pgs_cons (pg_name (i := 7) sc.nd rfl (Or.inl rfl)) pgs_nil))) (pss_cons (ps_if (pt_cmpR op_eq (pe_fn g_before_of (hr.mono (by decide)) rfl (pa_cons (pv 0) (pa_cons (pv 1) (pa_cons (pv 4) (pa_cons (pv 6) pa_nil))))) (pe_fn g_off (hr.mono (by decide)) rfl (pa_cons (pv 0) pa_nil)) (nomark _)) (pss_cons (ps_expr (pe_fn g_count_way (hr.mono (by decide)) rfl (pa_cons (pv 3) (pa_cons (pv 5) (pa_cons (pe_glob (v := .ref (He.ga K "GROUND")) rfl (C.g 62) rfl) pa_nil))))) (pss_one (ps_set (i := 5) sc.nd rfl (Or.inl rfl) (pe_glob (v := .ref (He.ga K "GROUND")) rfl (C.g 62) rfl)))) pss_nil) (pss_cons (ps_set (i := 8) sc.nd rfl (Or.inl rfl) (pe_fn g_place_after (hr.mono (by decide)) rfl (pa_cons (pv 0) (pa_cons (pv 6) (pa_cons (pv 7) pa_nil))))) (pss_cons (ps_if (pt_cmpR op_eq (pv 7) pe_int (nomark _)) (pss_cons (ps_expr (pe_fn g_count_way (hr.mono (by decide)) rfl (pa_cons (pv 3) (pa_cons (pv 5) (pa_cons (pe_tup (pa_cons pe_str (pa_cons (pv 6) (pa_cons pe_int pa_nil)))) pa_nil))))) (pss_one (ps_set (i := 5) sc.nd rfl (Or.inl rfl) (pe_tup (pa_cons pe_str (pa_cons (pv 6) (pa_cons pe_int pa_nil))))))) pss_nil) (pss_cons (ps_expr (pe_fn g_count_way (hr.mono (by decide)) rfl (pa_cons (pv 3) (pa_cons (pv 5) (pa_cons (pv 8) pa_nil))))) (pss_one (ps_set (i := 5) sc.nd rfl (Or.inl rfl) (pv 8)))))))) (pss_one (ps_expr (pe_fn g_count_way (hr.mono (by decide)) rfl (pa_cons (pv 3) (pa_cons (pv 5) (pa_cons (pe_glob (v := .ref (He.ga K "GROUND")) rfl (C.g 62) rfl) pa_nil))))))))) (pss_one (ps_ret (pv 3))))), run_sp h ?body⟩
  case len => exact fun A S ⟨T, br, pl, hA, ok, hpl, hrow, hS⟩ => ⟨_, hA, rfl⟩
  case body =>
    refine fun A S ⟨T, br, pl, hA, ok, hpl, hrow, hS⟩ => ⟨_, hA, fun F hF => ?_⟩
    show TSv F [.bo _, .bo _, .bo _, .no, .no, .no, .no, .no, .no] [] _ _
    try simp only [cx_K, cx_K2, cx_P, cx_w, cx_P2, cx_w2]
    have hle := ok.le
    refine ts_seq (ts_nnew (K := K) fun l => ?_)
    refine ts_seq (ts_forL ?_)
    repeat o_readsAll
    refine ⟨_, _, IsL.b _, fun j Γ1 μ1 => ∃ e4 e5 e6 e7 e8, Γ1 = [.bo (TF K T), .bo (IL br), .bo (ILL pl), .ow l, e4, e5, e6, e7, e8] ∧ μ1 = [(l, obN P w K l ((evPlan T br (pl.take j)).foldl cntW []))], ⟨_, _, _, _, _, rfl, rfl⟩, ?_, ?_⟩
    · rintro j Γ1 μ1 R hR ⟨e4, e5, e6, e7, e8, rfl, rfl⟩
      obtain ⟨row, hrw, rfl⟩ := at_mapF hR
      have hjl := (List.getElem?_eq_some_iff.mp hrw).1
      have hrl := hrow row (List.mem_of_getElem? hrw)
      have hk0 : ((evPlan T br (pl.take j)).foldl cntW []).length ≤ 30100 := by
        have h1 := fold_length (evPlan T br (pl.take j)) []
        have h2 := evPlan_length T br (pl.take j) (by rw [List.length_take]; omega) (take_all hrow j)
        simp at h1
        omega
      have hsu : (evPlan T br (pl.take (j + 1))).foldl cntW [] = (evRow T br row).foldl cntW ((evPlan T br (pl.take j)).foldl cntW []) := by
        rw [evPlan_succ hrw, List.foldl_append]
      generalize hk : (evPlan T br (pl.take j)).foldl cntW [] = kv0 at hk0 hsu ⊢
      refine tg_name ?_
      refine ts_seq (ts_set ?_)
      repeat o_readsAll
      refine ts_seq (ts_forE ?_)
      repeat o_readsAll
      refine ⟨_, _, _, rfl, IsL.b _, fun k Γ1 μ1 => ∃ e6 e7 e8, Γ1 = [.bo (TF K T), .bo (IL br), .bo (ILL pl), .ow l, .bo (IL row), .rp (plR K (evUp T br row k).1), e6, e7, e8] ∧ μ1 = [(l, obN P w K l ((evUp T br row k).2.foldl cntW kv0))], ⟨_, _, _, rfl, rfl⟩, ?_, ?_⟩
      · rintro k Γ1 μ1 R hR2 ⟨e6, e7, e8, rfl, rfl⟩
        obtain ⟨hkl, rfl⟩ := at_map hR2
        have hup := evUp_length T br row k
        have hfl : ∀ es : List (Pl × Pl), es.length ≤ 310 → (es.foldl cntW kv0).length < 90000 := fun es h => by
          have := fold_length es kv0
          omega
        have hst : evUp T br row (k + 1) = evStep T br row k (evUp T br row k) := rfl
        generalize evUp T br row k = x at hup hst ⊢
        generalize hx1 : (if bef T br row k = (T.rates.length : Int) then (Pl.ground, x.2 ++ [(x.1, Pl.ground)]) else x) = x1
        have hu1 : x1.2.length ≤ 3 * k + 1 := by
          rw [← hx1]
          split
          · simp
            omega
          · omega
        generalize hx2 : (if gi row k = 0 then (Pl.inn k, x1.2 ++ [(x1.1, Pl.inn k)]) else x1) = x2
        have hu2 : x2.2.length ≤ 3 * k + 2 := by
          rw [← hx2]
          split
          · simp
            omega
          · omega
        have hes : evStep T br row k x = (plAfter T k (gi row k), x2.2 ++ [(x2.1, plAfter T k (gi row k))]) := by
          unfold evStep
          simp only [hx1, hx2]
        have hfin := hst.trans hes
        refine ts_seq (ts_join (fun Γ1 μ1 => Γ1 = [.bo (TF K T), .bo (IL br), .bo (ILL pl), .ow l, .bo (IL row), .rp (plR K x1.1), .rp (vI (k : Nat)), .bo (vI (gi row k)), e8] ∧ μ1 = [(l, obN P w K l (x1.2.foldl cntW kv0))]) ?_ ?_)
        · repeat nest_cls
          refine ⟨_, _, _, _, (by pre_facts), by omega, by omega, ?_⟩
          repeat nest_cls
          refine ⟨_, (by pre_facts), ?_⟩
          repeat nest_cls
          refine ⟨fun hb => ?_, fun hb => ?_⟩
          · rw [if_pos (of_decide_eq_true hb)] at hx1
            subst hx1
            refine ts_seq (ts_callM (j := 0) ?_)
            repeat o_readsAll
            refine ⟨l, _, fun l => obN P w K l (x.2.foldl cntW kv0), _, rfl, rfl, x.2.foldl cntW kv0, x.1, .ground, ⟨Rp.Le.rfl, Rp.Le.rfl, trivial⟩, hfl _ (by omega), rfl, rfl, ?_⟩
            repeat nest_cls
            refine ⟨rfl, ?_⟩
            show [(l, obN P w K l (cntW (x.2.foldl cntW kv0) (x.1, .ground)))] = _
            rw [List.foldl_append]
            rfl
          · rw [if_neg (of_decide_eq_false hb)] at hx1
            subst hx1
            repeat nest_cls
            exact ⟨rfl, rfl⟩
        · rintro Γ1 μ1 ⟨rfl, rfl⟩
          refine ts_seq (ts_set ?_)
          repeat o_readsAll
          refine ⟨_, _, _, (by pre_facts), ?_⟩
          refine ts_seq (ts_join (fun Γ1 μ1 => Γ1 = [.bo (TF K T), .bo (IL br), .bo (ILL pl), .ow l, .bo (IL row), .rp (plR K x2.1), .rp (vI (k : Nat)), .bo (vI (gi row k)), .rp (plR K (plAfter T k (gi row k)))] ∧ μ1 = [(l, obN P w K l (x2.2.foldl cntW kv0))]) ?_ ?_)
          · repeat nest_cls
            refine ⟨fun hb => ?_, fun hb => ?_⟩
            · rw [if_pos (of_decide_eq_true hb)] at hx2
              subst hx2
              refine ts_seq (ts_callM (j := 0) ?_)
              repeat o_readsAll
              refine ⟨l, _, fun l => obN P w K l (x1.2.foldl cntW kv0), _, rfl, rfl, x1.2.foldl cntW kv0, x1.1, .inn k, ⟨Rp.Le.rfl, Rp.Le.rfl, trivial⟩, hfl _ (by omega), rfl, rfl, ?_⟩
              repeat nest_cls
              refine ⟨rfl, ?_⟩
              show [(l, obN P w K l (cntW (x1.2.foldl cntW kv0) (x1.1, .inn k)))] = _
              rw [List.foldl_append]
              rfl
            · rw [if_neg (of_decide_eq_false hb)] at hx2
              subst hx2
              repeat nest_cls
              exact ⟨rfl, rfl⟩
          · rintro Γ1 μ1 ⟨rfl, rfl⟩
            refine ts_seq (ts_callM (j := 0) ?_)
            repeat o_readsAll
            refine ⟨l, _, fun l => obN P w K l (x2.2.foldl cntW kv0), _, rfl, rfl, x2.2.foldl cntW kv0, x2.1, plAfter T k (gi row k), ⟨Rp.Le.rfl, Rp.Le.rfl, trivial⟩, hfl _ (by omega), rfl, rfl, ?_⟩
            repeat nest_cls
            simp only [hfin]
            refine ⟨.rp (vI (k : Nat)), .bo (vI (gi row k)), .rp (plR K (plAfter T k (gi row k))), rfl, ?_⟩
            show [(l, obN P w K l (cntW (x2.2.foldl cntW kv0) (x2.1, plAfter T k (gi row k))))] = _
            rw [List.foldl_append]
            rfl
      · rintro Γ1 μ1 ⟨e6, e7, e8, rfl, rfl⟩
        rw [List.length_map]
        have hup := evUp_length T br row row.length
        have hfl := fold_length (evUp T br row row.length).2 kv0
        refine ts_callM (j := 0) ?_
        repeat o_readsAll
        refine ⟨l, _, fun l => obN P w K l ((evUp T br row row.length).2.foldl cntW kv0), _, rfl, rfl, (evUp T br row row.length).2.foldl cntW kv0, (evUp T br row row.length).1, .ground, ⟨Rp.Le.rfl, Rp.Le.rfl, trivial⟩, by omega, rfl, rfl, ?_⟩
        refine ⟨.bo (IL row), .rp (plR K (evUp T br row row.length).1), e6, e7, e8, rfl, ?_⟩
        rw [hsu]
        unfold evRow
        rw [List.foldl_append]
        rfl
    · rintro Γ1 μ1 ⟨e4, e5, e6, e7, e8, rfl, rfl⟩
      rw [List.length_map, List.take_length]
      show TSv F _ _ _ _
      exact ts_retN (i := 3) (j := 0) (by with_unfolding_all rfl) (by with_unfolding_all rfl) hS
end
theorem plAfter_in (T : Tar) (t s : Int) (n : Int) : Pl.inR n (plAfter T t s) := by
  unfold plAfter
  split
  · trivial
  · split <;> trivial
theorem waysB_in {T : Tar} {ps br : List Int} {t b n : Int} {x : Way} (h : x ∈ waysB T ps br t b) : Pl.inR n x.s := by
  unfold waysB at h
  split at h
  · rcases List.mem_cons.mp h with rfl | h
    · exact plAfter_in ..
    · obtain ⟨s, _, rfl⟩ := List.mem_map.mp h
      exact plAfter_in ..
  · cases h
theorem waysAt_in {T : Tar} {ps br : List Int} {t n : Int} (h0 : 0 ≤ t) (h1 : t < n) {x : Way} (h : x ∈ waysAt T ps br t) : Pl.inR n x.s := by
  unfold waysAt at h
  rcases List.mem_append.mp h with h | h
  · unfold waysInto at h
    rcases List.mem_append.mp h with h | h
    · rcases List.mem_cons.mp h with rfl | h
      · trivial
      · rcases List.mem_cons.mp h with rfl | h
        · exact ⟨h0, h1⟩
        · cases h
    · split at h
      · cases h
      · obtain ⟨b, _, hb⟩ := List.mem_flatMap.mp h
        exact waysB_in hb
  · obtain ⟨s, _, rfl⟩ := List.mem_map.mp h
    exact plAfter_in ..
theorem allWays_in {T : Tar} {ps br : List Int} {x : Way} (h : x ∈ allWays T ps br) : Pl.inR ps.length x.s := by
  unfold allWays at h
  obtain ⟨t, ht, hx⟩ := List.mem_flatMap.mp h
  have := List.mem_range.mp ht
  exact waysAt_in (by omega) (by omega) hx
theorem statesIn_le5 {T : Tar} (o : T.Ok) (br : List Int) (k : Int) : (statesIn T br k).length ≤ 5 := statesIn_le o br k
theorem waysB_le10 {T : Tar} (o : T.Ok) (ps br : List Int) (t b : Int) (hb : 0 ≤ b) : (waysB T ps br t b).length ≤ 10 := by
  have := o.le
  unfold waysB
  split
  · rw [List.length_cons, List.length_map]
    unfold rg2
    rw [List.length_map, List.length_range]
    unfold mx1
    split <;> omega
  · exact Nat.zero_le _
theorem waysAt_le105 {T : Tar} (o : T.Ok) (ps br : List Int) (t : Int) : (waysAt T ps br t).length ≤ 105 := by
  have hle := o.le
  have h2 := statesIn_le o br t
  unfold waysAt
  rw [List.length_append, List.length_map]
  have h3 : ((statesIn T br t).filter fun s => decide (s ≠ (T.rates.length : Int))).length ≤ (statesIn T br t).length := List.length_filter_le ..
  have h4 : (waysInto T ps br t).length ≤ 100 := by
    unfold waysInto
    rw [List.length_append]
    split
    · simp
    · have h := flatL_le (waysB T ps br t) 10 (rgI T.rates.length) fun b hb => waysB_le10 o ps br t b (by
        unfold rgI at hb
        obtain ⟨k, _, rfl⟩ := List.mem_map.mp hb
        omega)
      unfold rgI at h ⊢
      rw [List.length_map, List.length_range] at h
      simp only [List.length_cons, List.length_nil]
      omega
  omega
theorem allWays_le {T : Tar} (o : T.Ok) (ps br : List Int) (h : ps.length ≤ 100) : (allWays T ps br).length ≤ 10500 := by
  have := flatL_le (fun (t : Nat) => waysAt T ps br t) 105 (List.range ps.length) fun t _ => waysAt_le105 o ps br t
  unfold allWays
  rw [List.length_range] at this
  omega
theorem flat_succ {α β : Type} (xs : List α) (f : α → List β) {n : Nat} {x : α} (h : xs[n]? = some x) : (xs.take (n + 1)).flatMap f = (xs.take n).flatMap f ++ f x := by
  have lt := (List.getElem?_eq_some_iff.mp h).1
  have e : xs[n] = x := (List.getElem?_eq_some_iff.mp h).2
  rw [List.take_succ_eq_append_getElem lt, e, List.flatMap_append]
  simp
theorem isIn_dec (p : Pl) : decide (V.str p.w = V.str "in") = match p with | .inn _ => true | _ => false := by
  cases p with
  | ground => exact decide_eq_false fun z => by have e := V.str.inj z; revert e; unfold Pl.w; decide
  | inn t => exact decide_eq_true rfl
  | out t => exact decide_eq_false fun z => by have e := V.str.inj z; revert e; show ¬ (("out" : Str) = "in"); decide
  | asleep t s => exact decide_eq_false fun z => by have e := V.str.inj z; revert e; show ¬ (("asleep" : Str) = "in"); decide
section
variable {P : Program} {w : World} {K : PySem.W.Frag} {mg : Str → Option Value} {base : Heap}

abbrev nPleftways : List Str := ["tariff", "prices", "needs", "breaks", "plan", "used", "found", "start", "end", "cost", "least"]
theorem scPleftways : FnScope nPleftways ["tariff", "prices", "needs", "breaks", "plan"] (defScope sPleftways) := ⟨rfl, rfl, rfl, by decide +kernel, rfl, by decide +kernel, by decide +kernel⟩
theorem ok_left_ways (C : Ctx K mg) (g_used_ways : OkPusedways P w K mg base) (g_all_ways : OkPallways P w K mg base) : OkPleftways P w K mg base := by
  have sc := scPleftways
  refine C.fn (i := 22) rfl rfl sc (fun _ _ _ _ _ _ us hl => match us, hl with | [_, _, _, _, _], _ => rfl) (len_sp ?len) fun cdv A outer s H vs Q E hr h => ⟨_, (pss_cons (ps_set (i := 5) sc.nd rfl (Or.inl rfl) (pe_fn g_used_ways (hr.mono (by decide)) rfl (pa_cons (pv 0) (pa_cons (pv 3) (pa_cons (pv 4) pa_nil))))) (pss_cons (ps_set (i := 6) sc.nd rfl (Or.inl rfl) (pe_lst pa_nil)) (pss_cons (ps_for PassesOwn.never rfl (pi_list (pe_fn g_all_ways (hr.mono (by decide)) rfl (pa_cons (pv 0) (pa_cons (pv 1) (pa_cons (pv 3) pa_nil))))) (pg_tup rfl (pgs_cons (pg_name (i := 7) sc.nd rfl (Or.inl rfl)) (pgs_cons (pg_name (i := 8) sc.nd rfl (Or.inl rfl)) (pgs_cons (pg_name (i := 9) sc.nd rfl (Or.inl rfl)) pgs_nil)))) (pss_cons (ps_expr (pe_bm PySem.F.plainAttrs_list PySem.F.slot_list_append PySem.F.type_list_append mt_append (pv 6) (pa_cons (pe_tup (pa_cons (pv 7) (pa_cons (pv 8) (pa_cons (pv 9) pa_nil)))) pa_nil))) (pss_cons (ps_set (i := 10) sc.nd rfl (Or.inl rfl) (pe_ifExp (pt_cmpR op_eq (pe_ix ix_seq (pv 7) pe_int (fun _ _ => rfl)) pe_str (nomark _)) (pe_ix ix_seq (pv 2) (pe_ix ix_seq (pv 7) pe_int (fun _ _ => rfl)) (fun _ _ => rfl)) pe_int)) (pss_one (ps_if (pt_cmpR op_gt (pe_nget2 hr.units (pv 5) (pe_tup (pa_cons (pv 7) (pa_cons (pv 8) pa_nil))) pe_int ⟨rfl, rfl, rfl, rfl⟩) (pv 10) (nomark _)) (pss_one (ps_expr (pe_bm PySem.F.plainAttrs_list PySem.F.slot_list_append PySem.F.type_list_append mt_append (pv 6) (pa_cons (pe_tup (pa_cons (pv 8) (pa_cons (pv 7) (pa_cons (pe_un un_neg (pv 9)) pa_nil)))) pa_nil)))) pss_nil))))) (pss_one (ps_ret (pv 6)))))), run_sp h ?body⟩
  case len => exact fun A S ⟨T, ps, ns, br, pl, hA, ok, h100, hnl, hpl, hrow, hS⟩ => ⟨_, hA, rfl⟩
  case body =>
    refine fun A S ⟨T, ps, ns, br, pl, hA, ok, h100, hnl, hpl, hrow, hS⟩ => ⟨_, hA, fun F hF => ?_⟩
    show TSv F [.bo _, .bo _, .bo _, .bo _, .bo _, .no, .no, .no, .no, .no, .no] [] _ _
    try simp only [cx_K, cx_K2, cx_P, cx_w, cx_P2, cx_w2]
    refine ts_seq (ts_set ?_)
    repeat o_readsAll
    refine ⟨_, _, _, (by pre_facts), ok, hpl, hrow, ?_⟩
    refine ts_seq (ts_setN ?_)
    repeat o_readsAll
    intro l
    refine ts_seq (ts_forL ?_)
    repeat o_readsAll
    refine ⟨_, _, _, (by pre_facts), ok, h100, ?_⟩
    have haw := allWays_le ok ps br h100
    generalize hkv : usedKv T br pl = kv
    refine ⟨_, _, .z _, fun j Γ1 μ1 => ∃ e7 e8 e9 e10, Γ1 = [.bo (TF K T), .bo (IL ps), .bo (IL ns), .bo (IL br), .bo (ILL pl), .rp (DR P w K kv), .ow l, e7, e8, e9, e10] ∧ μ1 = [(l, obL ((((allWays T ps br).take j).flatMap (backW ns kv)).map (wayR K)))], ⟨_, _, _, _, rfl, rfl⟩, ?_, ?_⟩
    · rintro j Γ1 μ1 R hR ⟨e7, e8, e9, e10, rfl, rfl⟩
      obtain ⟨x, hx, rfl⟩ := at_mapF hR
      have hsu := flat_succ (allWays T ps br) (backW ns kv) hx
      have hin := allWays_in (List.mem_of_getElem? hx)
      have hle := flatL_le (backW ns kv) 2 ((allWays T ps br).take j) fun x _ => backW_le ns kv x
      rw [List.length_take] at hle
      generalize hpre : ((allWays T ps br).take j).flatMap (backW ns kv) = pre at hle hsu ⊢
      obtain ⟨p, q, c⟩ := x
      refine tg_tup3 (lv := .z) ?_
      refine ts_seq (ts_app (i := 6) (j := 0) (by with_unfolding_all rfl) (by with_unfolding_all rfl) (by rw [List.length_map]; omega) ?_)
      repeat o_readsAll
      refine ts_seq (ts_join (fun Γ1 μ1 => Γ1 = [.bo (TF K T), .bo (IL ps), .bo (IL ns), .bo (IL br), .bo (ILL pl), .rp (DR P w K kv), .ow l, .rp (plR K p), .rp (plR K q), .rp (vI c), .rp (vI (leastOf ns p))] ∧ μ1 = [(l, obL (pre.map (wayR K) ++ [wayR K ⟨p, q, c⟩]))]) ?_ ?_)
      · refine ts_set ?_
        repeat o_readsAll
        refine rop_eq rfl ?_
        repeat o_readsAll
        rw [isIn_dec]
        refine ⟨fun hb => ?_, fun hb => ?_⟩
        · cases p with
          | inn t =>
            obtain ⟨h1, h2⟩ := hin
            repeat o_readsAll
            exact rop_ixE (SqLs.q sl_b) (at_gi (i := t) h1 (by omega)) ⟨rfl, rfl⟩
          | ground => cases hb
          | out t => cases hb
          | asleep t s => cases hb
        · cases p with
          | inn t => cases hb
          | ground =>
            repeat o_readsAll
            exact ⟨rfl, rfl⟩
          | out t =>
            repeat o_readsAll
            exact ⟨rfl, rfl⟩
          | asleep t s =>
            repeat o_readsAll
            exact ⟨rfl, rfl⟩
      · rintro Γ1 μ1 ⟨rfl, rfl⟩
        refine ts_if ?_
        repeat o_readsAll
        refine te_nget2 ?_
        repeat o_readsAll
        refine ⟨⟨kv, dn_z⟩, ?_⟩
        repeat o_readsAll
        refine ⟨kv, wyK p q, 0, rfl, dn_z, kr_z (ky_wy p q), ?_⟩
        repeat o_readsAll
        refine ⟨fun hb => ?_, fun hb => ?_⟩
        · have hlt := of_decide_eq_true hb
          have eb : backW ns kv ⟨p, q, c⟩ = [⟨p, q, c⟩, ⟨q, p, -c⟩] := by
            unfold backW
            rw [if_pos hlt]
          refine ts_app (i := 6) (j := 0) (by with_unfolding_all rfl) (by with_unfolding_all rfl) (by rw [List.length_append, List.length_map]; simp only [List.length_cons, List.length_nil]; omega) ?_
          repeat o_readsAll
          refine ⟨_, _, _, _, rfl, ?_⟩
          rw [hsu, eb]
          show [(l, obL (_ ++ [wayR K ⟨q, p, -c⟩]))] = _
          simp only [List.map_append, List.map_cons, List.map_nil, List.append_assoc]
          rfl
        · have hlt := of_decide_eq_false hb
          have eb : backW ns kv ⟨p, q, c⟩ = [⟨p, q, c⟩] := by
            unfold backW
            rw [if_neg hlt]
          repeat nest_cls
          refine ⟨_, _, _, _, rfl, ?_⟩
          rw [hsu, eb]
          simp only [List.map_append, List.map_cons, List.map_nil]
    · rintro Γ1 μ1 ⟨e7, e8, e9, e10, rfl, rfl⟩
      rw [List.length_map, List.take_length]
      show TSv F _ _ _ _
      refine ts_retO (i := 6) (j := 0) (by with_unfolding_all rfl) (by with_unfolding_all rfl) ?_
      rw [leftWays, hkv] at hS
      exact hS
end
section
variable {P : Program} {w : World} {K : PySem.W.Frag} {mg : Str → Option Value} {base : Heap}

abbrev nPdistances : List Str := ["ways", "found", "is_changing", "start", "end", "cost"]
theorem scPdistances : FnScope nPdistances ["ways"] (defScope sPdistances) := ⟨rfl, rfl, rfl, by decide +kernel, rfl, by decide +kernel, by decide +kernel⟩
theorem ok_distances (C : Ctx K mg)  : OkPdistances P w K mg base := by
  have sc := scPdistances
  refine C.fn (i := 23) rfl rfl sc (fun _ _ _ _ _ _ us hl => match us, hl with | [_], _ => rfl) (len_spZ ?len) fun cdv A outer s H vs Q E hr h => ⟨_, (pss_cons (ps_set (i := 1) sc.nd rfl (Or.inl rfl) (pe_none hr.units (pe_glob (v := .ref (He.ga K "GROUND")) rfl (C.g 62) rfl) pe_int)) (pss_cons (ps_set (i := 2) sc.nd rfl (Or.inl rfl) pe_bl) (pss_cons (ps_while PassesOwn.never (pt_val (pv 2)) (pss_cons (ps_set (i := 2) sc.nd rfl (Or.inl rfl) pe_bl) (pss_one (ps_for PassesOwn.never rfl (pi_list (pv 0)) (pg_tup rfl (pgs_cons (pg_name (i := 3) sc.nd rfl (Or.inl rfl)) (pgs_cons (pg_name (i := 4) sc.nd rfl (Or.inl rfl)) (pgs_cons (pg_name (i := 5) sc.nd rfl (Or.inl rfl)) pgs_nil)))) (pss_one (ps_if (PW.pt (pw_and (pt_cmp (pc_nin hr.units (pv 3) (pv 1))) (pw_and1 (PW.pt (pw_or (pt_cmp (pc_nnotin hr.units (pv 4) (pv 1))) (pw_or1 (pt_cmpR op_lt (pe_op op_add (pe_nget hr.units (pv 1) (pv 3) (fun _ _ => rfl)) (pv 5)) (pe_nget hr.units (pv 1) (pv 4) (fun _ _ => rfl)) (nomark _)))))))) (pss_cons (ps_nput hr.units (pv 1) (pv 4) (pe_op op_add (pe_nget hr.units (pv 1) (pv 3) (fun _ _ => rfl)) (pv 5)) rfl) (pss_one (ps_set (i := 2) sc.nd rfl (Or.inl rfl) pe_bl))) pss_nil)))))) (pss_one (ps_ret (pv 1)))))), run_spZ h ?body⟩
  case len => exact fun A S ⟨L, C, hA, hL, ⟨π, f⟩, hS⟩ => ⟨_, hA, rfl⟩
  case body =>
    refine fun A S ⟨L, C, hA, hL, ⟨π, f⟩, hS⟩ => ⟨_, hA, fun F hF => ?_⟩
    show TSv F [.rp _, .no, .no, .no, .no, .no] [] _ _
    try simp only [cx_K, cx_K2, cx_P, cx_w, cx_P2, cx_w2]
    refine ts_seq (ts_none fun l => ?_)
    repeat o_readsAll
    refine ⟨_, plK .ground, rfl, ky_pl .ground, ?_⟩
    repeat o_readsAll
    refine ts_seq (ts_set ?_)
    repeat o_readsAll
    refine ts_seq (ts_while (fun m Γ1 μ1 => ∃ kv b e3 e4 e5, Γ1 = [.rp (LS (L.map (wayR K))), .ow l, .rp (vB b), e3, e4, e5] ∧ μ1 = [(l, obN P w K l kv)] ∧ DInv L π C kv ∧ (b = true → ms L π C kv < m) ∧ (b = false → ∀ x, x ∈ L → Rlx kv x)) (ms L π C [(plK .ground, 0)] + 1) ⟨_, _, _, _, _, rfl, rfl, dinv_0 f, fun _ => Nat.lt_succ_self _, fun z => (nomatch z)⟩ ?_)
    rintro m Γ1 μ1 ⟨kv, b, e3, e4, e5, rfl, rfl, dv, hb1, hb0⟩
    repeat nest_cls
    refine ⟨fun hb => ?_, fun hb => ?_⟩
    · have hms := hb1 hb
      refine ts_seq (ts_set ?_)
      repeat o_readsAll
      refine ts_forL ?_
      repeat o_readsAll
      refine ⟨_, _, .z _, fun j Γ1 μ1 => ∃ kv' b' e3 e4 e5, Γ1 = [.rp (LS (L.map (wayR K))), .ow l, .rp (vB b'), e3, e4, e5] ∧ μ1 = [(l, obN P w K l kv')] ∧ DInv L π C kv' ∧ (b' = true → ms L π C kv' < ms L π C kv) ∧ (b' = false → kv' = kv ∧ ∀ x, x ∈ L.take j → Rlx kv x), ⟨kv, false, e3, e4, e5, rfl, rfl, dv, fun z => (nomatch z), fun _ => ⟨rfl, fun x hx => (nomatch hx)⟩⟩, ?_, ?_⟩
      · rintro j Γ1 μ1 R hR ⟨kv1, b1, e3, e4, e5, rfl, rfl, dv1, hc1, hc0⟩
        obtain ⟨x, hx, rfl⟩ := at_mapF hR
        have hxm := List.mem_of_getElem? hx
        have hlen : kv1.length < 40000 := by
          have h1 := dv1.len
          have h2 := here_le L kv1
          omega
        refine tg_tup3 (lv := .z) ?_
        refine ts_if (tt_imp (SB := fun b => (b = true → ∃ a, gv kv1 x.s = some a ∧ ∀ b, gv kv1 x.e = some b → a + x.c < b) ∧ (b = false → Rlx kv1 x)) ?_ fun b hb => ⟨fun h => ?_, fun h => ?_⟩)
        · refine tt_and (tt_B (te_nin ?_))
          repeat o_readsAll
          refine ⟨kv1, plK x.s, dn_o (j := 0) (by with_unfolding_all rfl), kr_z (ky_pl x.s), _, rfl, fun ha => ?_, fun ha => ?_⟩
          · obtain ⟨a, ha⟩ := Option.isSome_iff_exists.mp ha
            replace ha : gv kv1 x.s = some a := ha
            refine tt_or (tt_B (te_nnotin ?_))
            repeat o_readsAll
            refine ⟨kv1, plK x.e, dn_o (j := 0) (by with_unfolding_all rfl), kr_z (ky_pl x.e), _, rfl, fun hn => ?_, fun hn => ?_⟩
            · have hn2 : gv kv1 x.e = none := by simpa using hn
              exact ⟨fun _ => ⟨a, ha, fun b hb => by rw [hn2] at hb; cases hb⟩, fun z => (nomatch z)⟩
            · have hn2 : (gv kv1 x.e).isSome = true := by simpa using hn
              obtain ⟨c, hc⟩ := Option.isSome_iff_exists.mp hn2
              refine tt_test ?_
              repeat o_readsAll
              refine te_nget ?_
              repeat o_readsAll
              refine ⟨kv1, plK x.s, a, dn_o (j := 0) (by with_unfolding_all rfl), kr_z (ky_pl x.s), ha, ?_⟩
              repeat o_readsAll
              refine te_nget ?_
              repeat o_readsAll
              refine ⟨kv1, plK x.e, c, dn_o (j := 0) (by with_unfolding_all rfl), kr_z (ky_pl x.e), hc, ?_⟩
              repeat o_readsAll
              refine ⟨fun h => ⟨a, ha, fun b hb => ?_⟩, fun h => fun a' ha' => ?_⟩
              · rw [hc] at hb
                cases hb
                exact of_decide_eq_true h
              · rw [ha] at ha'
                cases ha'
                exact ⟨c, hc, by have := of_decide_eq_false h; omega⟩
          · refine ⟨fun z => (nomatch z), fun _ a' ha' => ?_⟩
            have ha2 : (gv kv1 x.s).isSome = false := ha
            rw [ha'] at ha2
            cases ha2
        · obtain ⟨a, ha, hc⟩ := hb.1 h
          obtain ⟨d2, m2⟩ := dinv_put f dv1 hxm ha hc
          refine ts_seq (ts_nput (i := 1) (j := 0) (by with_unfolding_all rfl) (by with_unfolding_all rfl) (by omega) ?_)
          repeat o_readsAll
          refine te_nget ?_
          repeat o_readsAll
          refine ⟨kv1, plK x.s, a, dn_o (j := 0) (by with_unfolding_all rfl), kr_z (ky_pl x.s), ha, ?_⟩
          repeat o_readsAll
          refine ⟨_, plK x.e, rfl, ky_pl x.e, ?_⟩
          refine ts_set ?_
          repeat o_readsAll
          refine ⟨putN kv1 (plK x.e) (a + x.c), true, _, _, _, rfl, rfl, d2, fun _ => ?_, fun z => (nomatch z)⟩
          cases b1 with
          | true => have := hc1 rfl; omega
          | false => rw [(hc0 rfl).1] at m2; rw [(hc0 rfl).1]; exact m2
        · refine ts_next ⟨kv1, b1, _, _, _, rfl, rfl, dv1, hc1, fun h2 => ⟨(hc0 h2).1, fun y hy => ?_⟩⟩
          have lt := (List.getElem?_eq_some_iff.mp hx).1
          have ex : L[j] = x := (List.getElem?_eq_some_iff.mp hx).2
          rw [List.take_succ_eq_append_getElem lt, ex] at hy
          rcases List.mem_append.mp hy with hy | hy
          · exact (hc0 h2).2 y hy
          · rw [List.mem_singleton.mp hy, ← (hc0 h2).1]
            exact hb.2 h
      · rintro Γ1 μ1 ⟨kv', b', e3, e4, e5, rfl, rfl, dv', hc1, hc0⟩
        rw [List.length_map, List.take_length] at hc0
        cases b' with
        | true => exact ⟨ms L π C kv' + 1, by have := hc1 rfl; omega, kv', true, e3, e4, e5, rfl, rfl, dv', fun _ => Nat.lt_succ_self _, fun z => (nomatch z)⟩
        | false =>
          obtain ⟨rfl, h2⟩ := hc0 rfl
          exact ⟨ms L π C kv', hms, kv', false, e3, e4, e5, rfl, rfl, dv', fun z => (nomatch z), fun _ => h2⟩
    · show TSv F _ _ _ _
      exact ts_retN (i := 1) (j := 0) (by with_unfolding_all rfl) (by with_unfolding_all rfl) (hS kv (dv.dist f (hb0 hb)))
end
theorem chPlan_row {T : Tar} {ps ns br : List Int} {row : List Int} (h : row ∈ chPlan T ps ns br) : row.length = ps.length := by
  unfold chPlan at h
  obtain ⟨l, _, rfl⟩ := List.mem_map.mp h
  exact laneUp_length ..
theorem leftWays_le {T : Tar} (o : T.Ok) (ps ns br : List Int) (pl : List (List Int)) (h : ps.length ≤ 100) : (leftWays T ps ns br pl).length ≤ 30000 := by
  have h1 := allWays_le o ps br h
  have h2 := flatL_le (backW ns (usedKv T br pl)) 2 (allWays T ps br) fun x _ => backW_le ns _ x
  unfold leftWays
  omega
theorem getD_some {α : Type} {o : Option α} {d : α} (h : o.isSome = true) : o = some (o.getD d) := by
  cases o with
  | none => cases h
  | some x => rfl
section
variable {P : Program} {w : World} {K : PySem.W.Frag} {mg : Str → Option Value} {base : Heap}

abbrev nPmake : List Str := ["tariff", "prices", "needs", "breaks", "plan", "found", "gains", "heads", "moment", "price", "before", "row", "state"]
theorem scPmake : FnScope nPmake ["tariff", "prices", "needs", "breaks"] (defScope sPmake) := ⟨rfl, rfl, rfl, by decide +kernel, rfl, by decide +kernel, by decide +kernel⟩
theorem ok_make (C : Ctx K mg) (g_cheapest : OkPcheapest P w K mg base) (g_distances : OkPdistances P w K mg base) (g_left_ways : OkPleftways P w K mg base) (g_heads_before : OkPheadsbefore P w K mg base) (g_states_in : OkPstatesin P w K mg base) (g_least_head : OkPleasthead P w K mg base) (g_off : OkPoff P w K mg base) (g_rate : OkPrate P w K mg base) : OkPmake P w K mg base := by
  have sc := scPmake
  refine C.fn (i := 27) rfl rfl sc (fun _ _ _ _ _ _ us hl => match us, hl with | [_, _, _, _], _ => rfl) (len_sp ?len) fun cdv A outer s H vs Q E hr h => ⟨_, (pss_cons (ps_set (i := 4) sc.nd rfl (Or.inl rfl) (pe_fn g_cheapest (hr.mono (by decide)) rfl (pa_cons (pv 0) (pa_cons (pv 1) (pa_cons (pv 2) (pa_cons (pv 3) pa_nil)))))) (pss_cons (ps_set (i := 5) sc.nd rfl (Or.inl rfl) (pe_fn g_distances (hr.mono (by decide)) rfl (pa_cons (pe_fn g_left_ways (hr.mono (by decide)) rfl (pa_cons (pv 0) (pa_cons (pv 1) (pa_cons (pv 2) (pa_cons (pv 3) (pa_cons (pv 4) pa_nil)))))) pa_nil))) (pss_cons (ps_set (i := 6) sc.nd rfl (Or.inl rfl) (pe_lst pa_nil)) (pss_cons (ps_for PassesOwn.never rfl (pi_enum (by rfl) (C.f 66) (pa_cons (pv 1) pa_nil)) (pg_tup rfl (pgs_cons (pg_name (i := 8) sc.nd rfl (Or.inl rfl)) (pgs_cons (pg_name (i := 9) sc.nd rfl (Or.inl rfl)) pgs_nil))) (pss_one (ps_expr (pe_bm PySem.F.plainAttrs_list PySem.F.slot_list_append PySem.F.type_list_append mt_append (pv 6) (pa_cons (pe_op op_sub (pe_op op_add (pe_op op_mul (pe_fn g_rate (hr.mono (by decide)) rfl (pa_cons (pv 0) (pa_cons pe_int pa_nil))) (pv 9)) (pe_nget hr.units (pv 5) (pe_tup (pa_cons pe_str (pa_cons (pv 8) (pa_cons pe_int pa_nil)))) (fun _ _ => rfl))) (pe_nget hr.units (pv 5) (pe_tup (pa_cons pe_str (pa_cons (pv 8) (pa_cons pe_int pa_nil)))) (fun _ _ => rfl))) pa_nil))))) (pss_cons (ps_set (i := 7) sc.nd rfl (Or.inl rfl) (pe_lst pa_nil)) (pss_cons (ps_for PassesOwn.never rfl (pi_range1 rfl (C.f 73) (pa_cons (pe_callB call_len_seq (by rfl) (C.f 69) PySem.boot_len (pa_cons (pv 1) pa_nil)) pa_nil)) (pg_name (i := 8) sc.nd rfl (Or.inl rfl)) (pss_cons (ps_set (i := 10) sc.nd rfl (Or.inl rfl) (pe_fn g_heads_before (hr.mono (by decide)) rfl (pa_cons (pv 0) (pa_cons (pv 3) (pa_cons (pv 7) (pa_cons (pv 8) pa_nil)))))) (pss_cons (ps_set (i := 11) sc.nd rfl (Or.inl rfl) (pe_op op_rep (pe_lst (pa_cons pe_int pa_nil)) (pe_op op_add (pe_fn g_off (hr.mono (by decide)) rfl (pa_cons (pv 0) pa_nil)) pe_int))) (pss_cons (ps_for PassesOwn.never rfl (pi_list (pe_fn g_states_in (hr.mono (by decide)) rfl (pa_cons (pv 0) (pa_cons (pv 3) (pa_cons (pv 8) pa_nil))))) (pg_name (i := 12) sc.nd rfl (Or.inl rfl)) (pss_one (ps_asg (pe_fn g_least_head (hr.mono (by decide)) rfl (pa_cons (pv 0) (pa_cons (pv 1) (pa_cons (pv 6) (pa_cons (pv 10) (pa_cons (pv 8) (pa_cons (pv 12) pa_nil))))))) (pg_sub (pv 11) (pv 12) set_list)))) (pss_one (ps_expr (pe_bm PySem.F.plainAttrs_list PySem.F.slot_list_append PySem.F.type_list_append mt_append (pv 7) (pa_cons (pe_callTy call_tuple_of (by rfl) (C.f 77) (by decide +kernel) (pa_cons (pv 11) pa_nil)) pa_nil)))))))) (pss_one (ps_ret (pe_tup (pa_cons (pe_callTy call_tuple_of (by rfl) (C.f 77) (by decide +kernel) (pa_cons (pv 6) pa_nil)) (pa_cons (pe_callTy call_tuple_of (by rfl) (C.f 77) (by decide +kernel) (pa_cons (pv 7) pa_nil)) pa_nil))))))))))), run_sp h ?body⟩
  case len => exact fun A S ⟨T, ps, ns, br, hA, ok, rok, hcl, C, hfe, hS⟩ => ⟨_, hA, rfl⟩
  case body =>
    refine fun A S ⟨T, ps, ns, br, hA, ok, rok, hcl, C, hfe, hS⟩ => ⟨_, hA, fun F hF => ?_⟩
    show TSv F [.bo _, .bo _, .bo _, .bo _, .no, .no, .no, .no, .no, .no, .no, .no, .no] [] _ _
    try simp only [cx_K, cx_K2, cx_P, cx_w, cx_P2, cx_w2]
    have hle := ok.le
    have hnl := rok.len
    have hfew := rok.few
    have hr0 := ok.rate (s := 0) (by omega) (by omega)
    refine ts_seq (ts_set ?_)
    repeat o_readsAll
    refine ⟨_, _, _, _, (by pre_facts), ok, rok, ?_⟩
    refine ts_seq (ts_set ?_)
    refine te_callZ ?_
    repeat o_readsAll
    refine ⟨_, _, _, _, _, (by pre_facts), ok, by omega, hnl, hcl, fun row hm => by rw [chPlan_row hm]; omega, ?_⟩
    repeat o_readsAll
    refine ⟨_, C, ⟨Rp.Le.rfl, trivial⟩, leftWays_le ok ps ns br _ (by omega), hfe, fun kv dk => ?_⟩
    have hS2 := hS kv dk
    have hkeys : ∀ {k : Nat}, k < ps.length → (gv kv (.inn k)).isSome = true ∧ (gv kv (.out k)).isSome = true := fun h => dist_keys dk h
    clear hS dk hfe
    generalize hgs : gainsOf T ps kv = gs at hS2
    refine ts_seq (ts_setN ?_)
    repeat o_readsAll
    intro l0
    refine ts_seq (ts_forE ?_)
    repeat o_readsAll
    refine ⟨_, _, _, rfl, IsL.b _, fun k Γ1 μ1 => ∃ e8 e9, Γ1 = [.bo (TF K T), .bo (IL ps), .bo (IL ns), .bo (IL br), .rp (ILL (chPlan T ps ns br)), .rp (DR P w K kv), .ow l0, .no, e8, e9, .no, .no, .no] ∧ μ1 = [(l0, obL (((List.range k).map (gainAt T ps kv)).map vI))], ⟨_, _, rfl, rfl⟩, ?_, ?_⟩
    · rintro k Γ1 μ1 R hR ⟨e8, e9, rfl, rfl⟩
      obtain ⟨hk, rfl⟩ := at_map hR
      obtain ⟨hk1, hk2⟩ := hkeys hk
      refine ts_app (i := 6) (j := 0) (by with_unfolding_all rfl) (by with_unfolding_all rfl) (by rw [List.length_map, List.length_map, List.length_range]; omega) ?_
      repeat o_readsAll
      refine ⟨_, _, (by pre_facts), by omega, by omega, ?_⟩
      repeat o_readsAll
      refine te_nget ?_
      repeat o_readsAll
      refine ⟨kv, plK (.inn k), _, dn_z, kr_z (ky_pl (.inn k)), getD_some (d := 0) hk1, ?_⟩
      repeat o_readsAll
      refine te_nget ?_
      repeat o_readsAll
      refine ⟨kv, plK (.out k), _, dn_z, kr_z (ky_pl (.out k)), getD_some (d := 0) hk2, ?_⟩
      repeat o_readsAll
      refine ⟨_, _, rfl, ?_⟩
      show [(l0, obL (_ ++ [vI (gainAt T ps kv k)]))] = _
      rw [List.range_succ, List.map_append, List.map_append]
      rfl
    · rintro Γ1 μ1 ⟨e8, e9, rfl, rfl⟩
      rw [List.length_map]
      have hgl : gs.length = ps.length := by rw [← hgs, gainsOf, List.length_map, List.length_range]
      rw [show (List.range ps.length).map (gainAt T ps kv) = gs from hgs]
      refine ts_seq (ts_setN ?_)
      repeat o_readsAll
      intro l1
      refine ts_seq (ts_forR1 ?_)
      repeat o_readsAll
      refine ⟨by omega, by omega, fun k Γ1 μ1 => ∃ e8 e9 e10 e11 e12, Γ1 = [.bo (TF K T), .bo (IL ps), .bo (IL ns), .bo (IL br), .rp (ILL (chPlan T ps ns br)), .rp (DR P w K kv), .ow l0, .ow l1, e8, e9, e10, e11, e12] ∧ μ1 = [(l1, obL ((headsUp T ps br gs k).map (rowR K))), (l0, obL (gs.map vI))], ⟨_, _, _, _, _, rfl, rfl⟩, ?_, ?_⟩
      · rintro k Γ1 μ1 hk ⟨e8, e9, e10, e11, e12, rfl, rfl⟩
        have hk2 : k < ps.length := by omega
        have hul := headsUp_length T ps br gs k
        have hur := headsUp_row T ps br gs k
        have hun : headsUp T ps br gs (k + 1) = headsUp T ps br gs k ++ [rowOf T ps br gs (headsUp T ps br gs k) k] := rfl
        generalize headsUp T ps br gs k = hs at hul hur hun ⊢
        refine tg_name ?_
        refine ts_seq (ts_set ?_)
        repeat o_readsAll
        refine ⟨T, br, hs, k, ⟨cv_b Rp.Le.rfl, cv_b Rp.Le.rfl, cv_o (j := 0) (by with_unfolding_all rfl) le_ls, cv_z Rp.Le.rfl, trivial⟩, ok, by omega, by omega, hur, ?_⟩
        refine ts_seq (ts_setN (tn_op ?_))
        repeat o_readsAll
        refine ⟨_, (by pre_facts), ?_⟩
        repeat o_readsAll
        refine rn_rep (by omega) (by omega) ?_
        intro l2
        have he : List.replicate ((T.rates.length : Int) + 1).toNat (vI 0) = (rowPart T ps br gs hs k []).map vI := by
          rw [rowPart_nil, List.map_replicate]
          congr 1
        rw [he]
        refine ts_seq (ts_forL ?_)
        repeat o_readsAll
        refine ⟨_, _, _, (by pre_facts), ok, ?_⟩
        refine ⟨_, _, .z _, fun j Γ1 μ1 => ∃ e12, Γ1 = [.bo (TF K T), .bo (IL ps), .bo (IL ns), .bo (IL br), .rp (ILL (chPlan T ps ns br)), .rp (DR P w K kv), .ow l0, .ow l1, .rp (vI k), e9, .rp (LS ((hBefore T br hs k).map fun q => TP K [vI q.1, vI q.2])), .ow l2, e12] ∧ μ1 = [(l2, obL ((rowPart T ps br gs hs k ((statesIn T br k).take j)).map vI)), (l1, obL (hs.map (rowR K))), (l0, obL (gs.map vI))], ⟨_, rfl, rfl⟩, ?_, ?_⟩
        · rintro j Γ1 μ1 R hR ⟨e12, rfl, rfl⟩
          obtain ⟨s, hs1, rfl⟩ := at_mapF hR
          have hsm := List.mem_of_getElem? hs1
          have hsr := statesIn_range hsm
          have hrl := rowPart_length T ps br gs hs k ((statesIn T br k).take j)
          refine tg_name ?_
          refine ts_item (i := 11) (j := 0) (by with_unfolding_all rfl) (by with_unfolding_all rfl) ?_
          repeat o_readsAll
          refine ⟨T, ps, gs, hBefore T br hs k, k, s, ⟨cv_b Rp.Le.rfl, cv_b Rp.Le.rfl, cv_o (j := 2) (by with_unfolding_all rfl) le_ls, cv_z Rp.Le.rfl, cv_z Rp.Le.rfl, cv_z Rp.Le.rfl, trivial⟩, ok, by omega, by omega, by omega, hsr.1, hsr.2, by have := hBefore_le ok br hs k; omega, fun q hq => (hBefore_off hq).1, cands_ne hsm, ?_⟩
          refine ⟨_, ⟨rfl, trivial⟩, ?_⟩
          repeat o_readsAll
          refine ⟨s, s.toNat, rfl, ?_, ?_⟩
          · have e : s = ((s.toNat : Nat) : Int) := (Int.toNat_of_nonneg hsr.1).symm
            rw [List.length_map, hrl]
            conv => lhs; rw [e]
            exact ixn_nat (by omega)
          · refine ⟨_, rfl, ?_⟩
            have e : s = ((s.toNat : Nat) : Int) := (Int.toNat_of_nonneg hsr.1).symm
            have hset := rowPart_set T ps br gs hs k ((statesIn T br k).take j) s.toNat
            rw [← e] at hset
            have lt := (List.getElem?_eq_some_iff.mp hs1).1
            have ex : (statesIn T br k)[j] = s := (List.getElem?_eq_some_iff.mp hs1).2
            rw [List.take_succ_eq_append_getElem lt, ex, ← hset, List.map_set]
            rfl
        · rintro Γ1 μ1 ⟨e12, rfl, rfl⟩
          rw [List.length_map, List.take_length]
          show TSv F _ _ _ _
          refine ts_free (i := 11) (by with_unfolding_all rfl) (List.Perm.refl _) ?_
          refine ts_app (i := 7) (j := 0) (by with_unfolding_all rfl) (by with_unfolding_all rfl) (by rw [List.length_map]; omega) ?_
          repeat o_readsAll
          refine ⟨_, _, _, _, _, rfl, ?_⟩
          rw [hun, List.map_append]
          rfl
      · rintro Γ1 μ1 ⟨e8, e9, e10, e11, e12, rfl, rfl⟩
        rw [Int.toNat_natCast]
        show TSv F _ _ _ _
        refine ts_ret ?_
        repeat o_readsAll
        try (refine rc_tuple (K := K) (sl_o (j := 1) (by with_unfolding_all rfl)) ?_; repeat o_readsAll)
        try (refine rc_tuple (K := K) (sl_o (j := 0) (by with_unfolding_all rfl)) ?_; repeat o_readsAll)
        exact hS2
end
section
variable {P : Program} {w : World} {K : PySem.W.Frag} {mg : Str → Option Value} {base : Heap}

abbrev nLrate : List Str := ["_law_tariff_here", "_law_state"]
theorem scLrate : FnScope nLrate ["_law_tariff_here", "_law_state"] (defScope sLrate) := ⟨rfl, rfl, rfl, by decide +kernel, rfl, by decide +kernel, by decide +kernel⟩
theorem ok_law_rate (C : Ctx K mg)  : OkLrate P w K mg base := by
  have sc := scLrate
  refine C.fn (i := 38) rfl rfl sc (fun _ _ _ _ _ _ us hl => match us, hl with | [_, _], _ => rfl) (len_sp ?len) fun cdv A outer s H vs Q E hr h => ⟨_, (pss_one (ps_ret (pe_ifExp (pt_cmpR op_eq (pv 1) (pe_callB call_len_seq (by rfl) (C.f 69) PySem.boot_len (pa_cons (pe_ix ix_seq (pv 0) pe_int (fun _ _ => rfl)) pa_nil)) (nomark _)) pe_int (pe_ix ix_seq (pe_ix ix_seq (pv 0) pe_int (fun _ _ => rfl)) (pv 1) (fun _ _ => rfl))))), run_sp h ?body⟩
  case len => exact fun A S ⟨T, s, hA, h0, h1, hS⟩ => ⟨_, hA, rfl⟩
  case body =>
    refine fun A S ⟨T, s, hA, h0, h1, hS⟩ => ⟨_, hA, fun F hF => ?_⟩
    show TSv F [.bo _, .bo _] [] _ _
    try simp only [cx_K, cx_K2]
    repeat nest_cls
    refine ⟨fun hb => ?_, fun hb => ?_⟩
    · rw [Tar.rate, if_pos (of_decide_eq_true hb)] at hS
      repeat nest_cls
      exact hS
    · have h2 := of_decide_eq_false hb
      rw [Tar.rate, if_neg h2] at hS
      repeat nest_cls
      exact hS
abbrev nLidlecost : List Str := ["_law_tariff_here", "_law_total", "_law_state"]
theorem scLidlecost : FnScope nLidlecost ["_law_tariff_here", "_law_total"] (defScope sLidlecost) := ⟨rfl, rfl, rfl, by decide +kernel, rfl, by decide +kernel, by decide +kernel⟩
theorem ok_law_idle_cost (C : Ctx K mg) (g_law_rate : OkLrate P w K mg base) : OkLidlecost P w K mg base := by
  have sc := scLidlecost
  refine C.fn (i := 39) rfl rfl sc (fun _ _ _ _ _ _ us hl => match us, hl with | [_, _], _ => rfl) (len_sp ?len) fun cdv A outer s H vs Q E hr h => ⟨_, (pss_one (ps_ret (pe_callB (cr_min rfl) (by rfl) (C.f 72) (by decide +kernel) (pa_cons (pe_lc (own := [("_law_state", 2)]) rfl sc.nd (pi_range1 rfl (C.f 73) (pa_cons (pe_callB call_len_seq (by rfl) (C.f 69) PySem.boot_len (pa_cons (pe_ix ix_seq (pv 0) pe_int (fun _ _ => rfl)) pa_nil)) pa_nil)) (blkOk_by (own := [("_law_state", 2)]) (N := nLidlecost) (sc := defScope sLidlecost) (by decide +kernel)) (fun _ _ _ _ _ => pg_name (i := 2) sc.nd rfl (Or.inl rfl)) (fun _ _ _ _ _ => pts_nil) (fun _ _ _ _ _ => (pe_op op_add (pe_op op_mul (pe_fn g_law_rate (hr.mono (by decide)) rfl (pa_cons (pv 0) (pa_cons (pv 2) pa_nil))) (pv 1)) (pe_ix (show IxR _ (rIx K) from ix_seq) (pe_ix (show IxR _ (rIx K) from ix_seq) (pv 0) pe_int (fun _ _ => rfl)) (pv 2) (fun _ _ => rfl))))) pa_nil)))), run_sp h ?body⟩
  case len => exact fun A S ⟨T, t, hA, ok, hS⟩ => ⟨_, hA, rfl⟩
  case body =>
    refine fun A S ⟨T, t, hA, ok, hS⟩ => ⟨_, hA, fun F hF => ?_⟩
    show TSv F [.bo _, .bo _, .no] [] _ _
    try simp only [cx_K, cx_K2]
    have hle := ok.le
    have hwl := ok.len
    repeat nest_cls
    refine te_new (tn_fmR ?_)
    repeat nest_cls
    refine ⟨_, fun _ => true, fun s => vI (T.cost s t), rfl, by omega, by omega, fun s hs L acc => ?_, ?_⟩
    · have hr := ok.rate (s := s) (by omega) (by omega)
      repeat nest_cls
      refine ⟨rfl, fun _ => ?_⟩
      repeat nest_cls
      refine ⟨_, _, (by pre_facts), by omega, by omega, ?_⟩
      repeat nest_cls
      exact ⟨rfl, trivial⟩
    · rw [filt_all]
      repeat nest_cls
      have e : (List.range ((T.wakes.length : Nat) : Int).toNat).map (fun (s : Nat) => vI (T.cost s t)) = ((List.range (T.rates.length + 1)).map fun (s : Nat) => T.cost s t).map vI := by
        rw [Int.toNat_natCast, hwl, List.map_map]
        rfl
      rw [e]
      refine rc_min (l := .z) sl_z (by rw [List.length_map, List.length_range]; omega) fun m hm1 hm2 => ⟨_, rfl, ?_⟩
      rw [minL_is hm1 hm2]
      exact hS
abbrev nLbefore : List Str := ["_law_tariff_here", "_law_breaks", "_law_row", "_law_k"]
theorem scLbefore : FnScope nLbefore ["_law_tariff_here", "_law_breaks", "_law_row", "_law_k"] (defScope sLbefore) := ⟨rfl, rfl, rfl, by decide +kernel, rfl, by decide +kernel, by decide +kernel⟩
theorem ok_law_before (C : Ctx K mg)  : OkLbefore P w K mg base := by
  have sc := scLbefore
  refine C.fn (i := 42) rfl rfl sc (fun _ _ _ _ _ _ us hl => match us, hl with | [_, _, _, _], _ => rfl) (len_sp ?len) fun cdv A outer s H vs Q E hr h => ⟨_, (pss_cons (ps_if (PW.pt (pw_or (pt_cmpR op_eq (pv 3) pe_int (nomark _)) (pw_or1 (pt_cmpR op_in_seq (pe_op op_sub (pv 3) pe_int) (pv 1) (by rfl))))) (pss_one (ps_ret (pe_callB call_len_seq (by rfl) (C.f 69) PySem.boot_len (pa_cons (pe_ix ix_seq (pv 0) pe_int (fun _ _ => rfl)) pa_nil)))) pss_nil) (pss_one (ps_ret (pe_ix ix_seq (pv 2) (pe_op op_sub (pv 3) pe_int) (fun _ _ => rfl))))), run_sp h ?body⟩
  case len => exact fun A S ⟨T, br, row, k, hA, h0, h1, hS⟩ => ⟨_, hA, rfl⟩
  case body =>
    refine fun A S ⟨T, br, row, k, hA, h0, h1, hS⟩ => ⟨_, hA, fun F hF => ?_⟩
    show TSv F [.bo _, .bo _, .bo _, .bo _] [] _ _
    try simp only [cx_K, cx_K2]
    repeat nest_cls
    refine ⟨fun hb => ?_, fun hb => ?_⟩
    · refine ⟨fun _ => ?_, fun z => (nomatch z)⟩
      rw [bef, if_pos (.inl (of_decide_eq_true hb))] at hS
      repeat nest_cls
      exact hS
    · have h2 := of_decide_eq_false hb
      repeat nest_cls
      refine ⟨fun hc => ?_, fun hc => ?_⟩
      · rw [bef, if_pos (.inr (of_decide_eq_true hc))] at hS
        repeat nest_cls
        exact hS
      · have h3 := of_decide_eq_false hc
        rw [bef, if_neg (fun z => z.elim h2 h3)] at hS
        repeat nest_cls
        exact hS
abbrev nLstates : List Str := ["_law_tariff_here", "_law_breaks", "_law_k"]
theorem scLstates : FnScope nLstates ["_law_tariff_here", "_law_breaks", "_law_k"] (defScope sLstates) := ⟨rfl, rfl, rfl, by decide +kernel, rfl, by decide +kernel, by decide +kernel⟩
theorem ok_law_states (C : Ctx K mg)  : OkLstates P w K mg base := by
  have sc := scLstates
  refine C.fn (i := 48) rfl rfl sc (fun _ _ _ _ _ _ us hl => match us, hl with | [_, _, _], _ => rfl) (len_sp ?len) fun cdv A outer s H vs Q E hr h => ⟨_, (pss_cons (ps_if (PW.pt (pw_or (pt_cmpR op_eq (pv 2) pe_int (nomark _)) (pw_or1 (pt_cmpR op_in_seq (pe_op op_sub (pv 2) pe_int) (pv 1) (by rfl))))) (pss_one (ps_ret (pe_lst (pa_cons pe_int (pa_cons (pe_callB call_len_seq (by rfl) (C.f 69) PySem.boot_len (pa_cons (pe_ix ix_seq (pv 0) pe_int (fun _ _ => rfl)) pa_nil)) pa_nil))))) pss_nil) (pss_one (ps_ret (pe_listRg rfl rfl (C.f 70) (prg_1 rfl (C.f 73) (pe_op op_add (pe_callB call_len_seq (by rfl) (C.f 69) PySem.boot_len (pa_cons (pe_ix ix_seq (pv 0) pe_int (fun _ _ => rfl)) pa_nil)) pe_int)))))), run_sp h ?body⟩
  case len => exact fun A S ⟨T, br, k, hA, ok, hS⟩ => ⟨_, hA, rfl⟩
  case body =>
    refine fun A S ⟨T, br, k, hA, ok, hS⟩ => ⟨_, hA, fun F hF => ?_⟩
    show TSv F [.bo _, .bo _, .bo _] [] _ _
    try simp only [cx_K, cx_K2]
    have hle := ok.le
    repeat nest_cls
    refine ⟨fun hb => ?_, fun hb => ?_⟩
    · refine ⟨fun _ => ?_, fun z => (nomatch z)⟩
      rw [statesIn, if_pos (.inl (of_decide_eq_true hb))] at hS
      repeat nest_cls
      exact hS
    · have h2 := of_decide_eq_false hb
      repeat nest_cls
      refine ⟨fun hc => ?_, fun hc => ?_⟩
      · rw [statesIn, if_pos (.inr (of_decide_eq_true hc))] at hS
        repeat nest_cls
        exact hS
      · have h3 := of_decide_eq_false hc
        rw [statesIn, if_neg (fun z => z.elim h2 h3)] at hS
        repeat nest_cls
        exact ⟨by omega, by omega, _, rfl, hS⟩
abbrev nLstep : List Str := ["_law_tariff_here", "_law_before_here", "_law_after"]
theorem scLstep : FnScope nLstep ["_law_tariff_here", "_law_before_here", "_law_after"] (defScope sLstep) := ⟨rfl, rfl, rfl, by decide +kernel, rfl, by decide +kernel, by decide +kernel⟩
theorem ok_law_step (C : Ctx K mg)  : OkLstep P w K mg base := by
  have sc := scLstep
  refine C.fn (i := 49) rfl rfl sc (fun _ _ _ _ _ _ us hl => match us, hl with | [_, _, _], _ => rfl) (len_sp ?len) fun cdv A outer s H vs Q E hr h => ⟨_, (pss_cons (ps_if (pt_cmpR op_ge (pv 2) (pv 1) (nomark _)) (pss_one (ps_ret pe_int)) pss_nil) (pss_one (ps_ret (pe_ifExp (pt_cmpR op_eq (pv 2) pe_int (nomark _)) (pe_ix ix_seq (pe_ix ix_seq (pv 0) pe_int (fun _ _ => rfl)) (pv 1) (fun _ _ => rfl)) (pe_un un_neg pe_int))))), run_sp h ?body⟩
  case len => exact fun A S ⟨T, b, a, hA, ok, h0, h1, hS⟩ => ⟨_, hA, rfl⟩
  case body =>
    refine fun A S ⟨T, b, a, hA, ok, h0, h1, hS⟩ => ⟨_, hA, fun F hF => ?_⟩
    show TSv F [.bo _, .bo _, .bo _] [] _ _
    try simp only [cx_K, cx_K2]
    have hwl := ok.len
    repeat nest_cls
    refine ⟨fun hb => ?_, fun hb => ?_⟩
    · rw [Tar.step, if_pos (of_decide_eq_true hb)] at hS
      repeat nest_cls
      exact hS
    · have h2 := of_decide_eq_false hb
      rw [Tar.step, if_neg h2] at hS
      repeat nest_cls
      refine ⟨fun hc => ?_, fun hc => ?_⟩
      · rw [if_pos (of_decide_eq_true hc)] at hS
        repeat nest_cls
        exact hS
      · rw [if_neg (of_decide_eq_false hc)] at hS
        repeat nest_cls
        exact hS
abbrev nLsum : List Str := ["_law_needs", "_law_paper", "_law_k"]
theorem scLsum : FnScope nLsum ["_law_needs", "_law_paper"] (defScope sLsum) := ⟨rfl, rfl, rfl, by decide +kernel, rfl, by decide +kernel, by decide +kernel⟩
theorem ok_law_sum (C : Ctx K mg)  : OkLsum P w K mg base := by
  have sc := scLsum
  refine C.fn (i := 52) rfl rfl sc (fun _ _ _ _ _ _ us hl => match us, hl with | [_, _], _ => rfl) (len_sp ?len) fun cdv A outer s H vs Q E hr h => ⟨_, (pss_one (ps_ret (pe_callB (cr_sum rfl) (by rfl) (C.f 76) (by decide +kernel) (pa_cons (pe_lc (own := [("_law_k", 2)]) rfl sc.nd (pi_range1 rfl (C.f 73) (pa_cons (pe_callB call_len_seq (by rfl) (C.f 69) PySem.boot_len (pa_cons (pv 0) pa_nil)) pa_nil)) (blkOk_by (own := [("_law_k", 2)]) (N := nLsum) (sc := defScope sLsum) (by decide +kernel)) (fun _ _ _ _ _ => pg_name (i := 2) sc.nd rfl (Or.inl rfl)) (fun _ _ _ _ _ => pts_nil) (fun _ _ _ _ _ => (pe_op op_mul (pe_ix (show IxR _ (rIx K) from ix_seq) (pv 0) (pv 2) (fun _ _ => rfl)) (pe_ix (show IxR _ (rIx K) from ix_seq) (pe_ix (show IxR _ (rIx K) from ix_seq) (pv 1) pe_int (fun _ _ => rfl)) (pv 2) (fun _ _ => rfl))))) pa_nil)))), run_sp h ?body⟩
  case len => exact fun A S ⟨ns, gs, hs, hA, hl, h1, hb, hS⟩ => ⟨_, hA, rfl⟩
  case body =>
    refine fun A S ⟨ns, gs, hs, hA, hl, h1, hb, hS⟩ => ⟨_, hA, fun F hF => ?_⟩
    show TSv F [.bo _, .bo _, .no] [] _ _
    try simp only [cx_K, cx_K2]
    repeat nest_cls
    refine te_new (tn_fmR ?_)
    repeat nest_cls
    refine ⟨_, fun _ => true, fun k => vI (gi ns k * gi gs k), rfl, by omega, by omega, fun k hk L acc => ?_, ?_⟩
    · have h3 := hb _ (gi_mem (ns := ns) (i := k) (by omega) hk)
      repeat nest_cls
      refine ⟨rfl, fun _ => ?_⟩
      repeat nest_cls
      exact ⟨rfl, trivial⟩
    · rw [filt_all]
      repeat nest_cls
      have e : (List.range ((ns.length : Nat) : Int).toNat).map (fun (k : Nat) => vI (gi ns k * gi gs k)) = (List.zipWith (fun n g : Int => n * g) ns gs).map vI := by
        rw [Int.toNat_natCast]
        apply List.ext_getElem?
        intro i
        rw [List.getElem?_map, List.getElem?_map, List.getElem?_zipWith]
        by_cases h : i < ns.length
        · rw [List.getElem?_range h, List.getElem?_eq_getElem h, List.getElem?_eq_getElem (show i < gs.length by omega)]
          unfold gi
          simp only [Option.map_some, Int.toNat_natCast]
          rw [List.getD_eq_getElem?_getD, List.getD_eq_getElem?_getD, List.getElem?_eq_getElem h, List.getElem?_eq_getElem (show i < gs.length by omega)]
          rfl
        · rw [List.getElem?_eq_none (by rw [List.length_range]; omega), List.getElem?_eq_none (by omega)]
          rfl
      rw [e]
      repeat nest_cls
      exact hS
end
theorem netC_eq (T : Tar) (ps gs : List Int) (k s : Int) : T.rate s * gi ps k - gi gs k * (if decide (s = 0) = true then 1 else 0) = netC T ps gs k s := by
  unfold netC
  by_cases h : s = 0
  · simp [h]
  · simp [h]
theorem step_wake {T : Tar} (o : T.Ok) {b a c : Int} (h0 : 0 ≤ b) (h1 : b ≤ (T.rates.length : Int)) (h : T.step b a = some c) : 0 ≤ c := by
  unfold Tar.step at h
  split at h
  · cases h
    exact Int.le_refl _
  · split at h
    · cases h
      exact (o.wake h0 h1).1
    · cases h
theorem candsL_succ {T : Tar} {ss : List Int} {f : Int → Int × Int} {own s : Int} {j : Nat} {q : Int} (h : ss[j]? = some q) : cands T ((ss.take (j + 1)).map f) own s = cands T ((ss.take j).map f) own s ++ (match T.step (f q).1 s with | some c => [(f q).2 + c + own] | none => []) := by
  have lt := (List.getElem?_eq_some_iff.mp h).1
  have e : ss[j] = q := (List.getElem?_eq_some_iff.mp h).2
  unfold cands
  rw [List.take_succ_eq_append_getElem lt, e, List.map_append, List.filterMap_append]
  congr 1
  cases hq : T.step (f q).1 s with
  | none => simp [hq]
  | some c => simp [hq]
section
variable {P : Program} {w : World} {K : PySem.W.Frag} {mg : Str → Option Value} {base : Heap}

abbrev nLhead : List Str := ["_law_tariff_here", "_law_prices", "_law_breaks", "_law_paper", "_law_k", "_law_state", "_law_found", "_law_cold", "_law_own", "_law_before_here", "_law_start_here"]
theorem scLhead : FnScope nLhead ["_law_tariff_here", "_law_prices", "_law_breaks", "_law_paper", "_law_k", "_law_state"] (defScope sLhead) := ⟨rfl, rfl, rfl, by decide +kernel, rfl, by decide +kernel, by decide +kernel⟩
theorem ok_law_head (C : Ctx K mg) (g_law_states : OkLstates P w K mg base) (g_law_rate : OkLrate P w K mg base) (g_law_step : OkLstep P w K mg base) : OkLhead P w K mg base := by
  have sc := scLhead
  refine C.fn (i := 50) rfl rfl sc (fun _ _ _ _ _ _ us hl => match us, hl with | [_, _, _, _, _, _], _ => rfl) (len_sp ?len) fun cdv A outer s H vs Q E hr h => ⟨_, (pss_cons (ps_set (i := 6) sc.nd rfl (Or.inl rfl) (pe_lst pa_nil)) (pss_cons (ps_set (i := 7) sc.nd rfl (Or.inl rfl) (pe_callB call_len_seq (by rfl) (C.f 69) PySem.boot_len (pa_cons (pe_ix ix_seq (pv 0) pe_int (fun _ _ => rfl)) pa_nil))) (pss_cons (ps_set (i := 8) sc.nd rfl (Or.inl rfl) (pe_op op_sub (pe_op op_mul (pe_fn g_law_rate (hr.mono (by decide)) rfl (pa_cons (pv 0) (pa_cons (pv 5) pa_nil))) (pe_ix ix_seq (pv 1) (pv 4) (fun _ _ => rfl))) (pe_op op_mul (pe_ix ix_seq (pe_ix ix_seq (pv 3) pe_int (fun _ _ => rfl)) (pv 4) (fun _ _ => rfl)) (pe_callTy call_int1 (by rfl) (C.f 67) (by decide +kernel) (pa_cons (pe_cmpR op_eq (pv 5) pe_int (nomark _)) pa_nil))))) (pss_cons (ps_if (pt_cmpR op_eq (pv 4) pe_int (nomark _)) (pss_one (ps_ret (pe_op op_add (pe_fn g_law_step (hr.mono (by decide)) rfl (pa_cons (pv 0) (pa_cons (pv 7) (pa_cons (pv 5) pa_nil)))) (pv 8)))) pss_nil) (pss_cons (ps_for PassesOwn.never rfl (pi_list (pe_fn g_law_states (hr.mono (by decide)) rfl (pa_cons (pv 0) (pa_cons (pv 2) (pa_cons (pe_op op_sub (pv 4) pe_int) pa_nil))))) (pg_name (i := 9) sc.nd rfl (Or.inl rfl)) (pss_cons (ps_set (i := 10) sc.nd rfl (Or.inl rfl) (pe_ifExp (pt_cmpR op_in_seq (pe_op op_sub (pv 4) pe_int) (pv 2) (by rfl)) (pv 7) (pv 9))) (pss_one (ps_if (pt_cmpR op_ge (pe_fn g_law_step (hr.mono (by decide)) rfl (pa_cons (pv 0) (pa_cons (pv 10) (pa_cons (pv 5) pa_nil)))) pe_int (nomark _)) (pss_one (ps_expr (pe_bm PySem.F.plainAttrs_list PySem.F.slot_list_append PySem.F.type_list_append mt_append (pv 6) (pa_cons (pe_op op_add (pe_op op_add (pe_ix ix_seq (pe_ix ix_seq (pe_ix ix_seq (pv 3) pe_int (fun _ _ => rfl)) (pe_op op_sub (pv 4) pe_int) (fun _ _ => rfl)) (pv 9) (fun _ _ => rfl)) (pe_fn g_law_step (hr.mono (by decide)) rfl (pa_cons (pv 0) (pa_cons (pv 10) (pa_cons (pv 5) pa_nil))))) (pv 8)) pa_nil)))) pss_nil)))) (pss_one (ps_ret (pe_callB (cr_min rfl) (by rfl) (C.f 72) (by decide +kernel) (pa_cons (pv 6) pa_nil))))))))), run_sp h ?body⟩
  case len => exact fun A S ⟨T, ps, br, gs, hs, k, s, hA, ok, h0, h1, h2, h3, hrow, hin, hS⟩ => ⟨_, hA, rfl⟩
  case body =>
    refine fun A S ⟨T, ps, br, gs, hs, k, s, hA, ok, h0, h1, h2, h3, hrow, hin, hS⟩ => ⟨_, hA, fun F hF => ?_⟩
    show TSv F [.bo _, .bo _, .bo _, .bo _, .bo _, .bo _, .no, .no, .no, .no, .no] [] _ _
    try simp only [cx_K, cx_K2]
    have hsr := statesIn_range hin
    have hr := ok.rate hsr.1 hsr.2
    have hsl := statesIn_le ok br (k - 1)
    unfold leastAt at hS
    have hne := cands_ne (hs := hs) (own := netC T ps gs k s) hin
    refine ts_seq (ts_setN ?_)
    repeat o_readsAll
    intro l
    refine ts_seq (ts_set ?_)
    repeat o_readsAll
    refine ts_seq (ts_set ?_)
    repeat o_readsAll
    refine ⟨_, _, (by pre_facts), hsr.1, hsr.2, ?_⟩
    repeat o_readsAll
    rw [netC_eq]
    generalize netC T ps gs k s = own at hS hne ⊢
    repeat nest_cls
    refine ⟨fun hb => ?_, fun hb => ?_⟩
    · have hk := of_decide_eq_true hb
      repeat nest_cls
      refine ⟨_, _, _, (by pre_facts), ok, by omega, by omega, ?_⟩
      repeat nest_cls
      have e : cands T (hBefore T br hs k) own s = [0 + ((T.step T.rates.length s).getD (-1)) + own] := by
        unfold hBefore cands at hne ⊢
        rw [if_pos hk] at hne ⊢
        cases hst : T.step T.rates.length s with
        | none => simp [hst] at hne
        | some c => simp [hst]
      rw [e] at hS
      have e2 : minL [0 + ((T.step T.rates.length s).getD (-1)) + own] = (T.step T.rates.length s).getD (-1) + own := by
        show 0 + ((T.step T.rates.length s).getD (-1)) + own = _
        omega
      rw [e2] at hS
      exact hS
    · have hk := of_decide_eq_false hb
      have hrl := hrow _ (rowAt_mem (i := k - 1) (by omega) (by omega))
      have ebf : hBefore T br hs k = (statesIn T br (k - 1)).map fun s => (if k - 1 ∈ br then (T.rates.length : Int) else s, gi (rowAt hs (k - 1)) s) := by
        unfold hBefore
        rw [if_neg hk]
        refine List.map_congr_left fun s _ => ?_
        have : Fresh br k ↔ k - 1 ∈ br := ⟨fun z => z.elim (fun z => absurd z hk) id, .inr⟩
        simp only [this]
      rw [ebf] at hS hne
      repeat nest_cls
      refine ts_forL ?_
      repeat nest_cls
      refine ⟨_, _, _, (by pre_facts), ok, ?_⟩
      refine ⟨_, _, .z _, fun j Γ1 μ1 => ∃ e9 e10, Γ1 = [.bo (TF K T), .bo (IL ps), .bo (IL br), .bo (lpR K gs hs), .bo (vI k), .bo (vI s), .ow l, .rp (vI (T.rates.length : Nat)), .rp (vI own), e9, e10] ∧ μ1 = [(l, obL ((cands T (((statesIn T br (k - 1)).take j).map fun s => (if k - 1 ∈ br then (T.rates.length : Int) else s, gi (rowAt hs (k - 1)) s)) own s).map vI))], ⟨_, _, rfl, rfl⟩, ?_, ?_⟩
      · rintro j Γ1 μ1 R hR ⟨e9, e10, rfl, rfl⟩
        obtain ⟨b, hb1, rfl⟩ := at_mapF hR
        have hbr := statesIn_range (List.mem_of_getElem? hb1)
        have hsu := candsL_succ (T := T) (f := fun s => (if k - 1 ∈ br then (T.rates.length : Int) else s, gi (rowAt hs (k - 1)) s)) (own := own) (s := s) hb1
        have hlen := cands_le T (((statesIn T br (k - 1)).take j).map fun s => (if k - 1 ∈ br then (T.rates.length : Int) else s, gi (rowAt hs (k - 1)) s)) own s
        rw [List.length_map, List.length_take] at hlen
        simp only at hsu
        generalize cands T (((statesIn T br (k - 1)).take j).map fun s => (if k - 1 ∈ br then (T.rates.length : Int) else s, gi (rowAt hs (k - 1)) s)) own s = cs at hsu hlen ⊢
        generalize hst : (if k - 1 ∈ br then (T.rates.length : Int) else b) = st at hsu
        have hst0 : 0 ≤ st ∧ st ≤ (T.rates.length : Int) := by
          rw [← hst]
          split <;> omega
        refine tg_name ?_
        refine ts_seq (ts_join (fun Γ1 μ1 => Γ1 = [.bo (TF K T), .bo (IL ps), .bo (IL br), .bo (lpR K gs hs), .bo (vI k), .bo (vI s), .ow l, .rp (vI (T.rates.length : Nat)), .rp (vI own), .rp (vI b), .rp (vI st)] ∧ μ1 = [(l, obL (cs.map vI))]) ?_ ?_)
        · repeat nest_cls
          refine ⟨fun hc => ?_, fun hc => ?_⟩
          · rw [if_pos (of_decide_eq_true hc)] at hst
            subst hst
            repeat nest_cls
            exact ⟨rfl, rfl⟩
          · rw [if_neg (of_decide_eq_false hc)] at hst
            subst hst
            repeat nest_cls
            exact ⟨rfl, rfl⟩
        · rintro Γ1 μ1 ⟨rfl, rfl⟩
          refine ts_if ?_
          repeat nest_cls
          refine ⟨_, _, _, (by pre_facts), ok, hst0.1, hst0.2, ?_⟩
          repeat nest_cls
          cases hq : T.step st s with
          | none =>
            rw [hq] at hsu
            refine ⟨fun z => (by cases z), fun _ => ?_⟩
            repeat nest_cls
            refine ⟨.rp (vI b), .rp (vI st), rfl, ?_⟩
            rw [hsu, List.append_nil]
          | some c =>
            rw [hq] at hsu
            have hc0 := step_wake ok hst0.1 hst0.2 hq
            refine ⟨fun _ => ?_, fun z => absurd z (by show ¬ decide (0 ≤ c) = false; rw [decide_eq_true hc0]; simp)⟩
            refine ts_app (i := 6) (j := 0) (by with_unfolding_all rfl) (by with_unfolding_all rfl) (by rw [List.length_map]; omega) ?_
            repeat o_readsAll
            refine ⟨_, _, _, (by pre_facts), ok, hst0.1, hst0.2, ?_⟩
            repeat o_readsAll
            refine ⟨.rp (vI b), .rp (vI st), rfl, ?_⟩
            rw [hsu]
            show [(l, obL (_ ++ [vI (gi (rowAt hs (k - 1)) b + (T.step st s).getD (-1) + own)]))] = _
            rw [hq, List.map_append]
            rfl
      · rintro Γ1 μ1 ⟨e9, e10, rfl, rfl⟩
        rw [List.length_map, List.take_length]
        repeat nest_cls
        refine rc_min (l := .z) (sl_o (j := 0) (by with_unfolding_all rfl)) (by
          cases hc : cands T ((statesIn T br (k - 1)).map fun s => (if k - 1 ∈ br then (T.rates.length : Int) else s, gi (rowAt hs (k - 1)) s)) own s with
          | nil => exact absurd hc hne
          | cons _ _ => simp) fun m hm1 hm2 => ⟨_, rfl, ?_⟩
        rw [minL_is hm1 hm2]
        exact hS
end
section
variable {P : Program} {w : World} {K : PySem.W.Frag} {mg : Str → Option Value} {base : Heap}

abbrev nLsound : List Str := ["_law_tariff_here", "_law_prices", "_law_breaks", "_law_paper", "_law_k", "_law_state", "_law_head_here"]
theorem scLsound : FnScope nLsound ["_law_tariff_here", "_law_prices", "_law_breaks", "_law_paper"] (defScope sLsound) := ⟨rfl, rfl, rfl, by decide +kernel, rfl, by decide +kernel, by decide +kernel⟩
theorem ok_law_sound (C : Ctx K mg) (g_law_states : OkLstates P w K mg base) (g_law_head : OkLhead P w K mg base) : OkLsound P w K mg base := by
  have sc := scLsound
  refine C.fn (i := 51) rfl rfl sc (fun _ _ _ _ _ _ us hl => match us, hl with | [_, _, _, _], _ => rfl) (len_sp ?len) fun cdv A outer s H vs Q E hr h => ⟨_, (pss_cons (ps_if (PW.pt (pw_or (pt_cmpR op_ne (pe_callB call_len_seq (by rfl) (C.f 69) PySem.boot_len (pa_cons (pe_ix ix_seq (pv 3) pe_int (fun _ _ => rfl)) pa_nil)) (pe_callB call_len_seq (by rfl) (C.f 69) PySem.boot_len (pa_cons (pv 1) pa_nil)) (nomark _)) (pw_or1 (pt_cmpR op_ne (pe_callB call_len_seq (by rfl) (C.f 69) PySem.boot_len (pa_cons (pe_ix ix_seq (pv 3) pe_int (fun _ _ => rfl)) pa_nil)) (pe_callB call_len_seq (by rfl) (C.f 69) PySem.boot_len (pa_cons (pv 1) pa_nil)) (nomark _))))) (pss_one (ps_ret pe_bl)) pss_nil) (pss_cons (ps_for PassesOwn.never rfl (pi_range1 rfl (C.f 73) (pa_cons (pe_callB call_len_seq (by rfl) (C.f 69) PySem.boot_len (pa_cons (pv 1) pa_nil)) pa_nil)) (pg_name (i := 4) sc.nd rfl (Or.inl rfl)) (pss_one (ps_if (PW.pt (pw_or (pt_cmpR op_lt (pe_ix ix_seq (pe_ix ix_seq (pv 3) pe_int (fun _ _ => rfl)) (pv 4) (fun _ _ => rfl)) pe_int (nomark _)) (pw_or1 (pt_cmpR op_ne (pe_callB call_len_seq (by rfl) (C.f 69) PySem.boot_len (pa_cons (pe_ix ix_seq (pe_ix ix_seq (pv 3) pe_int (fun _ _ => rfl)) (pv 4) (fun _ _ => rfl)) pa_nil)) (pe_callB call_len_seq (by rfl) (C.f 69) PySem.boot_len (pa_cons (pe_ix ix_seq (pv 0) pe_int (fun _ _ => rfl)) pa_nil)) (nomark _))))) (pss_one (ps_ret pe_bl)) pss_nil))) (pss_cons (ps_for PassesOwn.never rfl (pi_range1 rfl (C.f 73) (pa_cons (pe_callB call_len_seq (by rfl) (C.f 69) PySem.boot_len (pa_cons (pv 1) pa_nil)) pa_nil)) (pg_name (i := 4) sc.nd rfl (Or.inl rfl)) (pss_one (ps_for PassesOwn.never rfl (pi_range1 rfl (C.f 73) (pa_cons (pe_callB call_len_seq (by rfl) (C.f 69) PySem.boot_len (pa_cons (pe_ix ix_seq (pv 0) pe_int (fun _ _ => rfl)) pa_nil)) pa_nil)) (pg_name (i := 5) sc.nd rfl (Or.inl rfl)) (pss_cons (ps_set (i := 6) sc.nd rfl (Or.inl rfl) (pe_ix ix_seq (pe_ix ix_seq (pe_ix ix_seq (pv 3) pe_int (fun _ _ => rfl)) (pv 4) (fun _ _ => rfl)) (pv 5) (fun _ _ => rfl))) (pss_one (ps_if (pt_cmpR op_notIn_seq (pv 5) (pe_fn g_law_states (hr.mono (by decide)) rfl (pa_cons (pv 0) (pa_cons (pv 2) (pa_cons (pv 4) pa_nil)))) (by rfl)) (pss_one (ps_if (pt_cmpR op_ne (pv 6) pe_int (nomark _)) (pss_one (ps_ret pe_bl)) pss_nil)) (pss_one (ps_if (pt_cmpR op_gt (pv 6) (pe_fn g_law_head (hr.mono (by decide)) rfl (pa_cons (pv 0) (pa_cons (pv 1) (pa_cons (pv 2) (pa_cons (pv 3) (pa_cons (pv 4) (pa_cons (pv 5) pa_nil))))))) (nomark _)) (pss_one (ps_ret pe_bl)) (pss_one (ps_if (PW.pt (pw_and (pt_cmpR op_eq (pv 4) (pe_op op_sub (pe_callB call_len_seq (by rfl) (C.f 69) PySem.boot_len (pa_cons (pv 1) pa_nil)) pe_int) (nomark _)) (pw_and1 (pt_cmpR op_lt (pv 6) pe_int (nomark _))))) (pss_one (ps_ret pe_bl)) pss_nil)))))))))) (pss_one (ps_ret pe_bl))))), run_sp h ?body⟩
  case len => exact fun A S ⟨T, ps, br, gs, hs, hA, ok, hpl, hgl, hhl, hS⟩ => ⟨_, hA, rfl⟩
  case body =>
    refine fun A S ⟨T, ps, br, gs, hs, hA, ok, hpl, hgl, hhl, hS⟩ => ⟨_, hA, fun F hF => ?_⟩
    show TSv F [.bo _, .bo _, .bo _, .bo _, .no, .no, .no] [] _ _
    try simp only [cx_K, cx_K2]
    have hle := ok.le
    have hwl := ok.len
    have ft : ¬ PSound T ps br gs hs → S (vB false) := fun h => hS false ⟨fun z => (nomatch z), fun z => absurd z h⟩
    repeat nest_cls
    refine ⟨fun hb => ?_, fun hb => ?_⟩
    · refine ⟨fun _ => ?_, fun z => (nomatch z)⟩
      repeat nest_cls
      refine ft fun r => ?_
      have e := r.sz.1
      simp only [List.length_map, Bool.not_eq_true', decide_eq_false_iff_not] at hb
      omega
    · have h1 : gs.length = ps.length := by
        simp only [List.length_map, Bool.not_eq_false', decide_eq_true_eq] at hb
        omega
      repeat nest_cls
      refine ⟨fun hb2 => ?_, fun hb2 => ?_⟩
      · repeat nest_cls
        refine ft fun r => ?_
        have e := r.sz.2.1
        simp only [List.length_map, Bool.not_eq_true', decide_eq_false_iff_not] at hb2
        omega
      · have h2 : hs.length = ps.length := by
          simp only [List.length_map, Bool.not_eq_false', decide_eq_true_eq] at hb2
          omega
        repeat nest_cls
        refine ts_forR1 ?_
        repeat nest_cls
        refine ⟨by omega, by omega, fun k Γ1 μ1 => (∃ e4, Γ1 = [.bo (TF K T), .bo (IL ps), .bo (IL br), .bo (lpR K gs hs), e4, .no, .no] ∧ μ1 = []) ∧ ∀ j : Nat, j < k → 0 ≤ gi gs j ∧ (rowAt hs j).length = T.rates.length + 1, ⟨⟨_, rfl, rfl⟩, fun j hj => absurd hj (Nat.not_lt_zero j)⟩, ?_, ?_⟩
        · rintro k Γ1 μ1 hk ⟨⟨e4, rfl, rfl⟩, hk2⟩
          refine tg_name ?_
          repeat nest_cls
          refine ⟨fun hc => ?_, fun hc => ?_⟩
          · refine ⟨fun _ => ?_, fun z => (nomatch z)⟩
            repeat nest_cls
            refine ft fun r => ?_
            have := r.pos _ (gi_mem (ns := gs) (i := k) (by omega) (by omega))
            have := of_decide_eq_true hc
            omega
          · have hc2 := of_decide_eq_false hc
            repeat nest_cls
            refine ⟨fun hd => ?_, fun hd => ?_⟩
            · repeat nest_cls
              refine ft fun r => ?_
              have := r.sz.2.2 _ (rowAt_mem (hs := hs) (i := k) (by omega) (by omega))
              simp only [List.length_map, Bool.not_eq_true', decide_eq_false_iff_not] at hd
              omega
            · have hd2 : (rowAt hs k).length = T.rates.length + 1 := by
                simp only [List.length_map, Bool.not_eq_false', decide_eq_true_eq] at hd
                omega
              repeat nest_cls
              refine ⟨⟨_, rfl, rfl⟩, fun j hj => ?_⟩
              rcases Nat.lt_succ_iff_lt_or_eq.mp hj with h | h
              · exact hk2 j h
              · subst h
                exact ⟨by omega, hd2⟩
        · rintro Γ1 μ1 ⟨⟨e4, rfl, rfl⟩, hall⟩
          rw [Int.toNat_natCast] at hall
          have hrows : ∀ r, r ∈ hs → r.length = T.rates.length + 1 := fun r hr => by
            obtain ⟨n, hn, e⟩ := List.mem_iff_getElem.mp hr
            have := (hall n (by omega)).2
            unfold rowAt at this
            rw [Int.toNat_natCast, List.getD_eq_getElem?_getD, List.getElem?_eq_getElem hn, Option.getD_some, e] at this
            exact this
          have hpos : ∀ g, g ∈ gs → 0 ≤ g := fun g hg => by
            obtain ⟨i, hi0, hi1, e⟩ := mem_gi hg
            have := (hall i.toNat (by omega)).1
            rw [Int.toNat_of_nonneg hi0, e] at this
            exact this
          have sz : Sized T ps gs hs := ⟨h1, h2, hrows⟩
          repeat nest_cls
          refine ts_forR1 ?_
          repeat nest_cls
          refine ⟨by omega, by omega, fun k Γ1 μ1 => (∃ e4 e5 e6, Γ1 = [.bo (TF K T), .bo (IL ps), .bo (IL br), .bo (lpR K gs hs), e4, e5, e6] ∧ μ1 = []) ∧ ∀ j : Nat, j < k → RowSound T ps br gs hs j, ⟨⟨_, _, _, rfl, rfl⟩, fun j hj => absurd hj (Nat.not_lt_zero j)⟩, ?_, ?_⟩
          · rintro k Γ1 μ1 hk ⟨⟨e4, e5, e6, rfl, rfl⟩, hk2⟩
            have hrl := hrows _ (rowAt_mem (hs := hs) (i := k) (by omega) (by omega))
            refine tg_name ?_
            repeat nest_cls
            refine ts_forR1 ?_
            repeat nest_cls
            refine ⟨by omega, by omega, fun n Γ1 μ1 => (∃ e5 e6, Γ1 = [.bo (TF K T), .bo (IL ps), .bo (IL br), .bo (lpR K gs hs), .rp (vI k), e5, e6] ∧ μ1 = []) ∧ ∀ j : Nat, j < n → CellOk T ps br gs hs k j, ⟨⟨_, _, rfl, rfl⟩, fun j hj => absurd hj (Nat.not_lt_zero j)⟩, ?_, ?_⟩
            · rintro n Γ1 μ1 hn ⟨⟨e5, e6, rfl, rfl⟩, hn2⟩
              have hn3 : (n : Int) ≤ (T.rates.length : Int) := by omega
              have bad : ¬ CellOk T ps br gs hs k n → S (vB false) := fun h => ft fun r => h (r.ok k (by omega) n (by omega) hn3)
              have go : CellOk T ps br gs hs k n → ∀ j : Nat, j < n + 1 → CellOk T ps br gs hs k j := fun h j hj => by
                rcases Nat.lt_succ_iff_lt_or_eq.mp hj with h2 | h2
                · exact hn2 j h2
                · rw [h2]; exact h
              refine tg_name ?_
              repeat nest_cls
              refine ⟨_, _, _, (by pre_facts), ok, ?_⟩
              repeat nest_cls
              refine ⟨fun hb => ?_, fun hb => ?_⟩
              · have hni : ¬ (n : Int) ∈ statesIn T br k := by simpa using hb
                have ec : CellOk T ps br gs hs k n = (gi (rowAt hs k) n = 0) := by unfold CellOk; rw [if_neg hni]
                repeat nest_cls
                refine ⟨fun hb2 => ?_, fun hb2 => ?_⟩
                · repeat nest_cls
                  refine bad fun c => ?_
                  rw [ec] at c
                  simp [c] at hb2
                · repeat nest_cls
                  exact ⟨⟨_, _, rfl, rfl⟩, go (by rw [ec]; simpa using hb2)⟩
              · have hin : (n : Int) ∈ statesIn T br k := by simpa using hb
                have hne := cands_ne (hs := hs) (own := netC T ps gs k n) hin
                have ec : CellOk T ps br gs hs k n = ((∀ c, c ∈ cands T (hBefore T br hs k) (netC T ps gs k n) n → gi (rowAt hs k) n ≤ c) ∧ ((k : Int) = (ps.length : Int) - 1 → 0 ≤ gi (rowAt hs k) n)) := by unfold CellOk; rw [if_pos hin]
                repeat nest_cls
                refine ⟨_, _, _, _, _, _, _, (by pre_facts), ok, by omega, by omega, by omega, by omega, hrows, hin, ?_⟩
                unfold leastAt
                repeat nest_cls
                refine ⟨fun hb2 => ?_, fun hb2 => ?_⟩
                · have h2 := of_decide_eq_true hb2
                  repeat nest_cls
                  refine bad fun c => ?_
                  rw [ec] at c
                  have := c.1 _ (minL_mem hne)
                  omega
                · have h2 := of_decide_eq_false hb2
                  have hc : ∀ c, c ∈ cands T (hBefore T br hs k) (netC T ps gs k n) n → gi (rowAt hs k) n ≤ c := fun c hc => by
                    have := minL_le hc
                    omega
                  repeat nest_cls
                  refine ⟨fun hb3 => ?_, fun hb3 => ?_⟩
                  · have h3 := of_decide_eq_true hb3
                    repeat nest_cls
                    refine ⟨fun hb4 => ?_, fun hb4 => ?_⟩
                    · have h4 := of_decide_eq_true hb4
                      repeat nest_cls
                      refine bad fun c => ?_
                      rw [ec] at c
                      have := c.2 h3
                      omega
                    · have h4 := of_decide_eq_false hb4
                      repeat nest_cls
                      exact ⟨⟨_, _, rfl, rfl⟩, go (by rw [ec]; exact ⟨hc, fun _ => by omega⟩)⟩
                  · have h3 := of_decide_eq_false hb3
                    refine ⟨fun z => (nomatch z), fun _ => ?_⟩
                    repeat nest_cls
                    exact ⟨⟨_, _, rfl, rfl⟩, go (by rw [ec]; exact ⟨hc, fun z => absurd z h3⟩)⟩
            · rintro Γ1 μ1 ⟨⟨e5, e6, rfl, rfl⟩, hn⟩
              refine ⟨⟨_, _, _, rfl, rfl⟩, fun j hj => ?_⟩
              rcases Nat.lt_succ_iff_lt_or_eq.mp hj with h | h
              · exact hk2 j h
              · subst h
                intro s hs0 hs1
                have := hn s.toNat (by omega)
                rw [Int.toNat_of_nonneg hs0] at this
                exact this
          · rintro Γ1 μ1 ⟨⟨e4, e5, e6, rfl, rfl⟩, hk⟩
            rw [Int.toNat_natCast] at hk
            repeat nest_cls
            exact hS true ⟨fun _ => ⟨sz, hpos, hk⟩, fun _ => rfl⟩
end
section
variable {P : Program} {w : World} {K : PySem.W.Frag} {mg : Str → Option Value} {base : Heap}

abbrev nLrowcost : List Str := ["_law_tariff_here", "_law_prices", "_law_breaks", "_law_row", "_law_cost_here", "_law_k", "_law_before_here"]
theorem scLrowcost : FnScope nLrowcost ["_law_tariff_here", "_law_prices", "_law_breaks", "_law_row"] (defScope sLrowcost) := ⟨rfl, rfl, rfl, by decide +kernel, rfl, by decide +kernel, by decide +kernel⟩
theorem ok_law_row_cost (C : Ctx K mg) (g_law_before : OkLbefore P w K mg base) (g_law_rate : OkLrate P w K mg base) : OkLrowcost P w K mg base := by
  have sc := scLrowcost
  refine C.fn (i := 43) rfl rfl sc (fun _ _ _ _ _ _ us hl => match us, hl with | [_, _, _, _], _ => rfl) (len_sp ?len) fun cdv A outer s H vs Q E hr h => ⟨_, (pss_cons (ps_set (i := 4) sc.nd rfl (Or.inl rfl) pe_int) (pss_cons (ps_for PassesOwn.never rfl (pi_range1 rfl (C.f 73) (pa_cons (pe_callB call_len_seq (by rfl) (C.f 69) PySem.boot_len (pa_cons (pv 3) pa_nil)) pa_nil)) (pg_name (i := 5) sc.nd rfl (Or.inl rfl)) (pss_cons (ps_set (i := 6) sc.nd rfl (Or.inl rfl) (pe_fn g_law_before (hr.mono (by decide)) rfl (pa_cons (pv 0) (pa_cons (pv 2) (pa_cons (pv 3) (pa_cons (pv 5) pa_nil)))))) (pss_cons (ps_if (pt_cmpR op_lt (pe_ix ix_seq (pv 3) (pv 5) (fun _ _ => rfl)) (pv 6) (nomark _)) (pss_cons (ps_if (pt_cmpR op_ne (pe_ix ix_seq (pv 3) (pv 5) (fun _ _ => rfl)) pe_int (nomark _)) (pss_one (ps_ret (pe_un un_neg pe_int))) pss_nil) (pss_one (ps_set (i := 4) sc.nd rfl (Or.inl rfl) (pe_op op_add (pv 4) (pe_ix ix_seq (pe_ix ix_seq (pv 0) pe_int (fun _ _ => rfl)) (pv 6) (fun _ _ => rfl)))))) pss_nil) (pss_one (ps_set (i := 4) sc.nd rfl (Or.inl rfl) (pe_op op_add (pv 4) (pe_op op_mul (pe_fn g_law_rate (hr.mono (by decide)) rfl (pa_cons (pv 0) (pa_cons (pe_ix ix_seq (pv 3) (pv 5) (fun _ _ => rfl)) pa_nil))) (pe_ix ix_seq (pv 1) (pv 5) (fun _ _ => rfl))))))))) (pss_one (ps_ret (pv 4))))), run_sp h ?body⟩
  case len => exact fun A S ⟨T, ps, br, row, hA, ok, hl, h1000, hr, hS1, hS2⟩ => ⟨_, hA, rfl⟩
  case body =>
    refine fun A S ⟨T, ps, br, row, hA, ok, hl, h1000, hr, hS1, hS2⟩ => ⟨_, hA, fun F hF => ?_⟩
    show TSv F [.bo _, .bo _, .bo _, .bo _, .no, .no, .no] [] _ _
    try simp only [cx_K, cx_K2]
    have hwl := ok.len
    have hst : ∀ j : Nat, j < row.length → 0 ≤ gi row j ∧ gi row j ≤ (T.rates.length : Int) := fun j hj => hr _ (gi_mem (by omega) (by omega))
    repeat nest_cls
    refine ts_forR1 ?_
    repeat nest_cls
    refine ⟨by omega, by omega, fun k Γ1 μ1 => (∃ e5 e6, Γ1 = [.bo (TF K T), .bo (IL ps), .bo (IL br), .bo (IL row), .rp (vI (rowCostUp T ps br row k)), e5, e6] ∧ μ1 = []) ∧ ∀ j : Nat, j < k → StOk T br row j, ⟨⟨_, _, rfl, rfl⟩, fun j hj => absurd hj (Nat.not_lt_zero j)⟩, ?_, ?_⟩
    · rintro k Γ1 μ1 hk ⟨⟨e5, e6, rfl, rfl⟩, hall⟩
      have hk2 : k < row.length := by omega
      obtain ⟨hs0, hs1⟩ := hst k hk2
      have hbr := bef_range (T := T) (br := br) (k := k) fun j hj => hst j (by omega)
      have hrt := ok.rate hs0 hs1
      have ok2 : StOk T br row k → ∀ j : Nat, j < k + 1 → StOk T br row j := fun h j hj => by
        rcases Nat.lt_succ_iff_lt_or_eq.mp hj with h2 | h2
        · exact hall j h2
        · rw [h2]; exact h
      refine tg_name ?_
      repeat nest_cls
      refine ⟨_, _, _, _, (by pre_facts), by omega, by omega, ?_⟩
      repeat nest_cls
      refine ⟨fun hb => ?_, fun hb => ?_⟩
      · have hlt := of_decide_eq_true hb
        repeat nest_cls
        refine ⟨fun hc => ?_, fun hc => ?_⟩
        · have hn0 : ¬ gi row k = 0 := by simpa using hc
          repeat nest_cls
          refine hS2 fun r => ?_
          have := (r.2 k (by omega)).2.2
          unfold Tar.step at this
          rw [if_neg (by omega), if_neg hn0] at this
          exact this rfl
        · have h0 : gi row k = 0 := by simpa using hc
          have hstep : T.step (bef T br row k) (gi row k) = some (T.wake (bef T br row k)) := by
            unfold Tar.step
            rw [if_neg (by omega), if_pos h0]
          repeat nest_cls
          refine ⟨_, _, (by pre_facts), hs0, hs1, ?_⟩
          repeat nest_cls
          refine ⟨⟨.rp (vI k), .rp (vI (bef T br row k)), ?_, rfl⟩, ok2 ⟨hs0, hs1, by rw [hstep]; simp⟩⟩
          show [_, _, _, _, En.rp (vI (rowCostUp T ps br row k + T.wake (bef T br row k) + T.rate (gi row k) * gi ps k)), _, _] = [_, _, _, _, En.rp (vI (rowCostUp T ps br row (k + 1))), _, _]
          have e : rowCostUp T ps br row k + T.wake (bef T br row k) + T.rate (gi row k) * gi ps k = rowCostUp T ps br row (k + 1) := by
            rw [rowCostUp, hstep]
            simp only [Option.getD_some]
            omega
          rw [e]
          rfl
      · have hge := of_decide_eq_false hb
        have hstep : T.step (bef T br row k) (gi row k) = some 0 := by
          unfold Tar.step
          rw [if_pos (by omega)]
        repeat nest_cls
        refine ⟨_, _, (by pre_facts), hs0, hs1, ?_⟩
        repeat nest_cls
        refine ⟨⟨.rp (vI k), .rp (vI (bef T br row k)), ?_, rfl⟩, ok2 ⟨hs0, hs1, by rw [hstep]; simp⟩⟩
        show [_, _, _, _, En.rp (vI (rowCostUp T ps br row k + T.rate (gi row k) * gi ps k)), _, _] = [_, _, _, _, En.rp (vI (rowCostUp T ps br row (k + 1))), _, _]
        have e : rowCostUp T ps br row k + T.rate (gi row k) * gi ps k = rowCostUp T ps br row (k + 1) := by
          rw [rowCostUp, hstep]
          simp only [Option.getD_some]
          omega
        rw [e]
        rfl
    · rintro Γ1 μ1 ⟨⟨e5, e6, rfl, rfl⟩, hall⟩
      rw [Int.toNat_natCast] at hall ⊢
      repeat nest_cls
      exact hS1 ⟨hl, fun k hk => hall k (by omega)⟩
abbrev nLplancost : List Str := ["_law_tariff_here", "_law_prices", "_law_needs", "_law_breaks", "_law_plan", "_law_cost_here", "_law_row", "_law_k", "_law_one"]
theorem scLplancost : FnScope nLplancost ["_law_tariff_here", "_law_prices", "_law_needs", "_law_breaks", "_law_plan"] (defScope sLplancost) := ⟨rfl, rfl, rfl, by decide +kernel, rfl, by decide +kernel, by decide +kernel⟩
theorem ok_law_plan_cost (C : Ctx K mg) (g_law_row_cost : OkLrowcost P w K mg base) : OkLplancost P w K mg base := by
  have sc := scLplancost
  refine C.fn (i := 44) rfl rfl sc (fun _ _ _ _ _ _ us hl => match us, hl with | [_, _, _, _, _], _ => rfl) (len_sp ?len) fun cdv A outer s H vs Q E hr h => ⟨_, (pss_cons (ps_set (i := 5) sc.nd rfl (Or.inl rfl) pe_int) (pss_cons (ps_for PassesOwn.never rfl (pi_list (pv 4)) (pg_name (i := 6) sc.nd rfl (Or.inl rfl)) (pss_cons (ps_set (i := 8) sc.nd rfl (Or.inl rfl) (pe_fn g_law_row_cost (hr.mono (by decide)) rfl (pa_cons (pv 0) (pa_cons (pv 1) (pa_cons (pv 3) (pa_cons (pv 6) pa_nil)))))) (pss_cons (ps_if (pt_cmpR op_lt (pv 8) pe_int (nomark _)) (pss_one (ps_ret (pe_un un_neg pe_int))) pss_nil) (pss_one (ps_set (i := 5) sc.nd rfl (Or.inl rfl) (pe_op op_add (pv 5) (pv 8))))))) (pss_cons (ps_for PassesOwn.never rfl (pi_range1 rfl (C.f 73) (pa_cons (pe_callB call_len_seq (by rfl) (C.f 69) PySem.boot_len (pa_cons (pv 1) pa_nil)) pa_nil)) (pg_name (i := 7) sc.nd rfl (Or.inr rfl)) (pss_one (ps_if (pt_cmpR op_lt (pe_callB call_len_seq (by rfl) (C.f 69) PySem.boot_len (pa_cons (pe_lc (own := [("_law_row", 6)]) rfl sc.nd (pi_list (pv 4)) (blkOk_by (own := [("_law_row", 6)]) (N := nLplancost) (sc := defScope sLplancost) (by decide +kernel)) (fun _ _ _ _ _ => pg_name (i := 6) sc.nd rfl (Or.inl rfl)) (fun _ _ _ _ _ => pts_one (pt_cmpR op_eq (pe_ix (show IxR _ (rIx K) from ix_seq) (pv 6) (pv 7) (fun _ _ => rfl)) pe_int (nomark _))) (fun _ _ _ _ _ => (pv 6))) pa_nil)) (pe_ix ix_seq (pv 2) (pv 7) (fun _ _ => rfl)) (nomark _)) (pss_one (ps_ret (pe_un un_neg pe_int))) pss_nil))) (pss_one (ps_ret (pv 5)))))), run_sp h ?body⟩
  case len => exact fun A S ⟨T, ps, ns, br, pl, hA, ok, rok, hpl, hrow, hS1, hS2⟩ => ⟨_, hA, rfl⟩
  case body =>
    refine fun A S ⟨T, ps, ns, br, pl, hA, ok, rok, hpl, hrow, hS1, hS2⟩ => ⟨_, hA, fun F hF => ?_⟩
    show TSv F [.bo _, .bo _, .bo _, .bo _, .bo _, .no, .no, .no, .no] [] _ _
    try simp only [cx_K, cx_K2]
    have hnl := rok.len
    have hfew := rok.few
    repeat nest_cls
    refine ts_forL ?_
    repeat nest_cls
    refine ⟨_, _, IsL.b _, fun j Γ1 μ1 => (∃ e6 e7 e8, Γ1 = [.bo (TF K T), .bo (IL ps), .bo (IL ns), .bo (IL br), .bo (ILL pl), .rp (vI (planCost T ps br (pl.take j))), e6, e7, e8] ∧ μ1 = []) ∧ ∀ row, row ∈ pl.take j → RowOk T br row ps.length, ⟨⟨_, _, _, rfl, rfl⟩, fun row hm => (nomatch hm)⟩, ?_, ?_⟩
    · rintro j Γ1 μ1 R hR ⟨⟨e6, e7, e8, rfl, rfl⟩, hall⟩
      obtain ⟨row, hrw, rfl⟩ := at_mapF hR
      have hm := List.mem_of_getElem? hrw
      have lt := (List.getElem?_eq_some_iff.mp hrw).1
      have ex : pl[j] = row := (List.getElem?_eq_some_iff.mp hrw).2
      obtain ⟨hrl, hrs⟩ := hrow row hm
      refine tg_name ?_
      repeat nest_cls
      refine ⟨_, _, _, _, (by pre_facts), ok, hrl, by omega, hrs, fun hro => ?_, fun hro => ?_⟩
      · have hnn := rowCost_nonneg ok rok hro
        repeat nest_cls
        refine ⟨fun hb => ?_, fun hb => ?_⟩
        · have := of_decide_eq_true hb
          omega
        · repeat nest_cls
          refine ⟨⟨.bo (IL row), e7, .rp (vI (rowCost T ps br row)), ?_, rfl⟩, fun q hq => ?_⟩
          · show [_, _, _, _, _, En.rp (vI (planCost T ps br (pl.take j) + rowCost T ps br row)), _, _, _] = [_, _, _, _, _, En.rp (vI (planCost T ps br (pl.take (j + 1)))), _, _, _]
            have e : planCost T ps br (pl.take j) + rowCost T ps br row = planCost T ps br (pl.take (j + 1)) := by
              unfold planCost
              rw [List.take_succ_eq_append_getElem lt, ex, List.map_append, List.sum_append]
              simp
            rw [e]
            rfl
          · rw [List.take_succ_eq_append_getElem lt, ex] at hq
            rcases List.mem_append.mp hq with h | h
            · exact hall q h
            · rw [List.mem_singleton.mp h]
              exact hro
      · repeat nest_cls
        refine ⟨fun hb => ?_, fun hb => by cases hb⟩
        repeat nest_cls
        exact hS2 fun f => hro (f.1 row hm)
    · rintro Γ1 μ1 ⟨⟨e6, e7, e8, rfl, rfl⟩, hall⟩
      rw [List.length_map, List.take_length] at hall ⊢
      repeat nest_cls
      refine ts_forR1 ?_
      repeat nest_cls
      refine ⟨by omega, by omega, fun k Γ1 μ1 => (∃ e6 e7 e8, Γ1 = [.bo (TF K T), .bo (IL ps), .bo (IL ns), .bo (IL br), .bo (ILL pl), .rp (vI (planCost T ps br pl)), e6, e7, e8] ∧ μ1 = []) ∧ ∀ j : Nat, j < k → gi ns j ≤ hotN pl j, ⟨⟨_, _, _, rfl, rfl⟩, fun j hj => absurd hj (Nat.not_lt_zero j)⟩, ?_, ?_⟩
      · rintro k Γ1 μ1 hk ⟨⟨e6, e7, e8, rfl, rfl⟩, hk2⟩
        refine tg_name ?_
        repeat nest_cls
        refine te_new (tn_fmL (α := List Int) ?_)
        repeat nest_cls
        refine ⟨_, pl, IL, fun row => decide (gi row k = 0), fun _ => vAny, IsL.b _, by omega, fun row hm L acc => ?_, ?_⟩
        · have hrl := (hrow row hm).1
          repeat nest_cls
          refine ⟨rfl, fun _ => ?_⟩
          repeat nest_cls
          exact ⟨rfl, trivial⟩
        · repeat nest_cls
          refine ⟨fun hb1 => ?_, fun hb1 => ?_⟩
          · repeat nest_cls
            refine hS2 fun f => ?_
            have h1 := f.2 k (by omega)
            have h2 := of_decide_eq_true hb1
            rw [List.length_map] at h2
            unfold hotN at h1
            omega
          · repeat nest_cls
            refine ⟨⟨_, _, _, rfl, rfl⟩, fun j hj => ?_⟩
            rcases Nat.lt_succ_iff_lt_or_eq.mp hj with h | h
            · exact hk2 j h
            · subst h
              have h2 := of_decide_eq_false hb1
              rw [List.length_map] at h2
              unfold hotN
              omega
      · rintro Γ1 μ1 ⟨⟨e6, e7, e8, rfl, rfl⟩, hk2⟩
        rw [Int.toNat_natCast] at hk2
        repeat nest_cls
        exact hS1 ⟨hall, fun k hk => hk2 k (by omega)⟩
abbrev nLcost : List Str := ["_law_tariff_here", "_law_run_here", "_law_plan", "_law_row", "_law_state"]
theorem scLcost : FnScope nLcost ["_law_tariff_here", "_law_run_here", "_law_plan"] (defScope sLcost) := ⟨rfl, rfl, rfl, by decide +kernel, rfl, by decide +kernel, by decide +kernel⟩
theorem ok_law_cost (C : Ctx K mg) (g_law_plan_cost : OkLplancost P w K mg base) : OkLcost P w K mg base := by
  have sc := scLcost
  refine C.fn (i := 58) rfl rfl sc (fun _ _ _ _ _ _ us hl => match us, hl with | [_, _, _], _ => rfl) (len_sp ?len) fun cdv A outer s H vs Q E hr h => ⟨_, (pss_cons (ps_for PassesOwn.never rfl (pi_list (pv 2)) (pg_name (i := 3) sc.nd rfl (Or.inl rfl)) (pss_cons (ps_if (pt_cmpR op_ne (pe_callB call_len_seq (by rfl) (C.f 69) PySem.boot_len (pa_cons (pv 3) pa_nil)) (pe_callB call_len_seq (by rfl) (C.f 69) PySem.boot_len (pa_cons (pe_ix ix_seq (pv 1) pe_int (fun _ _ => rfl)) pa_nil)) (nomark _)) (pss_one (ps_ret (pe_un un_neg pe_int))) pss_nil) (pss_one (ps_for PassesOwn.never rfl (pi_list (pv 3)) (pg_name (i := 4) sc.nd rfl (Or.inl rfl)) (pss_one (ps_if (PW.pt (pw_or (pt_cmpR op_lt (pv 4) pe_int (nomark _)) (pw_or1 (pt_cmpR op_gt (pv 4) (pe_callB call_len_seq (by rfl) (C.f 69) PySem.boot_len (pa_cons (pe_ix ix_seq (pv 0) pe_int (fun _ _ => rfl)) pa_nil)) (nomark _))))) (pss_one (ps_ret (pe_un un_neg pe_int))) pss_nil)))))) (pss_one (ps_ret (pe_fn g_law_plan_cost (hr.mono (by decide)) rfl (pa_cons (pv 0) (pa_cons (pe_ix ix_seq (pv 1) pe_int (fun _ _ => rfl)) (pa_cons (pe_ix ix_seq (pv 1) pe_int (fun _ _ => rfl)) (pa_cons (pe_ix ix_seq (pv 1) pe_int (fun _ _ => rfl)) (pa_cons (pv 2) pa_nil))))))))), run_sp h ?body⟩
  case len => exact fun A S ⟨T, ps, ns, br, pl, hA, ok, rok, hpl, h1000, hS1, hS2⟩ => ⟨_, hA, rfl⟩
  case body =>
    refine fun A S ⟨T, ps, ns, br, pl, hA, ok, rok, hpl, h1000, hS1, hS2⟩ => ⟨_, hA, fun F hF => ?_⟩
    show TSv F [.bo _, .bo _, .bo _, .no, .no] [] _ _
    try simp only [cx_K, cx_K2]
    have hfew := rok.few
    repeat nest_cls
    refine ts_forL ?_
    repeat nest_cls
    refine ⟨_, _, IsL.b _, fun j Γ1 μ1 => (∃ e3 e4, Γ1 = [.bo (TF K T), .bo (runR K ps ns br), .bo (ILL pl), e3, e4] ∧ μ1 = []) ∧ ∀ row, row ∈ pl.take j → row.length = ps.length ∧ ∀ s, s ∈ row → 0 ≤ s ∧ s ≤ (T.rates.length : Int), ⟨⟨_, _, rfl, rfl⟩, fun row hm => (nomatch hm)⟩, ?_, ?_⟩
    · rintro j Γ1 μ1 R hR ⟨⟨e3, e4, rfl, rfl⟩, hall⟩
      obtain ⟨row, hrw, rfl⟩ := at_mapF hR
      have hm := List.mem_of_getElem? hrw
      have lt := (List.getElem?_eq_some_iff.mp hrw).1
      have ex : pl[j] = row := (List.getElem?_eq_some_iff.mp hrw).2
      refine tg_name ?_
      repeat nest_cls
      refine ⟨fun hb => ?_, fun hb => ?_⟩
      · repeat nest_cls
        refine hS2 fun f => ?_
        have := (f.1 row hm).1
        simp only [List.length_map, Bool.not_eq_true', decide_eq_false_iff_not] at hb
        omega
      · have hrl : row.length = ps.length := by
          simp only [List.length_map, Bool.not_eq_false', decide_eq_true_eq] at hb
          omega
        repeat nest_cls
        refine ts_forL ?_
        repeat nest_cls
        refine ⟨_, _, IsL.b _, fun i Γ1 μ1 => (∃ e4, Γ1 = [.bo (TF K T), .bo (runR K ps ns br), .bo (ILL pl), .bo (IL row), e4] ∧ μ1 = []) ∧ ∀ s, s ∈ row.take i → 0 ≤ s ∧ s ≤ (T.rates.length : Int), ⟨⟨_, rfl, rfl⟩, fun s hm => (nomatch hm)⟩, ?_, ?_⟩
        · rintro i Γ1 μ1 R hR2 ⟨⟨e4, rfl, rfl⟩, hs⟩
          obtain ⟨s, hs1, rfl⟩ := at_mapF hR2
          have hsm := List.mem_of_getElem? hs1
          have lt2 := (List.getElem?_eq_some_iff.mp hs1).1
          have ex2 : row[i] = s := (List.getElem?_eq_some_iff.mp hs1).2
          have bad : ¬ (0 ≤ s ∧ s ≤ (T.rates.length : Int)) → ¬ Fits T ps.length ns br pl := fun h f => h (by
            have := (f.1 row hm).2 i (by omega)
            obtain ⟨h1, h2, _⟩ := this
            rw [gi_nat hs1] at h1 h2
            exact ⟨h1, h2⟩)
          refine tg_name ?_
          repeat nest_cls
          refine ⟨fun hb1 => ?_, fun hb1 => ?_⟩
          · refine ⟨fun _ => ?_, fun z => (nomatch z)⟩
            repeat nest_cls
            exact hS2 (bad fun z => by
              have := of_decide_eq_true hb1
              omega)
          · have hb2 := of_decide_eq_false hb1
            repeat nest_cls
            refine ⟨fun hb3 => ?_, fun hb3 => ?_⟩
            · repeat nest_cls
              exact hS2 (bad fun z => by
                have := of_decide_eq_true hb3
                omega)
            · have hb4 := of_decide_eq_false hb3
              repeat nest_cls
              refine ⟨⟨_, rfl, rfl⟩, fun q hq => ?_⟩
              rw [List.take_succ_eq_append_getElem lt2, ex2] at hq
              rcases List.mem_append.mp hq with h | h
              · exact hs q h
              · rw [List.mem_singleton.mp h]
                omega
        · rintro Γ1 μ1 ⟨⟨e4, rfl, rfl⟩, hs⟩
          rw [List.length_map, List.take_length] at hs
          refine ⟨⟨_, _, rfl, rfl⟩, fun q hq => ?_⟩
          rw [List.take_succ_eq_append_getElem lt, ex] at hq
          rcases List.mem_append.mp hq with h | h
          · exact hall q h
          · rw [List.mem_singleton.mp h]
            exact ⟨hrl, hs⟩
    · rintro Γ1 μ1 ⟨⟨e3, e4, rfl, rfl⟩, hall⟩
      rw [List.length_map, List.take_length] at hall
      repeat nest_cls
      exact ⟨_, _, _, _, _, ⟨cv_b Rp.Le.rfl, cv_b Rp.Le.rfl, cv_b Rp.Le.rfl, cv_b Rp.Le.rfl, cv_b Rp.Le.rfl, trivial⟩, ok, rok, hpl, hall, fun f => ⟨_, rfl, hS1 f⟩, fun f => ⟨_, rfl, hS2 f⟩⟩
abbrev nLbest : List Str := ["_law_tariff_here", "_law_prices", "_law_needs", "_law_breaks", "_law_cost_here", "_law_lane", "_law_last", "_law_k", "_law_gap", "_law_j"]
theorem scLbest : FnScope nLbest ["_law_tariff_here", "_law_prices", "_law_needs", "_law_breaks"] (defScope sLbest) := ⟨rfl, rfl, rfl, by decide +kernel, rfl, by decide +kernel, by decide +kernel⟩
theorem ok_law_best (C : Ctx K mg) (g_law_idle_cost : OkLidlecost P w K mg base) : OkLbest P w K mg base := by
  have sc := scLbest
  refine C.fn (i := 47) rfl rfl sc (fun _ _ _ _ _ _ us hl => match us, hl with | [_, _, _, _], _ => rfl) (len_sp ?len) fun cdv A outer s H vs Q E hr h => ⟨_, (pss_cons (ps_set (i := 4) sc.nd rfl (Or.inl rfl) pe_int) (pss_cons (ps_for PassesOwn.never rfl (pi_range1 rfl (C.f 73) (pa_cons (pe_callBK (cr_maxD rfl) (by rfl) (C.f 71) (by decide +kernel) (pa_cons (pv 2) pa_nil) (pk_cons pe_int pk_nil)) pa_nil)) (pg_name (i := 5) sc.nd rfl (Or.inl rfl)) (pss_cons (ps_set (i := 6) sc.nd rfl (Or.inr rfl) (pe_un un_neg pe_int)) (pss_one (ps_for PassesOwn.never rfl (pi_range1 rfl (C.f 73) (pa_cons (pe_callB call_len_seq (by rfl) (C.f 69) PySem.boot_len (pa_cons (pv 1) pa_nil)) pa_nil)) (pg_name (i := 7) sc.nd rfl (Or.inr rfl)) (pss_one (ps_if (pt_cmpR op_gt (pe_ix ix_seq (pv 2) (pv 7) (fun _ _ => rfl)) (pv 5) (nomark _)) (pss_cons (ps_set (i := 4) sc.nd rfl (Or.inl rfl) (pe_op op_add (pv 4) (pe_op op_mul (pe_ix ix_seq (pe_ix ix_seq (pv 0) pe_int (fun _ _ => rfl)) pe_int (fun _ _ => rfl)) (pe_ix ix_seq (pv 1) (pv 7) (fun _ _ => rfl))))) (pss_cons (ps_set (i := 8) sc.nd rfl (Or.inl rfl) (pe_callB (cr_sum rfl) (by rfl) (C.f 76) (by decide +kernel) (pa_cons (pe_slice sl_list (pv 1) (po_some (pe_op op_add (pv 6) pe_int)) (po_some (pv 7))) pa_nil))) (pss_cons (ps_if (PW.pt (pw_or (pt_cmpR op_lt (pv 6) pe_int (nomark _)) (pw_or1 (pt_cmpR op_gt (pe_callB call_len_seq (by rfl) (C.f 69) PySem.boot_len (pa_cons (pe_lc (own := [("_law_j", 9)]) rfl sc.nd (pi_list (pv 3)) (blkOk_by (own := [("_law_j", 9)]) (N := nLbest) (sc := defScope sLbest) (by decide +kernel)) (fun _ _ _ _ _ => pg_name (i := 9) sc.nd rfl (Or.inl rfl)) (fun _ _ _ _ _ => pts_one (PW.pt (pw_and (pt_cmpR op_le (pv 6) (pv 9) (nomark _)) (pw_and1 (pt_cmpR op_lt (pv 9) (pv 7) (nomark _)))))) (fun _ _ _ _ _ => (pv 9))) pa_nil)) pe_int (nomark _))))) (pss_one (ps_set (i := 4) sc.nd rfl (Or.inl rfl) (pe_op op_add (pv 4) (pe_ix ix_seq (pe_ix ix_seq (pv 0) pe_int (fun _ _ => rfl)) (pe_un un_neg pe_int) (fun _ _ => rfl))))) (pss_one (ps_set (i := 4) sc.nd rfl (Or.inl rfl) (pe_op op_add (pv 4) (pe_fn g_law_idle_cost (hr.mono (by decide)) rfl (pa_cons (pv 0) (pa_cons (pv 8) pa_nil))))))) (pss_one (ps_set (i := 6) sc.nd rfl (Or.inr rfl) (pv 7)))))) pss_nil)))))) (pss_one (ps_ret (pv 4))))), run_sp h ?body⟩
  case len => exact fun A S ⟨T, ps, ns, br, hA, ok, rok, hS⟩ => ⟨_, hA, rfl⟩
  case body =>
    refine fun A S ⟨T, ps, ns, br, hA, ok, rok, hS⟩ => ⟨_, hA, fun F hF => ?_⟩
    show TSv F [.bo _, .bo _, .bo _, .bo _, .no, .no, .no, .no, .no, .no] [] _ _
    try simp only [cx_K, cx_K2]
    have hnl := rok.len
    have hfew := rok.few
    have hbf := rok.bf
    have hmx := rok.mx
    have hpos := ok.pos
    have hwl := ok.len
    have hr0 := ok.rate (s := 0) (by omega) (by omega)
    repeat nest_cls
    refine ts_forR1 ?_
    repeat nest_cls
    refine rck_maxD (by l_intsC) fun m hm => ?_
    have em := maxN_is rok.nn hm
    subst em
    repeat nest_cls
    refine ⟨by omega, by omega, fun l Γ1 μ1 => ∃ e5 e6 e7 e8 e9, Γ1 = [.bo (TF K T), .bo (IL ps), .bo (IL ns), .bo (IL br), .rp (vI (bestUp T ps ns br l)), e5, e6, e7, e8, e9] ∧ μ1 = [], ⟨_, _, _, _, _, rfl, rfl⟩, ?_, ?_⟩
    · rintro l Γ1 μ1 hl ⟨e5, e6, e7, e8, e9, rfl, rfl⟩
      refine tg_name ?_
      repeat nest_cls
      refine ts_forR1 ?_
      repeat nest_cls
      refine ⟨by omega, by omega, fun k Γ1 μ1 => ∃ e7 e8 e9, Γ1 = [.bo (TF K T), .bo (IL ps), .bo (IL ns), .bo (IL br), .rp (vI (bestUp T ps ns br l + (bestLane T ps ns br l k).1)), .rp (vI l), .rp (vI (bestLane T ps ns br l k).2), e7, e8, e9] ∧ μ1 = [], ⟨e7, e8, e9, ?_, rfl⟩, ?_, ?_⟩
      · show _ = [_, _, _, _, En.rp (vI (bestUp T ps ns br l + 0)), _, En.rp (vI (-1)), _, _, _]
        rw [Int.add_zero]
        rfl
      · rintro k Γ1 μ1 hk ⟨e7, e8, e9, rfl, rfl⟩
        have hla := bestLane_last T ps ns br l k
        have hst : bestLane T ps ns br l (k + 1) = (if (l : Int) < gi ns k then ((bestLane T ps ns br l k).1 + T.rate 0 * gi ps k + (if (bestLane T ps ns br l k).2 < 0 ∨ brk br (bestLane T ps ns br l k).2 k = true then T.wake T.rates.length else idleC T (psum ps ((bestLane T ps ns br l k).2 + 1) k)), (k : Int)) else bestLane T ps ns br l k) := rfl
        generalize bestLane T ps ns br l k = x at hla hst ⊢
        have e0 : gi T.rates 0 = T.rate 0 := by
          unfold Tar.rate
          rw [if_neg (by omega)]
        refine tg_name ?_
        repeat nest_cls
        refine ⟨fun hb => ?_, fun hb => ?_⟩
        · rw [if_pos (of_decide_eq_true hb)] at hst
          repeat nest_cls
          rw [e0]
          refine te_new (tn_slI ?_)
          repeat o_readsAll
          refine ⟨_, ps, sl_b, ?_⟩
          repeat o_readsAll
          rw [show (cutR ps (some (x.2 + 1)) (some (k : Int))).sum = psum ps (x.2 + 1) k from rfl]
          generalize hgp : psum ps (x.2 + 1) k = gp at hst ⊢
          generalize hex : (if x.2 < 0 ∨ brk br x.2 k = true then T.wake T.rates.length else idleC T gp) = ex at hst
          refine ts_seq (ts_join (fun Γ1 μ1 => Γ1 = [.bo (TF K T), .bo (IL ps), .bo (IL ns), .bo (IL br), .rp (vI (bestUp T ps ns br l + x.1 + T.rate 0 * gi ps k + ex)), .rp (vI l), .rp (vI x.2), .rp (vI k), .rp (vI gp), e9] ∧ μ1 = []) ?_ ?_)
          · have thn : x.2 < 0 ∨ brk br x.2 k = true → ex = T.wake T.rates.length := fun h => by rw [if_pos h] at hex; exact hex.symm
            have els : ¬ (x.2 < 0 ∨ brk br x.2 k = true) → ex = idleC T gp := fun h => by rw [if_neg h] at hex; exact hex.symm
            have ewk : gi T.wakes ((T.wakes.length : Int) - 1) = T.wake T.rates.length := by
              unfold Tar.wake
              rw [show (T.wakes.length : Int) - 1 = (T.rates.length : Int) by omega]
            repeat nest_cls
            refine ⟨fun hc => ?_, fun hc => ?_⟩
            · refine ⟨fun _ => ?_, fun z => (nomatch z)⟩
              rw [thn (.inl (of_decide_eq_true hc))]
              repeat nest_cls
              refine rop_ixE (l := .b) (SqTs.q st_b) (at_giL (by omega)) ?_
              rw [ewk]
              repeat nest_cls
              exact ⟨rfl, rfl⟩
            · have hc2 := of_decide_eq_false hc
              repeat nest_cls
              refine te_new (tn_fmL (α := Int) ?_)
              repeat nest_cls
              refine ⟨_, br, vI, fun m => decide (x.2 ≤ m) && decide (m < (k : Int)), vI, IsL.b _, by omega, fun m hm L acc => ?_, ?_⟩
              · repeat nest_cls
                refine ⟨fun h1 => ?_, fun h1 => ?_⟩
                · repeat nest_cls
                  exact ⟨by simp [h1], fun _ => by (repeat nest_cls); exact ⟨rfl, trivial⟩⟩
                · exact ⟨by simp [h1], fun z => (nomatch z)⟩
              · repeat nest_cls
                have ebr : (0 < ((br.filter fun m => decide (x.2 ≤ m) && decide (m < (k : Int))).length : Int)) ↔ brk br x.2 k = true := by
                  unfold brk
                  rw [List.any_eq_true]
                  constructor
                  · intro h
                    have h2 : 0 < (br.filter fun m => decide (x.2 ≤ m) && decide (m < (k : Int))).length := by omega
                    obtain ⟨m, hm⟩ := List.exists_mem_of_length_pos h2
                    exact ⟨m, (List.mem_filter.mp hm).1, (List.mem_filter.mp hm).2⟩
                  · rintro ⟨m, hm1, hm2⟩
                    have := List.length_pos_of_mem ((List.mem_filter (p := fun m => decide (x.2 ≤ m) && decide (m < (k : Int)))).mpr ⟨hm1, hm2⟩)
                    omega
                refine ⟨fun hd => ?_, fun hd => ?_⟩
                · rw [thn (.inr (ebr.mp (of_decide_eq_true hd)))]
                  repeat nest_cls
                  refine rop_ixE (l := .b) (SqTs.q st_b) (at_giL (by omega)) ?_
                  rw [ewk]
                  repeat nest_cls
                  exact ⟨rfl, rfl⟩
                · rw [els (fun z => z.elim hc2 fun z => of_decide_eq_false hd (ebr.mpr z))]
                  repeat nest_cls
                  refine ⟨_, _, (by pre_facts), ok, ?_⟩
                  repeat nest_cls
                  exact ⟨rfl, rfl⟩
          · rintro Γ1 μ1 ⟨rfl, rfl⟩
            repeat nest_cls
            show ∃ e7 e8 e9, _ = [_, _, _, _, En.rp (vI (bestUp T ps ns br l + (bestLane T ps ns br l (k + 1)).1)), _, En.rp (vI (bestLane T ps ns br l (k + 1)).2), e7, e8, e9] ∧ _ = _
            rw [hst, show bestUp T ps ns br l + (x.1 + T.rate 0 * gi ps k + ex, (k : Int)).1 = bestUp T ps ns br l + x.1 + T.rate 0 * gi ps k + ex by show bestUp T ps ns br l + (x.1 + T.rate 0 * gi ps k + ex) = _; omega]
            exact ⟨.rp (vI k), .rp (vI gp), e9, rfl, rfl⟩
        · rw [if_neg (of_decide_eq_false hb)] at hst
          repeat nest_cls
          show ∃ e7 e8 e9, _ = [_, _, _, _, En.rp (vI (bestUp T ps ns br l + (bestLane T ps ns br l (k + 1)).1)), _, En.rp (vI (bestLane T ps ns br l (k + 1)).2), e7, e8, e9] ∧ _ = _
          rw [hst]
          exact ⟨.rp (vI k), e8, e9, rfl, rfl⟩
      · rintro Γ1 μ1 ⟨e7, e8, e9, rfl, rfl⟩
        exact ⟨_, _, _, _, _, rfl, rfl⟩
    · rintro Γ1 μ1 ⟨e5, e6, e7, e8, e9, rfl, rfl⟩
      repeat nest_cls
      exact hS
end
section
variable {P : Program} {w : World} {K : PySem.W.Frag} {mg : Str → Option Value} {base : Heap}

abbrev nLsame : List Str := ["_law_actual", "_law_due", "_law_k"]
theorem scLsame : FnScope nLsame ["_law_actual", "_law_due"] (defScope sLsame) := ⟨rfl, rfl, rfl, by decide +kernel, rfl, by decide +kernel, by decide +kernel⟩
theorem ok_law_same (C : Ctx K mg)  : OkLsame P w K mg base := by
  have sc := scLsame
  refine C.fn (i := 36) rfl rfl sc (fun _ _ _ _ _ _ us hl => match us, hl with | [_, _], _ => rfl) (len_sp ?len) fun cdv A outer s H vs Q E hr h => ⟨_, (pss_cons (ps_if (pt_cmpR op_isN (pv 1) pe_non (nomark _)) (pss_one (ps_ret (pe_cmpR op_isN (pv 0) pe_non (nomark _)))) pss_nil) (pss_cons (ps_if (pt_cmpR op_isBl (pv 1) pe_bl (nomark _)) (pss_one (ps_ret (pe_cmpR op_isBl (pv 0) pe_bl (nomark _)))) pss_nil) (pss_cons (ps_if (pt_cmpR op_isBl (pv 1) pe_bl (nomark _)) (pss_one (ps_ret (pe_cmpR op_isBl (pv 0) pe_bl (nomark _)))) pss_nil) pss_dead))), run_sp h ?body⟩
  case len => exact fun A S ⟨x, y, hA, hS⟩ => ⟨_, hA, rfl⟩
  case body =>
    refine fun A S ⟨x, y, hA, hS⟩ => ⟨_, hA, fun F hF => ?_⟩
    show TSv F [.bo _, .bo _, .no] [] _ _
    try simp only [cx_K, cx_K2]
    repeat nest_cls
    refine ⟨fun z => (by cases z), fun _ => ?_⟩
    repeat nest_cls
    refine rop_isBl ?_
    repeat nest_cls
    refine ⟨fun hb => ?_, fun hb => ?_⟩
    · have hy := of_decide_eq_true hb
      subst hy
      repeat nest_cls
      refine rop_isBl ?_
      repeat nest_cls
      exact hS
    · have hy := of_decide_eq_false hb
      repeat nest_cls
      refine rop_isBl ?_
      repeat nest_cls
      refine ⟨fun hc => ?_, fun hc => ?_⟩
      · have hy2 := of_decide_eq_true hc
        subst hy2
        repeat nest_cls
        refine rop_isBl ?_
        repeat nest_cls
        exact hS
      · have hy2 := of_decide_eq_false hc
        cases y <;> simp at hy hy2
abbrev nLispaper : List Str := ["_law_paper", "_law_row"]
theorem scLispaper : FnScope nLispaper ["_law_paper"] (defScope sLispaper) := ⟨rfl, rfl, rfl, by decide +kernel, rfl, by decide +kernel, by decide +kernel⟩
theorem ok_law_is_paper (C : Ctx K mg)  : OkLispaper P w K mg base := by
  have sc := scLispaper
  refine C.fn (i := 60) rfl rfl sc (fun _ _ _ _ _ _ us hl => match us, hl with | [_], _ => rfl) (len_sp ?len) fun cdv A outer s H vs Q E hr h => ⟨_, (pss_cons (ps_if (PW.pt (pw_or (pt_not (pt_val (pe_callB call_isi (by rfl) (C.f 68) (by decide +kernel) (pa_cons (pv 0) (pa_cons (pe_bltn (v := .ty "tuple") rfl (C.f 77) (by decide +kernel) rfl) pa_nil))))) (pw_or (pt_cmpR op_ne (pe_callB call_len_seq (by rfl) (C.f 69) PySem.boot_len (pa_cons (pv 0) pa_nil)) pe_int (nomark _)) (pw_or (pt_not (pt_val (pe_callB call_isi (by rfl) (C.f 68) (by decide +kernel) (pa_cons (pe_ix ix_seq (pv 0) pe_int (fun _ _ => rfl)) (pa_cons (pe_bltn (v := .ty "tuple") rfl (C.f 77) (by decide +kernel) rfl) pa_nil))))) (pw_or1 (pt_not (pt_val (pe_callB call_isi (by rfl) (C.f 68) (by decide +kernel) (pa_cons (pe_ix ix_seq (pv 0) pe_int (fun _ _ => rfl)) (pa_cons (pe_bltn (v := .ty "tuple") rfl (C.f 77) (by decide +kernel) rfl) pa_nil)))))))))) (pss_one (ps_ret pe_bl)) pss_nil) (pss_one (ps_ret (pe_cmpR (op_eqD hr.units) (pe_lc (own := [("_law_row", 1)]) rfl sc.nd (pi_tup (pe_ix ix_seq (pv 0) pe_int (fun _ _ => rfl))) (blkOk_by (own := [("_law_row", 1)]) (N := nLispaper) (sc := defScope sLispaper) (by decide +kernel)) (fun _ _ _ _ _ => pg_name (i := 1) sc.nd rfl (Or.inl rfl)) (fun _ _ _ _ _ => pts_one (pt_not (pt_val (pe_callB (show CallR _ _ (rIsi K) from call_isi) (by rfl) (C.f 68) (by decide +kernel) (pa_cons (pv 1) (pa_cons (pe_bltn (v := .ty "tuple") rfl (C.f 77) (by decide +kernel) rfl) pa_nil)))))) (fun _ _ _ _ _ => pe_int)) (pe_lst pa_nil) (nomark _))))), run_sp h ?body⟩
  case len => exact fun A S ⟨gs, hs, hA, hl, hS⟩ => ⟨_, hA, rfl⟩
  case body =>
    refine fun A S ⟨gs, hs, hA, hl, hS⟩ => ⟨_, hA, fun F hF => ?_⟩
    show TSv F [.bo _, .no] [] _ _
    try simp only [cx_K, cx_K2]
    repeat nest_cls
    refine rc_isiT st_b ?_
    repeat nest_cls
    refine ⟨fun z => (by cases z), fun _ => ?_⟩
    repeat nest_cls
    refine ⟨fun z => (by cases z), fun _ => ?_⟩
    repeat nest_cls
    refine rc_isiT (l := .b) st_b ?_
    repeat nest_cls
    refine ⟨fun z => (by cases z), fun _ => ?_⟩
    repeat nest_cls
    refine rc_isiT (l := .b) st_b ?_
    repeat nest_cls
    refine ⟨fun z => (by cases z), fun _ => ?_⟩
    repeat nest_cls
    refine te_new (tn_fmT (α := List Int) ?_)
    repeat nest_cls
    refine ⟨_, hs, rowR K, fun _ => false, fun _ => vI 1, IsT.b _, by omega, fun r hm L acc => ?_, ?_⟩
    · repeat nest_cls
      refine rc_isiT (l := .b) st_b ?_
      repeat nest_cls
      exact ⟨rfl, fun z => (by cases z)⟩
    · rw [show (hs.filter fun _ => false) = [] from by simp]
      repeat nest_cls
      refine rop_eqD (d := .list []) (e := .list []) (dr_z (dp_ls trivial)) (dr_z (dp_ls trivial)) (by decide) (by decide) ?_
      repeat nest_cls
      exact hS
end
theorem fdiv_lt {n m : Int} (h0 : 0 ≤ n) (h : 1 ≤ m) : 0 ≤ n.fdiv m := by
  rw [Int.fdiv_eq_ediv_of_nonneg n (by omega)]
  exact Int.ediv_nonneg h0 (by omega)
section
variable {P : Program} {w : World} {K : PySem.W.Frag} {mg : Str → Option Value} {base : Heap}

abbrev nLmix : List Str := ["_law_number", "_law_one"]
theorem scLmix : FnScope nLmix ["_law_number"] (defScope sLmix) := ⟨rfl, rfl, rfl, by decide +kernel, rfl, by decide +kernel, by decide +kernel⟩
theorem ok_law_mix (C : Ctx K mg)  : OkLmix P w K mg base := by
  have sc := scLmix
  refine C.fn (i := 33) rfl rfl sc (fun _ _ _ _ _ _ us hl => match us, hl with | [_], _ => rfl) (len_sp ?len) fun cdv A outer s H vs Q E hr h => ⟨_, (pss_cons (ps_set (i := 1) sc.nd rfl (Or.inl rfl) (pe_op op_modN (pe_callTy call_int1 (by rfl) (C.f 67) (by decide +kernel) (pa_cons (pe_op op_add (pe_op op_mul (pe_callTy call_int1 (by rfl) (C.f 67) (by decide +kernel) (pa_cons (pv 0) pa_nil)) pe_int) pe_int) pa_nil)) pe_int)) (pss_one (ps_ret (pe_op op_modN (pe_callTy call_int1 (by rfl) (C.f 67) (by decide +kernel) (pa_cons (pe_op op_add (pe_op op_add (pe_op op_mul (pv 1) pe_int) (pe_op op_mul (pe_op op_fdivN (pv 1) pe_int) pe_int)) pe_int) pa_nil)) pe_int)))), run_sp h ?body⟩
  case len => exact fun A S ⟨n, hA, hS⟩ => ⟨_, hA, rfl⟩
  case body =>
    refine fun A S ⟨n, hA, hS⟩ => ⟨_, hA, fun F hF => ?_⟩
    show TSv F [.bo _, .no] [] _ _
    try simp only [cx_K, cx_K2]
    repeat nest_cls
    exact hS _ (Int.emod_nonneg _ (by decide))
abbrev nLstart : List Str := ["_law_script"]
theorem scLstart : FnScope nLstart ["_law_script"] (defScope sLstart) := ⟨rfl, rfl, rfl, by decide +kernel, rfl, by decide +kernel, by decide +kernel⟩
theorem ok_law_start (C : Ctx K mg)  : OkLstart P w K mg base := by
  have sc := scLstart
  refine C.fn (i := 34) rfl rfl sc (fun _ _ _ _ _ _ us hl => match us, hl with | [_], _ => rfl) (fun vs H Q E h => ?len) fun cdv A outer s H vs Q E hr h => ⟨_, (pss_one (ps_ret (pe_lst (pa_cons (pe_callTy call_list_of (by rfl) (C.f 70) (by decide +kernel) (pa_cons (pv 0) pa_nil)) (pa_cons pe_int (pa_cons pe_int (pa_cons pe_int (pa_cons pe_int pa_nil)))))))), ?body⟩
  case len =>
    obtain ⟨a, ns, rfl, _⟩ := h
    rfl
  case body =>
    obtain ⟨a, ns, rfl, hs, k⟩ := h
    refine ⟨_, rfl, a, _, rfl, .inl hs, fun l hl => ?_⟩
    refine ⟨by show 5 ≤ sizeLine; decide, fun l' hl' => ?_⟩
    exact k l l' hl hl'
abbrev nLdraw : List Str := ["_law_d", "_law_many", "_law_value"]
theorem scLdraw : FnScope nLdraw ["_law_d", "_law_many"] (defScope sLdraw) := ⟨rfl, rfl, rfl, by decide +kernel, rfl, by decide +kernel, by decide +kernel⟩
theorem ok_law_draw (C : Ctx K mg) (g_law_mix : OkLmix P w K mg base) : OkLdraw P w K mg base := by
  have sc := scLdraw
  refine C.fn (i := 35) rfl rfl sc (fun _ _ _ _ _ _ us hl => match us, hl with | [_, _], _ => rfl) (len_spD ?len) fun cdv A outer s H vs Q E hr h => ⟨_, (pss_cons (ps_asg (pe_op op_add (pe_ix ix_seq (pv 0) pe_int (fun _ _ => rfl)) pe_int) (pg_sub (pv 0) pe_int set_list)) (pss_cons (ps_if (pt_cmpR op_eq (pe_ix ix_seq (pv 0) pe_int (fun _ _ => rfl)) pe_int (nomark _)) (pss_one (ps_if (pt_cmpR op_lt (pe_ix ix_seq (pv 0) pe_int (fun _ _ => rfl)) (pe_callB call_len_seq (by rfl) (C.f 69) PySem.boot_len (pa_cons (pe_ix ix_seq (pv 0) pe_int (fun _ _ => rfl)) pa_nil)) (nomark _)) (pss_cons (ps_asg (pe_ix ix_seq (pe_ix ix_seq (pv 0) pe_int (fun _ _ => rfl)) (pe_ix ix_seq (pv 0) pe_int (fun _ _ => rfl)) (fun _ _ => rfl)) (pg_sub (pv 0) pe_int set_list)) (pss_cons (ps_asg (pe_op op_add (pe_ix ix_seq (pv 0) pe_int (fun _ _ => rfl)) pe_int) (pg_sub (pv 0) pe_int set_list)) (pss_one (ps_if (pt_cmpR op_ge (pe_ix ix_seq (pv 0) pe_int (fun _ _ => rfl)) (pe_op op_pow pe_int pe_int) (nomark _)) (pss_one (ps_asg (pe_ix ix_seq (pv 0) pe_int (fun _ _ => rfl)) (pg_sub (pv 0) pe_int set_list))) pss_nil)))) pss_nil)) pss_nil) (pss_cons (ps_if (pt_cmpR op_gt (pe_ix ix_seq (pv 0) pe_int (fun _ _ => rfl)) pe_int (nomark _)) (pss_cons (ps_set (i := 2) sc.nd rfl (Or.inl rfl) (pe_op op_modN (pe_callTy call_int1 (by rfl) (C.f 67) (by decide +kernel) (pa_cons (pe_ix ix_seq (pv 0) pe_int (fun _ _ => rfl)) pa_nil)) (pv 1))) (pss_cons (ps_asg (pe_op op_fdivN (pe_ix ix_seq (pv 0) pe_int (fun _ _ => rfl)) (pv 1)) (pg_sub (pv 0) pe_int set_list)) (pss_one (ps_ret (pv 2))))) pss_nil) (pss_one (ps_ret (pe_op op_modN (pe_callTy call_int1 (by rfl) (C.f 67) (by decide +kernel) (pa_cons (pe_fn g_law_mix (hr.mono (by decide)) rfl (pa_cons (pe_fn g_law_mix (hr.mono (by decide)) rfl (pa_cons (pe_op op_add (pe_callTy call_int1 (by rfl) (C.f 67) (by decide +kernel) (pa_cons (pe_ix ix_seq (pv 0) pe_int (fun _ _ => rfl)) pa_nil)) (pe_op op_mul pe_int (pe_ix ix_seq (pv 0) pe_int (fun _ _ => rfl)))) pa_nil)) pa_nil)) pa_nil)) (pv 1))))))), run_draw rfl h ?body⟩
  case len => exact fun A S ⟨m, hA, _⟩ => ⟨_, hA, rfl⟩
  case body =>
    refine fun F l a ns i n k last m hF hm1 hm2 hi hn => ?_
    show TSv F [.ow _, .rp _, .no] [_] _ _
    try simp only [cx_K, cx_K2]
    refine ts_seq (ts_item (i := 0) (j := 0) (by with_unfolding_all rfl) (by with_unfolding_all rfl) ?_)
    repeat o_readsAll
    refine ⟨3, 3, rfl, rfl, ?_⟩
    show TSv F [.ow l, .rp (vI m), .no] [(l, obL (drPs a ns i n (k + 1) last))] _ _
    generalize k + 1 = k
    refine ts_seq (ts_join (fun Γ1 μ1 => ∃ i n last, 0 ≤ i ∧ 0 ≤ n ∧ Γ1 = [.ow l, .rp (vI m), .no] ∧ μ1 = [(l, obL (drPs a ns i n k last))]) ?_ ?_)
    · repeat nest_cls
      refine ⟨fun hb => ?_, fun hb => ?_⟩
      · repeat nest_cls
        refine ⟨fun hc => ?_, fun hc => ?_⟩
        · have hlt := of_decide_eq_true hc
          refine ts_seq (ts_item (i := 0) (j := 0) (by with_unfolding_all rfl) (by with_unfolding_all rfl) ?_)
          repeat o_readsAll
          generalize gi ns i = x
          repeat o_readsAll
          refine ⟨4, 4, rfl, rfl, ?_⟩
          show TSv F [.ow l, .rp (vI m), .no] [(l, obL (drPs a ns i n k x))] _ _
          refine ts_seq (ts_item (i := 0) (j := 0) (by with_unfolding_all rfl) (by with_unfolding_all rfl) ?_)
          repeat o_readsAll
          refine ⟨1, 1, rfl, rfl, ?_⟩
          show TSv F [.ow l, .rp (vI m), .no] [(l, obL (drPs a ns (i + 1) n k x))] _ _
          repeat nest_cls
          refine rop_C (C := CPow) (by refine ⟨by decide, by decide, by decide⟩) ?_
          repeat nest_cls
          refine ⟨fun hd => ?_, fun hd => ?_⟩
          · have h18 := of_decide_eq_true hd
            refine ts_item (i := 0) (j := 0) (by with_unfolding_all rfl) (by with_unfolding_all rfl) ?_
            repeat o_readsAll
            refine ⟨2, 2, rfl, rfl, ?_⟩
            refine ⟨i + 1, x, x, by omega, ?_, rfl, rfl⟩
            have : (0 : Int) ≤ 10 ^ (18 : Int).toNat := by decide
            omega
          · repeat nest_cls
            exact ⟨i + 1, n, x, by omega, hn, rfl, rfl⟩
        · repeat nest_cls
          exact ⟨i, n, last, hi, hn, rfl, rfl⟩
      · repeat nest_cls
        exact ⟨i, n, last, hi, hn, rfl, rfl⟩
    · rintro Γ1 μ1 ⟨i, n, last, hi, hn, rfl, rfl⟩
      refine ts_seq (ts_if ?_)
      repeat o_readsAll
      refine ⟨fun hb => ?_, fun hb => ?_⟩
      · have hb2 := of_decide_eq_true hb
        refine ts_seq (ts_set ?_)
        repeat o_readsAll
        refine ts_seq (ts_item (i := 0) (j := 0) (by with_unfolding_all rfl) (by with_unfolding_all rfl) ?_)
        repeat o_readsAll
        repeat o_readsAll
        refine ⟨2, 2, rfl, rfl, ?_⟩
        refine ts_freeE (i := 0) (l := l) (Ps := drPs a ns i (n / m) k last) (by with_unfolding_all rfl) (List.Perm.refl _) ?_
        refine ts_retB (i := 0) (by with_unfolding_all rfl) ?_
        repeat o_readsAll
        exact ⟨n % m, i, n / m, k, last, Int.emod_nonneg _ (by omega), Int.emod_lt_of_pos _ (by omega), hi, Int.ediv_nonneg hn (by omega), rfl⟩
      · refine ts_next ?_
        refine ts_freeE (i := 0) (l := l) (Ps := drPs a ns i n k last) (by with_unfolding_all rfl) (List.Perm.refl _) ?_
        refine ts_retB (i := 0) (by with_unfolding_all rfl) ?_
        repeat o_readsAll
        refine ⟨_, (by pre_facts), fun r hr => ?_⟩
        repeat o_readsAll
        refine ⟨_, (by pre_facts), fun r2 hr2 => ?_⟩
        repeat o_readsAll
        exact ⟨r2 % m, i, n, k, last, Int.emod_nonneg _ (by omega), Int.emod_lt_of_pos _ (by omega), hi, hn, rfl⟩
end
structure Incr (xs : List Int) (last c : Int) : Prop where
  up : xs.Pairwise (· < ·)
  lo : ∀ x, x ∈ xs → 1 ≤ x
  hi : ∀ x, x ∈ xs → x ≤ last
  l0 : 0 ≤ last
  lc : last ≤ c
theorem Incr.nil {c : Int} (h : 0 ≤ c) : Incr [] 0 c := ⟨List.Pairwise.nil, fun _ h => (nomatch h), fun _ h => (nomatch h), Int.le_refl 0, h⟩
theorem Incr.add {xs : List Int} {last c r c' : Int} (h : Incr xs last c) (h0 : 0 ≤ r) (hc : last + 1 + r ≤ c') : Incr (xs ++ [last + 1 + r]) (last + 1 + r) c' := by
  have hl := h.l0
  refine ⟨?_, fun x hx => ?_, fun x hx => ?_, by omega, hc⟩
  · rw [List.pairwise_append]
    refine ⟨h.up, List.pairwise_singleton _ _, fun a ha b hb => ?_⟩
    rw [List.mem_singleton.mp hb]
    have := h.hi a ha
    omega
  · rcases List.mem_append.mp hx with hx | hx
    · exact h.lo x hx
    · rw [List.mem_singleton.mp hx]
      omega
  · rcases List.mem_append.mp hx with hx | hx
    · have := h.hi x hx
      omega
    · rw [List.mem_singleton.mp hx]
      omega
theorem gi_at {xs : List Int} {i : Int} (h0 : 0 ≤ i) (h : i < xs.length) : gi xs i = xs[i.toNat]'(by omega) := by
  unfold gi
  rw [List.getD_eq_getElem?_getD, List.getElem?_eq_getElem (by omega)]
  rfl
theorem tar_ok {rs ws : List Int} {l1 l2 : Int} (hn : 1 ≤ rs.length) (h4 : rs.length ≤ 4) (hw : ws.length = rs.length) (a : Incr rs l1 100000) (b : Incr ws l2 100000) : Tar.Ok ⟨rs.reverse, 0 :: ws⟩ where
  len := by simp [hw]
  pos := by simpa using hn
  le := by simpa using h4
  rb := fun i h0 h1 => by
    have hm := gi_mem (ns := rs.reverse) h0 h1
    have hm2 := List.mem_reverse.mp hm
    have h2 := a.lo _ hm2
    have h3 := a.hi _ hm2
    have h4 := a.lc
    show 1 ≤ gi rs.reverse i ∧ gi rs.reverse i ≤ 100000
    exact ⟨h2, by omega⟩
  wb := fun i h0 h1 => by
    have hm := gi_mem (ns := 0 :: ws) h0 h1
    show 0 ≤ gi (0 :: ws) i ∧ gi (0 :: ws) i ≤ 100000
    rcases List.mem_cons.mp hm with e | hm2
    · rw [e]
      exact ⟨Int.le_refl _, by decide⟩
    · have h2 := b.lo _ hm2
      have h3 := b.hi _ hm2
      have h4 := b.lc
      exact ⟨by omega, by omega⟩
  w0 := rfl
  rd := fun i j h0 h1 h2 => by
    have h2' : j < rs.length := by simpa using h2
    rw [gi_at (by omega) h2, gi_at h0 (by omega)]
    rw [List.getElem_reverse, List.getElem_reverse]
    exact List.pairwise_iff_getElem.mp a.up _ _ _ _ (by omega)
  wa := fun i j h0 h1 h2 => by
    rw [gi_at (by omega) h2, gi_at h0 (by omega)]
    have hp : (0 :: ws).Pairwise (· < ·) := List.pairwise_cons.mpr ⟨fun x hx => by have := b.lo x hx; omega, b.up⟩
    exact List.pairwise_iff_getElem.mp hp _ _ _ _ (by omega)
section
variable {P : Program} {w : World} {K : PySem.W.Frag} {mg : Str → Option Value} {base : Heap}

abbrev nLprice : List Str := ["_law_d", "_law_high"]
theorem scLprice : FnScope nLprice ["_law_d", "_law_high"] (defScope sLprice) := ⟨rfl, rfl, rfl, by decide +kernel, rfl, by decide +kernel, by decide +kernel⟩
theorem ok_law_price (C : Ctx K mg) (g_law_draw : OkLdraw P w K mg base) : OkLprice P w K mg base := by
  have sc := scLprice
  refine C.fn (i := 40) rfl rfl sc (fun _ _ _ _ _ _ us hl => match us, hl with | [_, _], _ => rfl) (len_spD ?len) fun cdv A outer s H vs Q E hr h => ⟨_, (pss_one (ps_ret (pe_ifExp (pt_val (pv 1)) (pe_ix ix_seq (pe_lst (pa_cons pe_int (pa_cons pe_int (pa_cons pe_int (pa_cons pe_int (pa_cons (pe_op op_add pe_int (pe_fn g_law_draw (hr.mono (by decide)) rfl (pa_cons (pv 0) (pa_cons pe_int pa_nil)))) (pa_cons (pe_op op_add pe_int (pe_fn g_law_draw (hr.mono (by decide)) rfl (pa_cons (pv 0) (pa_cons pe_int pa_nil)))) pa_nil))))))) (pe_fn g_law_draw (hr.mono (by decide)) rfl (pa_cons (pv 0) (pa_cons pe_int pa_nil))) (fun _ _ => rfl)) (pe_op op_add pe_int (pe_fn g_law_draw (hr.mono (by decide)) rfl (pa_cons (pv 0) (pa_cons pe_int pa_nil))))))), run_spD h ?body⟩
  case len => exact fun A S ⟨b, hA, hS⟩ => ⟨_, hA, rfl⟩
  case body =>
    refine fun A S ⟨b, hA, hS⟩ => ⟨_, hA, fun F dl hF => ?_⟩
    show TSv F [.dv, .bo _] [] _ _
    try simp only [cx_K, cx_K2]
    repeat nest_cls
    refine ⟨fun hb => ?_, fun hb => ?_⟩
    · repeat nest_cls
      refine ⟨_, (by pre_facts), by omega, by omega, fun r1 h1 h2 => ?_⟩
      repeat nest_cls
      refine ⟨_, (by pre_facts), by omega, by omega, fun r2 h3 h4 => ?_⟩
      repeat nest_cls
      refine ⟨([1, 1, 2, 100, 1 + r1, 1 + r2] : List Int).map vI, ⟨rfl, rfl, rfl, rfl, rfl, rfl, trivial⟩, by show 6 ≤ 100000; decide, ?_⟩
      repeat nest_cls
      refine ⟨_, (by pre_facts), by omega, by omega, fun r3 h5 h6 => ?_⟩
      repeat nest_cls
      have hl : r3 < (([1, 1, 2, 100, 1 + r1, 1 + r2] : List Int).length : Int) := h6
      have hm := gi_mem (ns := [1, 1, 2, 100, 1 + r1, 1 + r2]) h5 hl
      refine hS _ ?_ ?_
      · simp only [List.mem_cons, List.not_mem_nil, or_false] at hm
        omega
      · simp only [List.mem_cons, List.not_mem_nil, or_false] at hm
        omega
    · repeat nest_cls
      refine ⟨_, (by pre_facts), by omega, by omega, fun r1 h1 h2 => ?_⟩
      repeat nest_cls
      exact hS _ (by omega) (by omega)
abbrev nLtariff : List Str := ["_law_d", "_law_many", "_law_small", "_law_rates", "_law_wakes", "_law_last", "_law_k"]
theorem scLtariff : FnScope nLtariff ["_law_d"] (defScope sLtariff) := ⟨rfl, rfl, rfl, by decide +kernel, rfl, by decide +kernel, by decide +kernel⟩
theorem ok_law_tariff (C : Ctx K mg) (g_law_draw : OkLdraw P w K mg base) : OkLtariff P w K mg base := by
  have sc := scLtariff
  refine C.fn (i := 37) rfl rfl sc (fun _ _ _ _ _ _ us hl => match us, hl with | [_], _ => rfl) (len_spD ?len) fun cdv A outer s H vs Q E hr h => ⟨_, (pss_cons (ps_set (i := 1) sc.nd rfl (Or.inl rfl) (pe_op op_add pe_int (pe_fn g_law_draw (hr.mono (by decide)) rfl (pa_cons (pv 0) (pa_cons pe_int pa_nil))))) (pss_cons (ps_set (i := 2) sc.nd rfl (Or.inl rfl) (pe_cmpR op_gt (pe_fn g_law_draw (hr.mono (by decide)) rfl (pa_cons (pv 0) (pa_cons pe_int pa_nil))) pe_int (nomark _))) (pss_cons (ps_set (i := 3) sc.nd rfl (Or.inl rfl) (pe_lst pa_nil)) (pss_cons (ps_set (i := 4) sc.nd rfl (Or.inl rfl) (pe_lst (pa_cons pe_int pa_nil))) (pss_cons (ps_set (i := 5) sc.nd rfl (Or.inl rfl) pe_int) (pss_cons (ps_for PassesOwn.never rfl (pi_range1 rfl (C.f 73) (pa_cons (pv 1) pa_nil)) (pg_name (i := 6) sc.nd rfl (Or.inl rfl)) (pss_cons (ps_set (i := 5) sc.nd rfl (Or.inl rfl) (pe_op op_add (pe_op op_add (pv 5) pe_int) (pe_fn g_law_draw (hr.mono (by decide)) rfl (pa_cons (pv 0) (pa_cons (pe_ifExp (pt_val (pv 2)) pe_int (pe_op op_fdivN pe_int (pv 1))) pa_nil))))) (pss_one (ps_expr (pe_bm PySem.F.plainAttrs_list PySem.F.slot_list_append PySem.F.type_list_append mt_append (pv 3) (pa_cons (pv 5) pa_nil)))))) (pss_cons (ps_set (i := 5) sc.nd rfl (Or.inl rfl) pe_int) (pss_cons (ps_for PassesOwn.never rfl (pi_range1 rfl (C.f 73) (pa_cons (pv 1) pa_nil)) (pg_name (i := 6) sc.nd rfl (Or.inl rfl)) (pss_cons (ps_set (i := 5) sc.nd rfl (Or.inl rfl) (pe_op op_add (pe_op op_add (pv 5) pe_int) (pe_fn g_law_draw (hr.mono (by decide)) rfl (pa_cons (pv 0) (pa_cons (pe_ifExp (pt_val (pv 2)) pe_int (pe_op op_fdivN pe_int (pv 1))) pa_nil))))) (pss_one (ps_expr (pe_bm PySem.F.plainAttrs_list PySem.F.slot_list_append PySem.F.type_list_append mt_append (pv 4) (pa_cons (pv 5) pa_nil)))))) (pss_one (ps_ret (pe_tup (pa_cons (pe_callTy call_tuple_of (by rfl) (C.f 77) (by decide +kernel) (pa_cons (pe_revL (pv 3)) pa_nil)) (pa_cons (pe_callTy call_tuple_of (by rfl) (C.f 77) (by decide +kernel) (pa_cons (pv 4) pa_nil)) pa_nil))))))))))))), run_spD h ?body⟩
  case len => exact fun A S ⟨hA, hS⟩ => ⟨_, hA, rfl⟩
  case body =>
    refine fun A S ⟨hA, hS⟩ => ⟨_, hA, fun F dl hF => ?_⟩
    show TSv F [.dv, .no, .no, .no, .no, .no, .no] [] _ _
    try simp only [cx_K, cx_K2]
    repeat nest_cls
    refine ⟨_, (by pre_facts), by omega, by omega, fun r1 h1 h2 => ?_⟩
    repeat o_readsAll
    refine ts_seq (ts_set ?_)
    repeat o_readsAll
    refine ⟨_, (by pre_facts), by omega, by omega, fun r2 h3 h4 => ?_⟩
    repeat o_readsAll
    generalize hsm : decide (0 < r2) = sm
    refine ts_seq (ts_setN ?_)
    repeat o_readsAll
    intro lr
    refine ts_seq (ts_setN ?_)
    repeat o_readsAll
    intro lw
    refine ts_seq (ts_set ?_)
    repeat o_readsAll
    have hdiv : 2500 ≤ 10000 / (1 + r1) ∧ 10000 / (1 + r1) ≤ 10000 := by
      have : r1 = 0 ∨ r1 = 1 ∨ r1 = 2 ∨ r1 = 3 := by omega
      rcases this with rfl | rfl | rfl | rfl <;> decide
    refine ts_seq (ts_forR1 ?_)
    repeat o_readsAll
    refine ⟨by omega, by omega, fun k Γ1 μ1 => ∃ rs last e6, rs.length = k ∧ Incr rs last (k * 20000) ∧ Γ1 = [.dv, .rp (vI (1 + r1)), .rp (vB sm), .ow lr, .ow lw, .rp (vI last), e6] ∧ μ1 = [(lw, obL [vI 0]), (lr, obL (rs.map vI))], ⟨[], 0, _, rfl, Incr.nil (by omega), rfl, rfl⟩, ?_, ?_⟩
    · rintro k Γ1 μ1 hk ⟨rs, last, e6, hl, hi, rfl, rfl⟩
      refine tg_name ?_
      refine ts_seq (ts_set ?_)
      repeat o_readsAll
      refine ⟨fun hb => ?_, fun hb => ?_⟩
      · repeat o_readsAll
        refine ⟨_, (by pre_facts), by omega, by omega, fun r h5 h6 => ?_⟩
        repeat o_readsAll
        refine ts_app (i := 3) (j := 1) (by with_unfolding_all rfl) (by with_unfolding_all rfl) (by rw [List.length_map]; omega) ?_
        repeat o_readsAll
        refine ⟨rs ++ [last + 1 + r], last + 1 + r, _, by rw [List.length_append, hl]; rfl, hi.add h5 (by have := hi.lc; push_cast; omega), rfl, ?_⟩
        rw [List.map_append]
        rfl
      · repeat o_readsAll
        refine ⟨_, (by pre_facts), by omega, by omega, fun r h5 h6 => ?_⟩
        repeat o_readsAll
        refine ts_app (i := 3) (j := 1) (by with_unfolding_all rfl) (by with_unfolding_all rfl) (by rw [List.length_map]; omega) ?_
        repeat o_readsAll
        refine ⟨rs ++ [last + 1 + r], last + 1 + r, _, by rw [List.length_append, hl]; rfl, hi.add h5 (by have := hi.lc; push_cast; omega), rfl, ?_⟩
        rw [List.map_append]
        rfl
    · rintro Γ1 μ1 ⟨rs, last, e6, hl, hi, rfl, rfl⟩
      refine ts_seq (ts_set ?_)
      repeat o_readsAll
      refine ts_seq (ts_forR1 ?_)
      repeat o_readsAll
      refine ⟨by omega, by omega, fun k Γ1 μ1 => ∃ ws last e6, ws.length = k ∧ Incr ws last (k * 20000) ∧ Γ1 = [.dv, .rp (vI (1 + r1)), .rp (vB sm), .ow lr, .ow lw, .rp (vI last), e6] ∧ μ1 = [(lw, obL ((0 :: ws).map vI)), (lr, obL (rs.map vI))], ⟨[], 0, _, rfl, Incr.nil (by omega), rfl, rfl⟩, ?_, ?_⟩
      · rintro k Γ1 μ1 hk ⟨ws, last, e6, hwl, hwi, rfl, rfl⟩
        refine tg_name ?_
        refine ts_seq (ts_set ?_)
        repeat o_readsAll
        refine ⟨fun hb => ?_, fun hb => ?_⟩
        · repeat o_readsAll
          refine ⟨_, (by pre_facts), by omega, by omega, fun r h5 h6 => ?_⟩
          repeat o_readsAll
          refine ts_app (i := 4) (j := 0) (by with_unfolding_all rfl) (by with_unfolding_all rfl) (by rw [List.length_map, List.length_cons]; omega) ?_
          repeat o_readsAll
          refine ⟨ws ++ [last + 1 + r], last + 1 + r, _, by rw [List.length_append, hwl]; rfl, hwi.add h5 (by have := hwi.lc; push_cast; omega), rfl, ?_⟩
          show [(lw, obL ((0 :: ws).map vI ++ [vI (last + 1 + r)])), _] = [(lw, obL ((0 :: (ws ++ [last + 1 + r])).map vI)), _]
          rw [← List.cons_append, List.map_append]
          rfl
        · repeat o_readsAll
          refine ⟨_, (by pre_facts), by omega, by omega, fun r h5 h6 => ?_⟩
          repeat o_readsAll
          refine ts_app (i := 4) (j := 0) (by with_unfolding_all rfl) (by with_unfolding_all rfl) (by rw [List.length_map, List.length_cons]; omega) ?_
          repeat o_readsAll
          refine ⟨ws ++ [last + 1 + r], last + 1 + r, _, by rw [List.length_append, hwl]; rfl, hwi.add h5 (by have := hwi.lc; push_cast; omega), rfl, ?_⟩
          show [(lw, obL ((0 :: ws).map vI ++ [vI (last + 1 + r)])), _] = [(lw, obL ((0 :: (ws ++ [last + 1 + r])).map vI)), _]
          rw [← List.cons_append, List.map_append]
          rfl
      · rintro Γ1 μ1 ⟨ws, wl, e6, hwl, hwi, rfl, rfl⟩
        show TSv F _ _ _ _
        refine ts_ret ?_
        repeat o_readsAll
        refine te_new (tn_rev ?_)
        repeat o_readsAll
        refine ⟨_, rs, sl_o (j := 1) (by with_unfolding_all rfl), ?_⟩
        repeat o_readsAll
        refine hS ⟨rs.reverse, 0 :: ws⟩ (tar_ok (by omega) (by omega) (by omega) ⟨hi.up, hi.lo, hi.hi, hi.l0, ?_⟩ ⟨hwi.up, hwi.lo, hwi.hi, hwi.l0, ?_⟩)
        · have := hi.lc
          omega
        · have := hwi.lc
          omega
end
theorem ints3_canlay : ∀ ns : List Int, PyData.canLayAll0 (ns.map PyData.int) = true
  | [] => rfl
  | n :: r => by
    have := ints3_canlay r
    simp [PyData.canLayAll0, PyData.canLay0, this]
theorem ints3_depth : ∀ ns : List Int, PyData.depthAll (ns.map PyData.int) = 0
  | [] => rfl
  | n :: r => by
    have := ints3_depth r
    simp [PyData.depthAll, PyData.depth, this]
theorem ints3_shaped (ns : List Int) : SeqAt.shaped (.list (ns.map PyData.int)) = true := by
  simp [SeqAt.shaped, PyData.canLay0, PyData.depth, ints3_canlay, ints3_depth]
section
variable {P : Program} {w : World} {K : PySem.W.Frag} {mg : Str → Option Value} {base : Heap}

abbrev nLrun : List Str := ["_law_d", "_law_moments", "_law_most", "_law_many", "_law_high", "_law_prices", "_law_needs", "_law_k", "_law_breaks", "_law_choice"]
theorem scLrun : FnScope nLrun ["_law_d", "_law_moments", "_law_most"] (defScope sLrun) := ⟨rfl, rfl, rfl, by decide +kernel, rfl, by decide +kernel, by decide +kernel⟩
theorem ok_law_run (C : Ctx K mg) (g_law_draw : OkLdraw P w K mg base) (g_law_price : OkLprice P w K mg base) : OkLrun P w K mg base := by
  have sc := scLrun
  refine C.fn (i := 41) rfl rfl sc (fun _ _ _ _ _ _ us hl => match us, hl with | [_, _, _], _ => rfl) (len_spD ?len) fun cdv A outer s H vs Q E hr h => ⟨_, (pss_cons (ps_set (i := 3) sc.nd rfl (Or.inl rfl) (pe_fn g_law_draw (hr.mono (by decide)) rfl (pa_cons (pv 0) (pa_cons (pe_op op_add (pv 1) pe_int) pa_nil)))) (pss_cons (ps_set (i := 4) sc.nd rfl (Or.inr rfl) (pe_cmpR op_eq (pe_fn g_law_draw (hr.mono (by decide)) rfl (pa_cons (pv 0) (pa_cons pe_int pa_nil))) pe_int (nomark _))) (pss_cons (ps_setLc (i := 5) (own := [("_law_k", 7)]) rfl sc.nd rfl rfl (sw_true rfl rfl rfl (by decide +kernel)) (pi_range1 rfl (C.f 73) (pa_cons (pv 3) pa_nil)) (blkOk_by (own := [("_law_k", 7)]) (N := nLrun) (sc := defScope sLrun) (by decide +kernel)) (fun _ _ _ _ _ => pg_name (i := 7) sc.nd rfl (Or.inl rfl)) (fun _ _ _ _ _ => pts_nil) (fun _ _ _ _ _ => (pe_fn g_law_price (hr.mono (by decide)) rfl (pa_cons (pv 0) (pa_cons (pv 4) pa_nil))))) (pss_cons (ps_set (i := 6) sc.nd rfl (Or.inl rfl) (pe_lst pa_nil)) (pss_cons (ps_for PassesOwn.never rfl (pi_range1 rfl (C.f 73) (pa_cons (pv 3) pa_nil)) (pg_name (i := 7) sc.nd rfl (Or.inl rfl)) (pss_cons (ps_set (i := 9) sc.nd rfl (Or.inl rfl) (pe_fn g_law_draw (hr.mono (by decide)) rfl (pa_cons (pv 0) (pa_cons pe_int pa_nil)))) (pss_one (ps_if (pt_cmpR op_eq (pv 9) pe_int (nomark _)) (pss_one (ps_expr (pe_bm PySem.F.plainAttrs_list PySem.F.slot_list_append PySem.F.type_list_append mt_append (pv 6) (pa_cons (pe_fn g_law_draw (hr.mono (by decide)) rfl (pa_cons (pv 0) (pa_cons (pe_op op_add (pv 2) pe_int) pa_nil))) pa_nil)))) (pss_one (ps_if (PW.pt (pw_and (pt_cmpR op_eq (pv 9) pe_int (nomark _)) (pw_and1 (pt_cmpR (op_neD hr.units) (pv 6) (pe_lst pa_nil) (nomark _))))) (pss_one (ps_expr (pe_bm PySem.F.plainAttrs_list PySem.F.slot_list_append PySem.F.type_list_append mt_append (pv 6) (pa_cons (pe_ix ix_seq (pv 6) (pe_un un_neg pe_int) (fun _ _ => rfl)) pa_nil)))) (pss_one (ps_expr (pe_bm PySem.F.plainAttrs_list PySem.F.slot_list_append PySem.F.type_list_append mt_append (pv 6) (pa_cons pe_int pa_nil)))))))))) (pss_cons (ps_setLc (i := 8) (own := [("_law_k", 7)]) rfl sc.nd rfl rfl (sw_true rfl rfl rfl (by decide +kernel)) (pi_range1 rfl (C.f 73) (pa_cons (pv 3) pa_nil)) (blkOk_by (own := [("_law_k", 7)]) (N := nLrun) (sc := defScope sLrun) (by decide +kernel)) (fun _ _ _ _ _ => pg_name (i := 7) sc.nd rfl (Or.inl rfl)) (fun _ _ _ _ _ => pts_one (pt_cmpR op_eq (pe_fn g_law_draw (hr.mono (by decide)) rfl (pa_cons (pv 0) (pa_cons pe_int pa_nil))) pe_int (nomark _))) (fun _ _ _ _ _ => (pv 7))) (pss_one (ps_ret (pe_tup (pa_cons (pv 5) (pa_cons (pv 6) (pa_cons (pv 8) pa_nil)))))))))))), run_spD h ?body⟩
  case len => exact fun A S ⟨hA, hS⟩ => ⟨_, hA, rfl⟩
  case body =>
    refine fun A S ⟨hA, hS⟩ => ⟨_, hA, fun F dl hF => ?_⟩
    show TSv F [.dv, .bo _, .bo _, .no, .no, .no, .no, .no, .no, .no] [] _ _
    try simp only [cx_K, cx_K2]
    repeat nest_cls
    refine ⟨_, (by pre_facts), by omega, by omega, fun many h1 h2 => ?_⟩
    repeat o_readsAll
    refine ts_seq (ts_set ?_)
    repeat o_readsAll
    refine ⟨_, (by pre_facts), by omega, by omega, fun r2 h3 h4 => ?_⟩
    repeat o_readsAll
    generalize hsm : decide (r2 = 0) = hg
    refine ts_seq (ts_set (te_new (tn_lcR1 ?_)))
    repeat o_readsAll
    refine ⟨by omega, by omega, fun n acc => ∃ xs : List Int, acc = xs.map vI ∧ xs.length = n ∧ ∀ x, x ∈ xs → 1 ≤ x ∧ x ≤ 1000, ⟨[], rfl, rfl, fun x hx => (nomatch hx)⟩, ?_, ?_⟩
    · rintro n acc hn ⟨xs, rfl, hxl, hx⟩ L
      refine tt_yes ⟨fun _ => ?_, fun z => (nomatch z)⟩
      repeat o_readsAll
      refine ⟨_, (by pre_facts), fun p hp1 hp2 => ?_⟩
      repeat o_readsAll
      refine ⟨xs ++ [p], by rw [List.map_append]; rfl, by rw [List.length_append, hxl]; rfl, fun x hx2 => ?_⟩
      rcases List.mem_append.mp hx2 with h | h
      · exact hx x h
      · rw [List.mem_singleton.mp h]
        omega
    rintro acc ⟨ps, rfl, hpl, hps⟩
    refine ts_seq (ts_setN ?_)
    repeat o_readsAll
    intro ln
    refine ts_seq (ts_forR1 ?_)
    repeat o_readsAll
    refine ⟨by omega, by omega, fun k Γ1 μ1 => ∃ ns e7 e9, ns.length = k ∧ (∀ x, x ∈ ns → 0 ≤ x ∧ x ≤ 3) ∧ Γ1 = [.dv, .bo (vI 10), .bo (vI 3), .rp (vI many), .rp (vB hg), .rp (LS (ps.map vI)), .ow ln, e7, .no, e9] ∧ μ1 = [(ln, obL (ns.map vI))], ⟨[], _, _, rfl, fun x hx => (nomatch hx), rfl, rfl⟩, ?_, ?_⟩
    · rintro k Γ1 μ1 hk ⟨ns, e7, e9, hnl, hns, rfl, rfl⟩
      refine tg_name ?_
      refine ts_seq (ts_set ?_)
      repeat o_readsAll
      refine ⟨_, (by pre_facts), by omega, by omega, fun ch h5 h6 => ?_⟩
      have fin : ∀ x : Int, 0 ≤ x → x ≤ 3 → ∃ (ns' : List Int) (e7 e9 : En), ns'.length = k + 1 ∧ (∀ x, x ∈ ns' → 0 ≤ x ∧ x ≤ 3) ∧ [En.dv, .bo (vI 10), .bo (vI 3), .rp (vI many), .rp (vB hg), .rp (LS (ps.map vI)), .ow ln, .rp (vI k), .no, .rp (vI ch)] = [En.dv, .bo (vI 10), .bo (vI 3), .rp (vI many), .rp (vB hg), .rp (LS (ps.map vI)), .ow ln, e7, .no, e9] ∧ [(ln, obL (ns.map vI ++ [vI x]))] = [(ln, obL (ns'.map vI))] := fun x h0 h1 => by
        refine ⟨ns ++ [x], _, _, by rw [List.length_append, hnl]; rfl, fun y hy => ?_, rfl, by rw [List.map_append]; rfl⟩
        rcases List.mem_append.mp hy with h | h
        · exact hns y h
        · rw [List.mem_singleton.mp h]
          omega
      refine ts_if ?_
      repeat o_readsAll
      refine ⟨fun hb => ?_, fun hb => ?_⟩
      · refine ts_app (i := 6) (j := 0) (by with_unfolding_all rfl) (by with_unfolding_all rfl) (by rw [List.length_map]; omega) ?_
        repeat o_readsAll
        refine ⟨_, (by pre_facts), by omega, by omega, fun r h7 h8 => ?_⟩
        repeat o_readsAll
        exact fin r h7 (by omega)
      · refine ts_if ?_
        repeat o_readsAll
        refine ⟨fun hc => ?_, fun hc => ?_⟩
        · repeat o_readsAll
          refine rop_neD (d := .list (ns.map PyData.int)) (e := .list []) (dr_o (j := 0) (by with_unfolding_all rfl) (dp_ints ns)) (dr_z (dp_ls trivial)) (ints3_shaped ns) (by decide) ?_
          repeat o_readsAll
          refine ⟨fun hd => ?_, fun hd => ?_⟩
          · have hne : ns ≠ [] := fun z => by rw [z] at hd; revert hd; decide
            have hpos : 0 < ns.length := List.length_pos_iff.mpr hne
            refine ts_app (i := 6) (j := 0) (by with_unfolding_all rfl) (by with_unfolding_all rfl) (by rw [List.length_map]; omega) ?_
            repeat o_readsAll
            refine rop_ixE (l := .z) (SqLs.q sl_o0) (at_giL hpos) ?_
            have := hns _ (gi_mem (ns := ns) (i := (ns.length : Int) - 1) (by omega) (by omega))
            repeat o_readsAll
            exact fin _ this.1 this.2
          · show TSv F _ [(ln, obL (ns.map vI))] _ _
            refine ts_app (i := 6) (j := 0) (by with_unfolding_all rfl) (by with_unfolding_all rfl) (by rw [List.length_map]; omega) ?_
            repeat o_readsAll
            exact fin 0 (by decide) (by decide)
        · refine ⟨fun z => (nomatch z), fun _ => ?_⟩
          refine ts_app (i := 6) (j := 0) (by with_unfolding_all rfl) (by with_unfolding_all rfl) (by rw [List.length_map]; omega) ?_
          repeat o_readsAll
          exact fin 0 (by decide) (by decide)
    · rintro Γ1 μ1 ⟨ns, e7, e9, hnl, hns, rfl, rfl⟩
      refine ts_free (i := 6) (by with_unfolding_all rfl) (List.Perm.refl _) ?_
      refine ts_seq (ts_set (te_new (tn_lcR1 ?_)))
      repeat o_readsAll
      refine ⟨by omega, by omega, fun n acc => ∃ xs : List Int, acc = xs.map vI ∧ xs.length ≤ n ∧ ∀ x, x ∈ xs → 0 ≤ x ∧ x ≤ 10, ⟨[], rfl, Nat.le_refl _, fun _ z => (nomatch z)⟩, ?_, ?_⟩
      · rintro n acc hn ⟨xs, rfl, hxl, hxb⟩ L
        refine tt_test ?_
        repeat o_readsAll
        refine ⟨_, (by pre_facts), by omega, by omega, fun r h7 h8 => ?_⟩
        repeat o_readsAll
        refine ⟨fun hb => ?_, fun hb => ?_⟩
        · repeat o_readsAll
          refine ⟨xs ++ [(n : Int)], by rw [List.map_append]; rfl, by rw [List.length_append]; simp; omega, fun x hx => ?_⟩
          rcases List.mem_append.mp hx with h | h
          · exact hxb x h
          · rw [List.mem_singleton.mp h]
            omega
        · exact ⟨xs, rfl, by omega, hxb⟩
      · rintro acc ⟨br, rfl, hbl, hbb⟩
        show TSv F _ _ _ _
        refine ts_ret ?_
        repeat o_readsAll
        refine hS ps ns br ⟨⟨by omega, by omega, fun i h0 h1 => ?_, fun i h0 h1 => ?_, by omega⟩, by omega, fun n hn => (hns n hn).2, by omega, hbb⟩
        · have := hps _ (gi_mem h0 h1)
          omega
        · have := hns _ (gi_mem h0 h1)
          omega
end
section
variable {P : Program} {w : World} {K : PySem.W.Frag} {mg : Str → Option Value} {base : Heap}

abbrev nLanyrow : List Str := ["_law_d", "_law_tariff_here", "_law_prices", "_law_breaks", "_law_wanted", "_law_row", "_law_k", "_law_before_here"]
theorem scLanyrow : FnScope nLanyrow ["_law_d", "_law_tariff_here", "_law_prices", "_law_breaks", "_law_wanted"] (defScope sLanyrow) := ⟨rfl, rfl, rfl, by decide +kernel, rfl, by decide +kernel, by decide +kernel⟩
theorem ok_law_any_row (C : Ctx K mg) (g_law_before : OkLbefore P w K mg base) (g_law_draw : OkLdraw P w K mg base) : OkLanyrow P w K mg base := by
  have sc := scLanyrow
  refine C.fn (i := 45) rfl rfl sc (fun _ _ _ _ _ _ us hl => match us, hl with | [_, _, _, _, _], _ => rfl) (len_spD ?len) fun cdv A outer s H vs Q E hr h => ⟨_, (pss_cons (ps_set (i := 5) sc.nd rfl (Or.inl rfl) (pe_lst pa_nil)) (pss_cons (ps_for PassesOwn.never rfl (pi_range1 rfl (C.f 73) (pa_cons (pe_callB call_len_seq (by rfl) (C.f 69) PySem.boot_len (pa_cons (pv 2) pa_nil)) pa_nil)) (pg_name (i := 6) sc.nd rfl (Or.inl rfl)) (pss_cons (ps_set (i := 7) sc.nd rfl (Or.inl rfl) (pe_fn g_law_before (hr.mono (by decide)) rfl (pa_cons (pv 1) (pa_cons (pv 3) (pa_cons (pv 5) (pa_cons (pv 6) pa_nil)))))) (pss_one (ps_if (pt_val (pe_ix ix_seq (pv 4) (pv 6) (fun _ _ => rfl))) (pss_one (ps_expr (pe_bm PySem.F.plainAttrs_list PySem.F.slot_list_append PySem.F.type_list_append mt_append (pv 5) (pa_cons pe_int pa_nil)))) (pss_one (ps_if (pt_cmpR op_eq (pe_fn g_law_draw (hr.mono (by decide)) rfl (pa_cons (pv 0) (pa_cons pe_int pa_nil))) pe_int (nomark _)) (pss_one (ps_expr (pe_bm PySem.F.plainAttrs_list PySem.F.slot_list_append PySem.F.type_list_append mt_append (pv 5) (pa_cons pe_int pa_nil)))) (pss_one (ps_expr (pe_bm PySem.F.plainAttrs_list PySem.F.slot_list_append PySem.F.type_list_append mt_append (pv 5) (pa_cons (pe_op op_add (pv 7) (pe_op op_mul (pe_fn g_law_draw (hr.mono (by decide)) rfl (pa_cons (pv 0) (pa_cons (pe_op op_sub (pe_op op_add (pe_callB call_len_seq (by rfl) (C.f 69) PySem.boot_len (pa_cons (pe_ix ix_seq (pv 1) pe_int (fun _ _ => rfl)) pa_nil)) pe_int) (pv 7)) pa_nil))) (pe_fn g_law_draw (hr.mono (by decide)) rfl (pa_cons (pv 0) (pa_cons pe_int pa_nil))))) pa_nil)))))))))) (pss_one (ps_ret (pv 5))))), run_spD h ?body⟩
  case len => exact fun A S ⟨T, ps, br, bs, hA, ok, hbl, hpl, hS⟩ => ⟨_, hA, rfl⟩
  case body =>
    refine fun A S ⟨T, ps, br, bs, hA, ok, hbl, hpl, hS⟩ => ⟨_, hA, fun F dl hF => ?_⟩
    show TSv F [.dv, .bo _, .bo _, .bo _, .bo _, .no, .no, .no] [] _ _
    try simp only [cx_K, cx_K2]
    have hle := ok.le
    have hpos := ok.pos
    refine ts_seq (ts_setN ?_)
    repeat o_readsAll
    intro l
    refine ts_seq (ts_forR1 ?_)
    repeat o_readsAll
    refine ⟨by omega, by omega, fun k Γ1 μ1 => ∃ (row : List Int) (e6 e7 : En), row.length = k ∧ (∀ x, x ∈ row → 0 ≤ x ∧ x ≤ (T.rates.length : Int)) ∧ Γ1 = [.dv, .bo (TF K T), .bo (IL ps), .bo (IL br), .bo (LS (bs.map vB)), .ow l, e6, e7] ∧ μ1 = [(l, obL (row.map vI))], ⟨[], _, _, rfl, fun x hx => (nomatch hx), rfl, rfl⟩, ?_, ?_⟩
    · rintro k Γ1 μ1 hk ⟨row, e6, e7, hl, hr, rfl, rfl⟩
      refine tg_name ?_
      refine ts_seq (ts_set ?_)
      repeat o_readsAll
      refine ⟨T, br, row, k, ⟨cv_b Rp.Le.rfl, cv_b Rp.Le.rfl, cv_o0, cv_z Rp.Le.rfl, trivial⟩, by omega, by omega, ?_⟩
      have hbr := bef_range (T := T) (br := br) (row := row) (k := k) fun j hj => hr _ (gi_mem (by omega) (by omega))
      generalize bef T br row k = b at hbr ⊢
      have fin : ∀ x : Int, 0 ≤ x → x ≤ (T.rates.length : Int) → ∃ (row' : List Int) (e6 e7 : En), row'.length = k + 1 ∧ (∀ x, x ∈ row' → 0 ≤ x ∧ x ≤ (T.rates.length : Int)) ∧ [En.dv, .bo (TF K T), .bo (IL ps), .bo (IL br), .bo (LS (bs.map vB)), .ow l, .rp (vI k), .rp (vI b)] = [.dv, .bo (TF K T), .bo (IL ps), .bo (IL br), .bo (LS (bs.map vB)), .ow l, e6, e7] ∧ [(l, obL (row.map vI ++ [vI x]))] = [(l, obL (row'.map vI))] := fun x h0 h1 => by
        refine ⟨row ++ [x], _, _, by rw [List.length_append, hl]; rfl, fun y hy => ?_, rfl, by rw [List.map_append]; rfl⟩
        rcases List.mem_append.mp hy with h | h
        · exact hr y h
        · rw [List.mem_singleton.mp h]
          omega
      refine ts_if ?_
      repeat o_readsAll
      refine rop_ixE (SqLs.q sl_b) (at_gb (i := k) (by omega) (by omega)) ?_
      repeat o_readsAll
      refine ⟨fun hb => ?_, fun hb => ?_⟩
      · refine ts_app (i := 5) (j := 0) (by with_unfolding_all rfl) (by with_unfolding_all rfl) (by rw [List.length_map]; omega) ?_
        repeat o_readsAll
        exact fin 0 (by omega) (by omega)
      · refine ts_if ?_
        repeat o_readsAll
        refine ⟨_, (by pre_facts), by omega, by omega, fun r h5 h6 => ?_⟩
        repeat o_readsAll
        refine ⟨fun hc => ?_, fun hc => ?_⟩
        · refine ts_app (i := 5) (j := 0) (by with_unfolding_all rfl) (by with_unfolding_all rfl) (by rw [List.length_map]; omega) ?_
          repeat o_readsAll
          exact fin 0 (by omega) (by omega)
        · refine ts_app (i := 5) (j := 0) (by with_unfolding_all rfl) (by with_unfolding_all rfl) (by rw [List.length_map]; omega) ?_
          repeat o_readsAll
          refine ⟨_, (by pre_facts), by omega, by omega, fun r1 h7 h8 => ?_⟩
          repeat o_readsAll
          refine ⟨_, (by pre_facts), by omega, by omega, fun r2 h9 h10 => ?_⟩
          repeat o_readsAll
          have h11 : r2 = 0 ∨ r2 = 1 := by omega
          rcases h11 with rfl | rfl
          · exact fin _ (by omega) (by omega)
          · exact fin _ (by omega) (by omega)
    · rintro Γ1 μ1 ⟨row, e6, e7, hl, hr, rfl, rfl⟩
      show TSv F _ _ _ _
      refine ts_retO (i := 5) (j := 0) (by with_unfolding_all rfl) (by with_unfolding_all rfl) ?_
      refine hS row ⟨by omega, fun x hx => ?_⟩ (by omega)
      have := hr x hx
      omega
abbrev nLanyplan : List Str := ["_law_d", "_law_tariff_here", "_law_prices", "_law_needs", "_law_breaks", "_law_plan", "_law_lanes", "_law_turn", "_law_lane", "_law_wanted", "_law_k", "_law_place"]
theorem scLanyplan : FnScope nLanyplan ["_law_d", "_law_tariff_here", "_law_prices", "_law_needs", "_law_breaks"] (defScope sLanyplan) := ⟨rfl, rfl, rfl, by decide +kernel, rfl, by decide +kernel, by decide +kernel⟩
theorem ok_law_any_plan (C : Ctx K mg) (g_law_draw : OkLdraw P w K mg base) (g_law_any_row : OkLanyrow P w K mg base) : OkLanyplan P w K mg base := by
  have sc := scLanyplan
  refine C.fn (i := 46) rfl rfl sc (fun _ _ _ _ _ _ us hl => match us, hl with | [_, _, _, _, _], _ => rfl) (len_spD ?len) fun cdv A outer s H vs Q E hr h => ⟨_, (pss_cons (ps_set (i := 5) sc.nd rfl (Or.inl rfl) (pe_lst pa_nil)) (pss_cons (ps_set (i := 6) sc.nd rfl (Or.inl rfl) (pe_op op_add (pe_callBK (cr_maxD rfl) (by rfl) (C.f 71) (by decide +kernel) (pa_cons (pv 3) pa_nil) (pk_cons pe_int pk_nil)) (pe_fn g_law_draw (hr.mono (by decide)) rfl (pa_cons (pv 0) (pa_cons pe_int pa_nil))))) (pss_cons (ps_set (i := 7) sc.nd rfl (Or.inl rfl) (pe_fn g_law_draw (hr.mono (by decide)) rfl (pa_cons (pv 0) (pa_cons pe_int pa_nil)))) (pss_cons (ps_for PassesOwn.never rfl (pi_range1 rfl (C.f 73) (pa_cons (pv 6) pa_nil)) (pg_name (i := 8) sc.nd rfl (Or.inl rfl)) (pss_cons (ps_set (i := 9) sc.nd rfl (Or.inl rfl) (pe_lst pa_nil)) (pss_cons (ps_for PassesOwn.never rfl (pi_range1 rfl (C.f 73) (pa_cons (pe_callB call_len_seq (by rfl) (C.f 69) PySem.boot_len (pa_cons (pv 3) pa_nil)) pa_nil)) (pg_name (i := 10) sc.nd rfl (Or.inl rfl)) (pss_cons (ps_set (i := 11) sc.nd rfl (Or.inl rfl) (pe_ifExp (pt_cmpR op_eq (pv 7) pe_int (nomark _)) (pv 8) (pe_op op_modN (pe_op op_add (pv 8) (pe_op op_mul (pv 10) (pv 7))) (pe_callB (call_max2 rfl) (by rfl) (C.f 71) (by decide +kernel) (pa_cons pe_int (pa_cons (pv 6) pa_nil)))))) (pss_one (ps_expr (pe_bm PySem.F.plainAttrs_list PySem.F.slot_list_append PySem.F.type_list_append mt_append (pv 9) (pa_cons (pe_cmpR op_lt (pv 11) (pe_ix ix_seq (pv 3) (pv 10) (fun _ _ => rfl)) (nomark _)) pa_nil)))))) (pss_one (ps_expr (pe_bm PySem.F.plainAttrs_list PySem.F.slot_list_append PySem.F.type_list_append mt_append (pv 5) (pa_cons (pe_fn g_law_any_row (hr.mono (by decide)) rfl (pa_cons (pv 0) (pa_cons (pv 1) (pa_cons (pv 2) (pa_cons (pv 4) (pa_cons (pv 9) pa_nil)))))) pa_nil))))))) (pss_one (ps_ret (pv 5))))))), run_spD h ?body⟩
  case len => exact fun A S ⟨T, ps, ns, br, hA, ok, rl, hS⟩ => ⟨_, hA, rfl⟩
  case body =>
    refine fun A S ⟨T, ps, ns, br, hA, ok, rl, hS⟩ => ⟨_, hA, fun F dl hF => ?_⟩
    show TSv F [.dv, .bo _, .bo _, .bo _, .bo _, .no, .no, .no, .no, .no, .no, .no] [] _ _
    try simp only [cx_K, cx_K2]
    have hnl := rl.ok.len
    have hlen := rl.len
    have hmx : 0 ≤ maxN ns ∧ maxN ns ≤ 3 := by
      refine ⟨(maxN_le ns 0).1, ?_⟩
      rcases maxN_mem ns 0 with e | e
      · unfold maxN
        omega
      · have := rl.nd _ e
        unfold maxN
        omega
    refine ts_seq (ts_setN ?_)
    repeat o_readsAll
    intro l
    refine ts_seq (ts_set ?_)
    repeat o_readsAll
    refine rck_maxD (by l_intsC) fun m hm => ?_
    have em := maxN_is rl.ok.nn hm
    subst em
    repeat o_readsAll
    refine ⟨_, (by pre_facts), by omega, by omega, fun r1 h1 h2 => ?_⟩
    repeat o_readsAll
    generalize hlanes : maxN ns + r1 = lanes
    refine ts_seq (ts_set ?_)
    repeat o_readsAll
    refine ⟨_, (by pre_facts), by omega, by omega, fun turn h3 h4 => ?_⟩
    refine ts_seq (ts_forR1 ?_)
    repeat o_readsAll
    refine ⟨by omega, by omega, fun j Γ1 μ1 => ∃ (pl : List (List Int)) (e8 e9 e10 e11 : En), pl.length = j ∧ (∀ row, row ∈ pl → RowB row ∧ row.length = ps.length) ∧ Γ1 = [.dv, .bo (TF K T), .bo (IL ps), .bo (IL ns), .bo (IL br), .ow l, .rp (vI lanes), .rp (vI turn), e8, e9, e10, e11] ∧ μ1 = [(l, obL (pl.map IL))], ⟨[], _, _, _, _, rfl, fun x hx => (nomatch hx), rfl, rfl⟩, ?_, ?_⟩
    · rintro j Γ1 μ1 hj ⟨pl, e8, e9, e10, e11, hl, hr, rfl, rfl⟩
      refine tg_name ?_
      refine ts_seq (ts_setN ?_)
      repeat o_readsAll
      intro lw
      refine ts_seq (ts_forR1 ?_)
      repeat o_readsAll
      refine ⟨by omega, by omega, fun k Γ1 μ1 => ∃ (bs : List Bool) (e10 e11 : En), bs.length = k ∧ Γ1 = [.dv, .bo (TF K T), .bo (IL ps), .bo (IL ns), .bo (IL br), .ow l, .rp (vI lanes), .rp (vI turn), .rp (vI j), .ow lw, e10, e11] ∧ μ1 = [(lw, obL (bs.map vB)), (l, obL (pl.map IL))], ⟨[], _, _, rfl, rfl, rfl⟩, ?_, ?_⟩
      · rintro k Γ1 μ1 hk ⟨bs, e10, e11, hbl, rfl, rfl⟩
        refine tg_name ?_
        refine ts_seq (ts_join (fun Γ1 μ1 => ∃ pc, Γ1 = [.dv, .bo (TF K T), .bo (IL ps), .bo (IL ns), .bo (IL br), .ow l, .rp (vI lanes), .rp (vI turn), .rp (vI j), .ow lw, .rp (vI k), .rp (vI pc)] ∧ μ1 = [(lw, obL (bs.map vB)), (l, obL (pl.map IL))]) ?_ ?_)
        · refine ts_set ?_
          repeat o_readsAll
          refine ⟨fun hb => ?_, fun hb => ?_⟩
          · repeat o_readsAll
            exact rfl
          · repeat o_readsAll
            exact rfl
        · rintro Γ1 μ1 ⟨pc, rfl, rfl⟩
          refine ts_app (i := 9) (j := 0) (by with_unfolding_all rfl) (by with_unfolding_all rfl) (by rw [List.length_map]; omega) ?_
          repeat o_readsAll
          exact ⟨bs ++ [decide (pc < gi ns k)], _, _, by rw [List.length_append, hbl]; rfl, rfl, by rw [List.map_append]; rfl⟩
      · rintro Γ1 μ1 ⟨bs, e10, e11, hbl, rfl, rfl⟩
        show TSv F _ _ _ _
        refine ts_free (i := 9) (by with_unfolding_all rfl) (List.Perm.refl _) ?_
        refine ts_app (i := 5) (j := 0) (by with_unfolding_all rfl) (by with_unfolding_all rfl) (by rw [List.length_map]; omega) ?_
        repeat o_readsAll
        refine ⟨T, ps, br, bs, ⟨cv_b Rp.Le.rfl, cv_b Rp.Le.rfl, cv_b Rp.Le.rfl, cv_z Rp.Le.rfl, trivial⟩, ok, by omega, by omega, fun row hrow hrl => ?_⟩
        repeat o_readsAll
        refine ⟨pl ++ [row], .rp (vI j), .rp (LS (bs.map vB)), e10, e11, by rw [List.length_append, hl]; rfl, fun q hq => ?_, rfl, ?_⟩
        · rcases List.mem_append.mp hq with h | h
          · exact hr q h
          · rw [List.mem_singleton.mp h]
            exact ⟨hrow, hrl⟩
        · rw [List.map_append]
          rfl
    · rintro Γ1 μ1 ⟨pl, e8, e9, e10, e11, hl, hr, rfl, rfl⟩
      show TSv F _ _ _ _
      refine ts_retO (i := 5) (j := 0) (by with_unfolding_all rfl) (by with_unfolding_all rfl) ?_
      exact hS pl ⟨by omega, fun row hm => (hr row hm).1⟩ (by omega) fun row hm => (hr row hm).2
end
theorem ts_take {F : Fr} {Γ : List En} {μ μ1 μ2 : Mu} {ts : TS} {D : TD} (hp : μ.Perm (μ1 ++ μ2)) (h : TSv F Γ μ1 ts D) : TSv F Γ μ ts D := fun σ Z H w e D' k => h σ Z H ((w.perm hp.symm).drop (List.sublist_append_left ..)) e D' k
theorem mem_cut {xs : List Int} {x : Int} (h : x ∈ cutR xs (some 1) none) : x ∈ xs := List.mem_of_mem_drop (List.mem_of_mem_take h)
theorem mem_cutL {xs : List (List Int)} {x : List Int} (h : x ∈ cutR xs (some 1) none) : x ∈ xs := List.mem_of_mem_drop (List.mem_of_mem_take h)
theorem cut_length {α : Type} (xs : List α) : (cutR xs (some 1) none).length ≤ xs.length := by
  unfold cutR
  rw [List.length_take, List.length_drop]
  omega
section
variable {P : Program} {w : World} {K : PySem.W.Frag} {mg : Str → Option Value} {base : Heap}

abbrev nLchangedsize : List Str := ["_law_d", "_law_paper", "_law_gains", "_law_heads", "_law_choice", "_law_row"]
theorem scLchangedsize : FnScope nLchangedsize ["_law_d", "_law_paper"] (defScope sLchangedsize) := ⟨rfl, rfl, rfl, by decide +kernel, rfl, by decide +kernel, by decide +kernel⟩
theorem ok_law_changed_size (C : Ctx K mg) (g_law_draw : OkLdraw P w K mg base) : OkLchangedsize P w K mg base := by
  have sc := scLchangedsize
  refine C.fn (i := 54) rfl rfl sc (fun _ _ _ _ _ _ us hl => match us, hl with | [_, _], _ => rfl) (len_spD ?len) fun cdv A outer s H vs Q E hr h => ⟨_, (pss_cons (ps_set (i := 2) sc.nd rfl (Or.inl rfl) (pe_callTy call_list_of (by rfl) (C.f 70) (by decide +kernel) (pa_cons (pe_ix ix_seq (pv 1) pe_int (fun _ _ => rfl)) pa_nil))) (pss_cons (ps_setLc (i := 3) (own := [("_law_row", 5)]) rfl sc.nd rfl rfl (sw_true rfl rfl rfl (by decide +kernel)) (pi_tup (pe_ix ix_seq (pv 1) pe_int (fun _ _ => rfl))) (blkOk_by (own := [("_law_row", 5)]) (N := nLchangedsize) (sc := defScope sLchangedsize) (by decide +kernel)) (fun _ _ _ _ _ => pg_name (i := 5) sc.nd rfl (Or.inl rfl)) (fun _ _ _ _ _ => pts_nil) (fun _ _ _ _ _ => (pe_callTy (show CallR _ _ (rLstOf K) from call_list_of) (by rfl) (C.f 70) (by decide +kernel) (pa_cons (pv 5) pa_nil)))) (pss_cons (ps_set (i := 4) sc.nd rfl (Or.inl rfl) (pe_fn g_law_draw (hr.mono (by decide)) rfl (pa_cons (pv 0) (pa_cons pe_int pa_nil)))) (pss_cons (ps_if (pt_cmpR op_eq (pv 4) pe_int (nomark _)) (pss_one (ps_expr (pe_bm PySem.F.plainAttrs_list PySem.F.slot_list_append PySem.F.type_list_append mt_append (pv 2) (pa_cons pe_int pa_nil)))) (pss_one (ps_if (pt_cmpR op_eq (pv 4) pe_int (nomark _)) (pss_one (ps_expr (pe_bm PySem.F.plainAttrs_list PySem.F.slot_list_append PySem.F.type_list_append mt_append (pv 3) (pa_cons (pe_ifExp (pt_cmpR (op_neD hr.units) (pv 3) (pe_lst pa_nil) (nomark _)) (pe_op op_rep (pe_lst (pa_cons pe_int pa_nil)) (pe_callB call_len_seq (by rfl) (C.f 69) PySem.boot_len (pa_cons (pe_ix ix_seq (pv 3) pe_int (fun _ _ => rfl)) pa_nil))) (pe_lst pa_nil)) pa_nil)))) (pss_one (ps_if (pt_cmpR op_eq (pv 4) pe_int (nomark _)) (pss_one (ps_set (i := 3) sc.nd rfl (Or.inl rfl) (pe_slice sl_list (pv 3) (po_some pe_int) po_none))) (pss_one (ps_if (PW.pt (pw_and (pt_cmpR op_eq (pv 4) pe_int (nomark _)) (pw_and1 (pt_cmpR (op_neD hr.units) (pv 3) (pe_lst pa_nil) (nomark _))))) (pss_one (ps_asg (pe_slice sl_list (pe_ix ix_seq (pv 3) (pe_un un_neg pe_int) (fun _ _ => rfl)) (po_some pe_int) po_none) (pg_sub (pv 3) (pe_un un_neg pe_int) set_list))) (pss_one (ps_set (i := 2) sc.nd rfl (Or.inl rfl) (pe_slice sl_list (pv 2) (po_some pe_int) po_none)))))))))) (pss_one (ps_ret (pe_tup (pa_cons (pe_callTy call_tuple_of (by rfl) (C.f 77) (by decide +kernel) (pa_cons (pv 2) pa_nil)) (pa_cons (pe_callTy call_tuple_of (by rfl) (C.f 77) (by decide +kernel) (pa_cons (pe_lc (own := [("_law_row", 5)]) rfl sc.nd (pi_list (pv 3)) (blkOk_by (own := [("_law_row", 5)]) (N := nLchangedsize) (sc := defScope sLchangedsize) (by decide +kernel)) (fun _ _ _ _ _ => pg_name (i := 5) sc.nd rfl (Or.inl rfl)) (fun _ _ _ _ _ => pts_nil) (fun _ _ _ _ _ => (pe_callTy (show CallR _ _ (rTupOf K) from call_tuple_of) (by rfl) (C.f 77) (by decide +kernel) (pa_cons (pv 5) pa_nil)))) pa_nil)) pa_nil))))))))), run_spD h ?body⟩
  case len => exact fun A S ⟨M, gs, hs, hA, hM, hb, hg50, hh50, hS⟩ => ⟨_, hA, rfl⟩
  case body =>
    refine fun A S ⟨M, gs, hs, hA, hM, hb, hg50, hh50, hS⟩ => ⟨_, hA, fun F dl hF => ?_⟩
    show TSv F [.dv, .bo _, .no, .no, .no, .no] [] _ _
    try simp only [cx_K, cx_K2]
    refine ts_seq (ts_setN (tn_cb ?_))
    repeat o_readsAll
    refine rn_listI (SqTs.q st_b) ?_
    intro lg
    refine ts_seq (ts_setN (tn_fmT (α := List Int) ?_))
    repeat o_readsAll
    refine ⟨_, hs, rowR K, fun _ => true, IL, .b _, by omega, fun r hm L acc => ?_, ?_⟩
    · repeat o_readsAll
      refine ⟨rfl, fun _ => ?_⟩
      repeat o_readsAll
      refine rc_listI (SqTs.q st_b) ?_
      exact ⟨rfl, trivial⟩
    rw [filt_all]
    intro lh
    refine ts_seq (ts_set ?_)
    repeat o_readsAll
    refine ⟨_, (by pre_facts), by omega, by omega, fun ch h1 h2 => ?_⟩
    refine ts_seq (ts_join (fun Γ1 μ1 => ∃ gs' hs' lg lh e4 e5 μ2, PapB M gs' hs' ∧ Γ1 = [.dv, .bo (papR K gs hs), .ow lg, .ow lh, e4, e5] ∧ μ1.Perm ([(lh, obL (hs'.map IL)), (lg, obL (gs'.map vI))] ++ μ2)) ?_ ?_)
    · refine ts_if ?_
      repeat o_readsAll
      refine ⟨fun hc => ?_, fun hc => ?_⟩
      · refine ts_app (i := 2) (j := 1) (by with_unfolding_all rfl) (by with_unfolding_all rfl) (by rw [List.length_map]; omega) ?_
        repeat o_readsAll
        refine ⟨gs ++ [0], hs, lg, lh, _, _, [], ⟨by rw [List.length_append]; simp; omega, hb.hl, fun x hx => ?_, hb.rl, hb.rb⟩, rfl, ?_⟩
        · rcases List.mem_append.mp hx with h | h
          · exact hb.gb x h
          · rw [List.mem_singleton.mp h]
            omega
        · rw [List.map_append]
          exact List.Perm.refl _
      · refine ts_if ?_
        repeat o_readsAll
        refine ⟨fun hc2 => ?_, fun hc2 => ?_⟩
        · refine ts_app (i := 3) (j := 0) (by with_unfolding_all rfl) (by with_unfolding_all rfl) (by rw [List.length_map]; omega) ?_
          repeat o_readsAll
          refine rop_neD (d := .list (rowsD hs)) (e := .list []) (dr_o (j := 0) (by with_unfolding_all rfl) (dp_rows hs)) (dr_z (dp_ls trivial)) (rows_shaped hs) (by decide) ?_
          repeat o_readsAll
          have fin : ∀ r' : List Int, r'.length ≤ 100 → (∀ x, x ∈ r' → x = 0) → ∃ gs' hs' lg' lh' e4' e5' μ2, PapB M gs' hs' ∧ [En.dv, .bo (papR K gs hs), .ow lg, .ow lh, .rp (vI ch), .no] = [.dv, .bo (papR K gs hs), .ow lg', .ow lh', e4', e5'] ∧ [(lh, obL (hs.map IL ++ [IL r'])), (lg, obL (gs.map vI))].Perm ([(lh', obL (hs'.map IL)), (lg', obL (gs'.map vI))] ++ μ2) := fun r' hl hz => by
            refine ⟨gs, hs ++ [r'], lg, lh, _, _, [], ⟨hb.gl, by rw [List.length_append]; simp; omega, hb.gb, fun r hr => ?_, fun r hr x hx => ?_⟩, rfl, ?_⟩
            · rcases List.mem_append.mp hr with h | h
              · exact hb.rl r h
              · rw [List.mem_singleton.mp h]
                exact hl
            · rcases List.mem_append.mp hr with h | h
              · exact hb.rb r h x hx
              · rw [List.mem_singleton.mp h] at hx
                rw [hz x hx]
                omega
            · rw [List.map_append]
              exact List.Perm.refl _
          refine ⟨fun hd => ?_, fun hd => ?_⟩
          · have hne : hs ≠ [] := fun z => by rw [z] at hd; revert hd; decide
            have hpos : 0 < hs.length := List.length_pos_iff.mpr hne
            have hr0 := hb.rl _ (rowAt_mem (hs := hs) (i := 0) (by omega) (by omega))
            refine te_new (tn_op ?_)
            repeat o_readsAll

            refine rn_rep (by omega) (by omega) ?_
            refine ⟨_, ⟨rfl, trivial⟩, ?_⟩
            have e : List.replicate (((rowAt hs 0).length : Nat) : Int).toNat (vI 0) = (List.replicate (rowAt hs 0).length (0 : Int)).map vI := by rw [List.map_replicate, Int.toNat_natCast]
            rw [e]
            exact fin _ (by rw [List.length_replicate]; exact hr0) fun x hx => (List.mem_replicate.mp hx).2
          · repeat o_readsAll
            exact fin [] (by decide) fun x hx => (nomatch hx)
        · refine ts_if ?_
          repeat o_readsAll
          refine ⟨fun hc3 => ?_, fun hc3 => ?_⟩
          · refine ts_setN (tn_slZ ?_)
            repeat o_readsAll
            refine ⟨_, sl_o0, fun l2 => ?_⟩
            rw [cut_map]
            refine ⟨gs, cutR hs (some 1) none, lg, l2, _, _, [(lh, obL (hs.map IL))], ⟨hb.gl, Nat.le_trans (cut_length hs) hb.hl, hb.gb, fun r hr => hb.rl r (mem_cutL hr), fun r hr => hb.rb r (mem_cutL hr)⟩, rfl, ?_⟩
            exact List.Perm.cons _ (List.Perm.swap ..)
          · refine ts_if ?_
            repeat o_readsAll
            refine ⟨fun hc4 => ?_, fun hc4 => ?_⟩
            · repeat o_readsAll
              refine rop_neD (d := .list (rowsD hs)) (e := .list []) (dr_o (j := 0) (by with_unfolding_all rfl) (dp_rows hs)) (dr_z (dp_ls trivial)) (rows_shaped hs) (by decide) ?_
              repeat o_readsAll
              refine ⟨fun hd => ?_, fun hd => ?_⟩
              · have hne : hs ≠ [] := fun z => by rw [z] at hd; revert hd; decide
                have hpos : 0 < hs.length := List.length_pos_iff.mpr hne
                have hat : atI (hs.map IL) (-1) = some (IL (rowAt hs ((hs.length : Int) - 1))) := by
                  refine at_last ?_
                  rw [List.length_map, List.getElem?_map]
                  unfold rowAt
                  have e1 : ((hs.length : Int) - 1).toNat = hs.length - 1 := by omega
                  rw [e1, List.getElem?_eq_getElem (by omega), List.getD_eq_getElem?_getD, List.getElem?_eq_getElem (by omega)]
                  rfl
                have hlm := rowAt_mem (hs := hs) (i := (hs.length : Int) - 1) (by omega) (by omega)
                generalize rowAt hs ((hs.length : Int) - 1) = lr at hat hlm
                refine ts_item (i := 3) (j := 0) (by with_unfolding_all rfl) (by with_unfolding_all rfl) ?_
                refine te_new (tn_slZ ?_)
                repeat o_readsAll
                refine rop_ix (SqLs.q sl_o0) hat ?_
                repeat o_readsAll
                refine ⟨_, sl_z, ?_⟩
                rw [cut_map]
                refine ⟨_, ⟨rfl, trivial⟩, ?_⟩
                repeat o_readsAll
                refine ⟨-1, hs.length - 1, rfl, ?_, ?_⟩
                · rw [List.length_map]
                  unfold ixN
                  rw [if_neg (by decide), if_pos (by omega)]
                  congr 1
                  omega
                · refine ⟨gs, hs.set (hs.length - 1) (cutR lr (some 1) none), lg, lh, _, _, [], ⟨hb.gl, by rw [List.length_set]; exact hb.hl, hb.gb, fun r hr => ?_, fun r hr x hx => ?_⟩, rfl, ?_⟩
                  · rcases List.mem_or_eq_of_mem_set hr with h | h
                    · exact hb.rl r h
                    · rw [h]
                      exact Nat.le_trans (cut_length lr) (hb.rl _ hlm)
                  · rcases List.mem_or_eq_of_mem_set hr with h | h
                    · exact hb.rb r h x hx
                    · rw [h] at hx
                      exact hb.rb _ hlm x (mem_cut hx)
                  · rw [List.map_set]
                    exact List.Perm.refl _
              · refine ts_setN (tn_slI ?_)
                repeat o_readsAll
                refine ⟨_, gs, sl_o1, fun l2 => ?_⟩
                refine ⟨cutR gs (some 1) none, hs, l2, lh, _, _, [(lg, obL (gs.map vI))], ⟨Nat.le_trans (cut_length gs) hb.gl, hb.hl, fun x hx => hb.gb x (mem_cut hx), hb.rl, hb.rb⟩, rfl, ?_⟩
                exact List.Perm.swap ..
            · refine ⟨fun z => (nomatch z), fun _ => ?_⟩
              refine ts_setN (tn_slI ?_)
              repeat o_readsAll
              refine ⟨_, gs, sl_o1, fun l2 => ?_⟩
              refine ⟨cutR gs (some 1) none, hs, l2, lh, _, _, [(lg, obL (gs.map vI))], ⟨Nat.le_trans (cut_length gs) hb.gl, hb.hl, fun x hx => hb.gb x (mem_cut hx), hb.rl, hb.rb⟩, rfl, ?_⟩
              exact List.Perm.swap ..
    · rintro Γ1 μ1 ⟨gs', hs', lg, lh, e4, e5, μ2, hb', rfl, hp⟩
      refine ts_take hp ?_
      refine ts_free (i := 3) (by with_unfolding_all rfl) (List.Perm.refl _) ?_
      refine ts_free (i := 2) (by with_unfolding_all rfl) (List.Perm.refl _) ?_
      refine ts_ret ?_
      repeat o_readsAll
      refine te_new (tn_fmL (α := List Int) ?_)
      repeat o_readsAll
      refine ⟨_, hs', IL, fun _ => true, rowR K, .z _, by have := hb'.hl; omega, fun r hm L acc => ?_, ?_⟩
      · repeat o_readsAll
        refine ⟨rfl, fun _ => ?_⟩
        repeat o_readsAll
        exact ⟨rfl, trivial⟩
      · rw [filt_all]
        repeat o_readsAll
        exact hS _ _ hb'
end
theorem cut_lenG {α : Type} (xs : List α) (lo hi : Option Int) : (cutR xs lo hi).length ≤ xs.length := by
  unfold cutR
  rw [List.length_take, List.length_drop]
  omega
theorem mem_cutG {α : Type} {xs : List α} {lo hi : Option Int} {x : α} (h : x ∈ cutR xs lo hi) : x ∈ xs := List.mem_of_mem_drop (List.mem_of_mem_take h)
section
variable {P : Program} {w : World} {K : PySem.W.Frag} {mg : Str → Option Value} {base : Heap}

abbrev nLchanged : List Str := ["_law_d", "_law_tariff_here", "_law_plan", "_law_at", "_law_k", "_law_choice", "_law_row"]
theorem scLchanged : FnScope nLchanged ["_law_d", "_law_tariff_here", "_law_plan"] (defScope sLchanged) := ⟨rfl, rfl, rfl, by decide +kernel, rfl, by decide +kernel, by decide +kernel⟩
theorem ok_law_changed (C : Ctx K mg) (g_law_draw : OkLdraw P w K mg base) : OkLchanged P w K mg base := by
  have sc := scLchanged
  refine C.fn (i := 57) rfl rfl sc (fun _ _ _ _ _ _ us hl => match us, hl with | [_, _, _], _ => rfl) (len_spD ?len) fun cdv A outer s H vs Q E hr h => ⟨_, (pss_cons (ps_setLc (i := 2) (own := [("_law_row", 6)]) rfl sc.nd rfl rfl (sw_true rfl rfl rfl (by decide +kernel)) (pi_list (pv 2)) (blkOk_by (own := [("_law_row", 6)]) (N := nLchanged) (sc := defScope sLchanged) (by decide +kernel)) (fun _ _ _ _ _ => pg_name (i := 6) sc.nd rfl (Or.inl rfl)) (fun _ _ _ _ _ => pts_nil) (fun _ _ _ _ _ => (pe_callTy (show CallR _ _ (rLstOf K) from call_list_of) (by rfl) (C.f 70) (by decide +kernel) (pa_cons (pv 6) pa_nil)))) (pss_cons (ps_if (PW.pt (pw_or (pt_cmpR (op_eqD hr.units) (pv 2) (pe_lst pa_nil) (nomark _)) (pw_or1 (pt_cmpR (op_eqD hr.units) (pe_ix ix_seq (pv 2) pe_int (fun _ _ => rfl)) (pe_lst pa_nil) (nomark _))))) (pss_one (ps_ret (pv 2))) pss_nil) (pss_cons (ps_set (i := 3) sc.nd rfl (Or.inl rfl) (pe_fn g_law_draw (hr.mono (by decide)) rfl (pa_cons (pv 0) (pa_cons (pe_callB call_len_seq (by rfl) (C.f 69) PySem.boot_len (pa_cons (pv 2) pa_nil)) pa_nil)))) (pss_cons (ps_set (i := 4) sc.nd rfl (Or.inl rfl) (pe_fn g_law_draw (hr.mono (by decide)) rfl (pa_cons (pv 0) (pa_cons (pe_callB call_len_seq (by rfl) (C.f 69) PySem.boot_len (pa_cons (pe_ix ix_seq (pv 2) (pv 3) (fun _ _ => rfl)) pa_nil)) pa_nil)))) (pss_cons (ps_set (i := 5) sc.nd rfl (Or.inl rfl) (pe_fn g_law_draw (hr.mono (by decide)) rfl (pa_cons (pv 0) (pa_cons pe_int pa_nil)))) (pss_cons (ps_set (i := 6) sc.nd rfl (Or.inl rfl) (pe_ix ix_seq (pv 2) (pv 3) (fun _ _ => rfl))) (pss_cons (ps_if (pt_cmpR op_eq (pv 5) pe_int (nomark _)) (pss_one (ps_set (i := 6) sc.nd rfl (Or.inl rfl) (pe_slice sl_list (pv 6) (po_some pe_int) po_none))) (pss_one (ps_if (pt_cmpR op_eq (pv 5) pe_int (nomark _)) (pss_one (ps_set (i := 6) sc.nd rfl (Or.inl rfl) (pe_op op_cat (pv 6) (pe_lst (pa_cons (pe_callB call_len_seq (by rfl) (C.f 69) PySem.boot_len (pa_cons (pe_ix ix_seq (pv 1) pe_int (fun _ _ => rfl)) pa_nil)) pa_nil))))) (pss_one (ps_asg (pe_op op_sub (pe_fn g_law_draw (hr.mono (by decide)) rfl (pa_cons (pv 0) (pa_cons (pe_op op_add (pe_callB call_len_seq (by rfl) (C.f 69) PySem.boot_len (pa_cons (pe_ix ix_seq (pv 1) pe_int (fun _ _ => rfl)) pa_nil)) pe_int) pa_nil))) pe_int) (pg_sub (pv 6) (pv 4) set_list)))))) (pss_one (ps_ret (pe_op op_cat (pe_op op_cat (pe_slice sl_list (pv 2) po_none (po_some (pv 3))) (pe_lst (pa_cons (pv 6) pa_nil))) (pe_slice sl_list (pv 2) (po_some (pe_op op_add (pv 3) pe_int)) po_none))))))))))), run_spD h ?body⟩
  case len => exact fun A S ⟨T, pl, m, hA, ok, h50, hm50, hpb, hrl, hS⟩ => ⟨_, hA, rfl⟩
  case body =>
    refine fun A S ⟨T, pl, m, hA, ok, h50, hm50, hpb, hrl, hS⟩ => ⟨_, hA, fun F dl hF => ?_⟩
    show TSv F [.dv, .bo _, .bo _, .no, .no, .no, .no] [] _ _
    try simp only [cx_K, cx_K2]
    have hle := ok.le
    have hwl := ok.len
    refine ts_seq (ts_rowsL (by show 6 < 7; decide) ?_)
    repeat o_readsAll
    refine ⟨_, pl, IL, .b _, rowP_L (K := K), by omega, fun lh ls hls => ?_⟩
    rw [List.append_nil]
    have hmem : ∀ q, q ∈ zipR ls pl → q ∈ (lh, obL (ls.map refR)) :: zipR ls pl := fun q hq => List.mem_cons_of_mem _ hq
    refine ts_seq (ts_if ?_)
    repeat o_readsAll
    refine rop_eqD (d := .list (rowsD pl)) (e := .list []) (dr_rows hls (List.mem_cons_self ..) hmem) (dr_z (dp_ls trivial)) (rows_shaped pl) (by decide) ?_
    repeat o_readsAll
    rw [eqv_nil]
    have early : ∀ D : TD, D.rt (ILL pl) → TSv F [.dv, .bo (TF K T), .ow lh, .no, .no, .no, .no] ((lh, obL (ls.map refR)) :: zipR ls pl) (tRet (tVar 2)) D := fun D hD => by
      have h0 := ts_freeRows (F := F) (Γ := [.dv, .bo (TF K T), .ow lh, .no, .no, .no, .no]) (μ := []) (D := D) (ts := tRet (tVar 2)) (i := 2) hls (by with_unfolding_all rfl) (by
        repeat nest_cls
        exact hD)
      rw [List.append_nil] at h0
      exact h0
    refine ⟨fun hb => ?_, fun hb => ?_⟩
    · refine ⟨fun _ => early _ (hS pl hpb), fun z => (nomatch z)⟩
    · have hne : pl ≠ [] := fun z => by rw [z] at hb; revert hb; decide
      have hpos : 0 < pl.length := List.length_pos_iff.mpr hne
      obtain ⟨l0, hl0⟩ : ∃ l0, ls[0]? = some l0 := ⟨ls[0]'(by omega), List.getElem?_eq_getElem (by omega)⟩
      obtain ⟨r0, hr0⟩ : ∃ r0, pl[0]? = some r0 := ⟨pl[0]'(by omega), List.getElem?_eq_getElem (by omega)⟩
      repeat o_readsAll
      refine rop_ixE (l := .z) (SqLs.q sl_o0) (at_nat (i := 0) (by decide) (x := vE (.ref l0)) (by show (ls.map refR)[0]? = _; rw [List.getElem?_map, hl0]; rfl)) ?_
      repeat o_readsAll
      have hj0 : ((lh, obL (ls.map refR)) :: zipR ls pl)[0 + 1]? = some (l0, obL (r0.map vI)) := zipR_get hl0 hr0
      refine rop_eqD (d := .list (r0.map PyData.int)) (e := .list []) (dr_ref hj0 (dp_ints r0)) (dr_z (dp_ls trivial)) (ints_shaped r0) (by decide) ?_
      repeat o_readsAll
      rw [eqv_nil]
      refine ⟨fun hc => early _ (hS pl hpb), fun hc => ?_⟩
      have hmpos : 0 < m := by
        have hr0n : r0 ≠ [] := fun z => by rw [z] at hc; revert hc; decide
        have := List.length_pos_iff.mpr hr0n
        rw [hrl r0 (List.mem_of_getElem? hr0)] at this
        exact this
      refine ts_next ?_
      refine ts_seq (ts_set ?_)
      repeat o_readsAll
      have hlm : ((ls.map refR).length : Int) = pl.length := by rw [List.length_map, hls]
      refine ⟨_, (by pre_facts), by omega, by omega, fun a ha0 ha1 => ?_⟩
      have haN : a.toNat < pl.length := by omega
      obtain ⟨la, hla⟩ : ∃ la, ls[a.toNat]? = some la := ⟨ls[a.toNat]'(by omega), List.getElem?_eq_getElem (by omega)⟩
      obtain ⟨ra, hra⟩ : ∃ ra, pl[a.toNat]? = some ra := ⟨pl[a.toNat]'haN, List.getElem?_eq_getElem haN⟩
      have hram := List.mem_of_getElem? hra
      have hral := hrl ra hram
      have hja : ((lh, obL (ls.map refR)) :: zipR ls pl)[a.toNat + 1]? = some (la, obL (ra.map vI)) := zipR_get hla hra
      have hat : atI (ls.map refR) a = some (vE (.ref la)) := at_nat ha0 (by rw [List.getElem?_map, hla]; rfl)
      refine ts_seq (ts_set ?_)
      repeat o_readsAll
      refine rop_ixE (l := .z) (SqLs.q sl_o0) hat ?_
      repeat o_readsAll
      refine rc_len (l := .z) (SqLs.q (sl_ref hja)) ?_
      rw [List.length_map, hral]
      repeat o_readsAll
      refine ⟨_, (by pre_facts), by omega, by omega, fun kk hk0 hk1 => ?_⟩
      refine ts_seq (ts_set ?_)
      repeat o_readsAll
      refine ⟨_, (by pre_facts), by omega, by omega, fun ch hc0 hc1 => ?_⟩
      refine ts_seq (ts_set ?_)
      repeat o_readsAll
      refine rop_ixE (l := .z) (SqLs.q sl_o0) hat ?_
      refine ts_seq (ts_join (fun Γ1 μ1 => ∃ (rows : List (List Int)) (r : List Int) (e : En), ls.length = rows.length ∧ PlanB rows ∧ RowB r ∧ (e = .rp (IL r) ∨ e = .rp (refR la) ∧ rows[a.toNat]? = some r) ∧ Γ1 = [.dv, .bo (TF K T), .ow lh, .rp (vI a), .rp (vI kk), .rp (vI ch), e] ∧ μ1 = (lh, obL (ls.map refR)) :: zipR ls rows) ?_ ?_)
      · refine ts_if ?_
        repeat o_readsAll
        refine ⟨fun hd => ?_, fun hd => ?_⟩
        · refine ts_set (te_new (tn_slI ?_))
          repeat o_readsAll
          refine ⟨_, ra, sl_ref hja, ?_⟩
          refine ⟨pl, cutR ra (some 1) none, _, hls, hpb, ⟨?_, fun x hx => (hpb.2 ra hram).2 x (List.mem_of_mem_drop (List.mem_of_mem_take hx))⟩, .inl rfl, rfl, rfl⟩
          unfold cutR
          rw [List.length_take, List.length_drop]
          omega
        · refine ts_if ?_
          repeat o_readsAll
          refine ⟨fun he => ?_, fun he => ?_⟩
          · refine ts_set ?_
            repeat o_readsAll
            refine rop_cat (sl_ref hja) sl_z (by rw [List.length_map]; simp; omega) ?_
            refine ⟨pl, ra ++ [(T.rates.length : Int)], _, hls, hpb, ⟨by rw [List.length_append]; simp; omega, fun x hx => ?_⟩, .inl (by show En.rp (LS (ra.map vI ++ [vI (T.rates.length : Nat)])) = En.rp (LS ((ra ++ [(T.rates.length : Int)]).map vI)); rw [List.map_append]; rfl), rfl, rfl⟩
            rcases List.mem_append.mp hx with h | h
            · exact (hpb.2 ra hram).2 x h
            · rw [List.mem_singleton.mp h]
              omega
          · refine ts_itemR ?_
            repeat o_readsAll
            refine ⟨_, (by pre_facts), by omega, by omega, fun r hr0 hr1 => ?_⟩
            repeat o_readsAll
            refine ⟨la, a.toNat + 1, ra.map vI, rfl, hja, ?_⟩
            repeat o_readsAll
            refine ⟨kk, kk.toNat, rfl, ?_, ?_⟩
            · rw [List.length_map, show kk = ((kk.toNat : Nat) : Int) from (Int.toNat_of_nonneg hk0).symm]
              exact ixn_nat (by omega)
            · have hset : ((lh, obL (ls.map refR)) :: zipR ls pl).set (a.toNat + 1) (la, obL ((ra.map vI).set kk.toNat (vI (r - 1)))) = (lh, obL (ls.map refR)) :: zipR ls (pl.set a.toNat (ra.set kk.toNat (r - 1))) := by
                rw [List.set_cons_succ, ← List.map_set, zipR_set hla]
              have hrb : RowB (ra.set kk.toNat (r - 1)) := ⟨by rw [List.length_set]; omega, fun x hx => by
                rcases List.mem_or_eq_of_mem_set hx with h | h
                · exact (hpb.2 ra hram).2 x h
                · omega⟩
              refine ⟨pl.set a.toNat (ra.set kk.toNat (r - 1)), ra.set kk.toNat (r - 1), _, by rw [List.length_set]; exact hls, ⟨by rw [List.length_set]; exact hpb.1, fun row hm => ?_⟩, hrb, .inr ⟨rfl, ?_⟩, rfl, hset⟩
              · rcases List.mem_or_eq_of_mem_set hm with h | h
                · exact hpb.2 row h
                · rw [h]
                  exact hrb
              · rw [List.getElem?_set, if_pos rfl, if_pos haN]
      · rintro Γ1 μ1 ⟨rows, r, e, hl2, hpb2, hrb, he, rfl, rfl⟩
        have hr50 : rows.length ≤ 40 := by omega
        rcases he with rfl | ⟨rfl, hrr⟩
        · rw [← List.append_nil (zipR ls rows)]
          refine ts_freeRows (i := 2) hl2 (by with_unfolding_all rfl) ?_
          refine ts_ret ?_
          repeat o_readsAll
          refine te_new (tn_slZ ?_)
          repeat o_readsAll
          refine ⟨_, sl_z, ?_⟩
          repeat o_readsAll
          refine rop_cat sl_z sl_z (by have := cut_lenG (rows.map IL) none (some a); rw [List.length_map] at this; simp only [List.length_cons, List.length_nil]; omega) ?_
          refine te_new (tn_slZ ?_)
          repeat o_readsAll
          refine ⟨_, sl_z, ?_⟩
          refine rop_cat sl_z sl_z (by have h1 := cut_lenG (rows.map IL) none (some a); have h2 := cut_lenG (rows.map IL) (some (a + 1)) none; rw [List.length_map] at h1 h2; rw [List.length_append]; simp only [List.length_cons, List.length_nil]; omega) ?_
          rw [cut_map, cut_map, show [IL r] = [r].map IL from rfl, ← List.map_append, ← List.map_append]
          refine ⟨_, rfl, hS _ ⟨?_, fun q hq => ?_⟩⟩
          · have h1 := cut_lenG rows none (some a)
            have h2 := cut_lenG rows (some (a + 1)) none
            rw [List.length_append, List.length_append]
            simp only [List.length_cons, List.length_nil]
            omega
          · rcases List.mem_append.mp hq with h | h
            · rcases List.mem_append.mp h with h | h
              · exact hpb2.2 q (mem_cutG h)
              · rw [List.mem_singleton.mp h]
                exact hrb
            · exact hpb2.2 q (mem_cutG h)
        · rw [← List.append_nil (zipR ls rows)]
          refine ts_freeRows2 (i := 2) (i2 := 6) (n := a.toNat) (r := r) hl2 (by with_unfolding_all rfl) (by decide) (by with_unfolding_all rfl) hla hrr ?_
          refine ts_ret ?_
          repeat o_readsAll
          refine te_new (tn_slZ ?_)
          repeat o_readsAll
          refine ⟨_, sl_z, ?_⟩
          repeat o_readsAll
          refine rop_cat sl_z sl_z (by have := cut_lenG (rows.map IL) none (some a); rw [List.length_map] at this; simp only [List.length_cons, List.length_nil]; omega) ?_
          refine te_new (tn_slZ ?_)
          repeat o_readsAll
          refine ⟨_, sl_z, ?_⟩
          refine rop_cat sl_z sl_z (by have h1 := cut_lenG (rows.map IL) none (some a); have h2 := cut_lenG (rows.map IL) (some (a + 1)) none; rw [List.length_map] at h1 h2; rw [List.length_append]; simp only [List.length_cons, List.length_nil]; omega) ?_
          rw [cut_map, cut_map, show [IL r] = [r].map IL from rfl, ← List.map_append, ← List.map_append]
          refine ⟨_, rfl, hS _ ⟨?_, fun q hq => ?_⟩⟩
          · have h1 := cut_lenG rows none (some a)
            have h2 := cut_lenG rows (some (a + 1)) none
            rw [List.length_append, List.length_append]
            simp only [List.length_cons, List.length_nil]
            omega
          · rcases List.mem_append.mp hq with h | h
            · rcases List.mem_append.mp h with h | h
              · exact hpb2.2 q (mem_cutG h)
              · rw [List.mem_singleton.mp h]
                exact hrb
            · exact hpb2.2 q (mem_cutG h)
end
theorem mem_cutG2 {α : Type} {xs : List α} {lo hi : Option Int} {x : α} (h : x ∈ cutR xs lo hi) : x ∈ xs := List.mem_of_mem_drop (List.mem_of_mem_take h)
theorem cut_lenG2 {α : Type} (xs : List α) (lo hi : Option Int) : (cutR xs lo hi).length ≤ xs.length := by
  unfold cutR
  rw [List.length_take, List.length_drop]
  omega
theorem rop_ofN {F : Fr} {μ : Mu} {r : R2} {x y : Rv} {S : Rv → Prop} (h : RopN F μ r x y (fun Ps => S (.z (LS Ps)))) : Rop F μ r x y S := fun Z H w v v2 h1 h2 Q k => h Z H w v v2 h1 h2 Q fun l Ps Z1 H1 s1 w1 z1 => by
  obtain ⟨u, ⟨vs, rfl, hh⟩, sm, w2⟩ := w1.free
  exact k (.ref l) _ _ H1 s1 w2 (z1.trans sm) ⟨l, vs, rfl, upd_same, hh.mono sm⟩
section
variable {P : Program} {w : World} {K : PySem.W.Frag} {mg : Str → Option Value} {base : Heap}

abbrev nLplans : List Str := ["_law_d", "_law_tariff_here", "_law_run_here", "_law_first", "_law_plans_here", "_law_k", "_law_last", "_law_row"]
theorem scLplans : FnScope nLplans ["_law_d", "_law_tariff_here", "_law_run_here", "_law_first"] (defScope sLplans) := ⟨rfl, rfl, rfl, by decide +kernel, rfl, by decide +kernel, by decide +kernel⟩
theorem ok_law_plans (C : Ctx K mg) (g_law_changed : OkLchanged P w K mg base) (g_law_any_plan : OkLanyplan P w K mg base) : OkLplans P w K mg base := by
  have sc := scLplans
  refine C.fn (i := 59) rfl rfl sc (fun _ _ _ _ _ _ us hl => match us, hl with | [_, _, _, _], _ => rfl) (len_spDZ ?len) fun cdv A outer s H vs Q E hr h => ⟨_, (pss_cons (ps_set (i := 4) sc.nd rfl (Or.inl rfl) (pe_lst (pa_cons (pv 3) (pa_cons (pe_fn g_law_changed (hr.mono (by decide)) rfl (pa_cons (pv 0) (pa_cons (pv 1) (pa_cons (pv 3) pa_nil)))) pa_nil)))) (pss_cons (ps_for PassesOwn.never rfl (pi_range1 rfl (C.f 73) (pa_cons pe_int pa_nil)) (pg_name (i := 5) sc.nd rfl (Or.inl rfl)) (pss_one (ps_expr (pe_bm PySem.F.plainAttrs_list PySem.F.slot_list_append PySem.F.type_list_append mt_append (pv 4) (pa_cons (pe_fn g_law_any_plan (hr.mono (by decide)) rfl (pa_cons (pv 0) (pa_cons (pv 1) (pa_cons (pe_ix ix_seq (pv 2) pe_int (fun _ _ => rfl)) (pa_cons (pe_ix ix_seq (pv 2) pe_int (fun _ _ => rfl)) (pa_cons (pe_ix ix_seq (pv 2) pe_int (fun _ _ => rfl)) pa_nil)))))) pa_nil))))) (pss_cons (ps_expr (pe_bm PySem.F.plainAttrs_list PySem.F.slot_list_append PySem.F.type_list_append mt_append (pv 4) (pa_cons (pe_fn g_law_changed (hr.mono (by decide)) rfl (pa_cons (pv 0) (pa_cons (pv 1) (pa_cons (pe_ix ix_seq (pv 4) (pe_un un_neg pe_int) (fun _ _ => rfl)) pa_nil)))) pa_nil))) (pss_cons (ps_expr (pe_bm PySem.F.plainAttrs_list PySem.F.slot_list_append PySem.F.type_list_append mt_append (pv 4) (pa_cons (pe_op op_cat (pe_lc (own := [("_law_row", 7)]) rfl sc.nd (pi_list (pv 3)) (blkOk_by (own := [("_law_row", 7)]) (N := nLplans) (sc := defScope sLplans) (by decide +kernel)) (fun _ _ _ _ _ => pg_name (i := 7) sc.nd rfl (Or.inl rfl)) (fun _ _ _ _ _ => pts_nil) (fun _ _ _ _ _ => (pe_callTy (show CallR _ _ (rLstOf K) from call_list_of) (by rfl) (C.f 70) (by decide +kernel) (pa_cons (pv 7) pa_nil)))) (pe_lst (pa_cons (pe_op op_rep (pe_lst (pa_cons (pe_callB call_len_seq (by rfl) (C.f 69) PySem.boot_len (pa_cons (pe_ix ix_seq (pv 1) pe_int (fun _ _ => rfl)) pa_nil)) pa_nil)) (pe_callB call_len_seq (by rfl) (C.f 69) PySem.boot_len (pa_cons (pe_ix ix_seq (pv 2) pe_int (fun _ _ => rfl)) pa_nil))) pa_nil))) pa_nil))) (pss_cons (ps_expr (pe_bm PySem.F.plainAttrs_list PySem.F.slot_list_append PySem.F.type_list_append mt_append (pv 4) (pa_cons (pe_slice sl_list (pe_lc (own := [("_law_row", 7)]) rfl sc.nd (pi_list (pv 3)) (blkOk_by (own := [("_law_row", 7)]) (N := nLplans) (sc := defScope sLplans) (by decide +kernel)) (fun _ _ _ _ _ => pg_name (i := 7) sc.nd rfl (Or.inl rfl)) (fun _ _ _ _ _ => pts_nil) (fun _ _ _ _ _ => (pe_callTy (show CallR _ _ (rLstOf K) from call_list_of) (by rfl) (C.f 70) (by decide +kernel) (pa_cons (pv 7) pa_nil)))) (po_some pe_int) po_none) pa_nil))) (pss_cons (ps_if (PW.pt (pw_and (pt_cmpR (op_neD hr.units) (pv 3) (pe_lst pa_nil) (nomark _)) (pw_and1 (pt_cmpR (op_neD hr.units) (pe_ix ix_seq (pv 2) pe_int (fun _ _ => rfl)) (pe_lst pa_nil) (nomark _))))) (pss_cons (ps_setLc (i := 6) (own := [("_law_row", 7)]) rfl sc.nd rfl rfl (sw_true rfl rfl rfl (by decide +kernel)) (pi_list (pv 3)) (blkOk_by (own := [("_law_row", 7)]) (N := nLplans) (sc := defScope sLplans) (by decide +kernel)) (fun _ _ _ _ _ => pg_name (i := 7) sc.nd rfl (Or.inl rfl)) (fun _ _ _ _ _ => pts_nil) (fun _ _ _ _ _ => (pe_callTy (show CallR _ _ (rLstOf K) from call_list_of) (by rfl) (C.f 70) (by decide +kernel) (pa_cons (pv 7) pa_nil)))) (pss_cons (ps_asg pe_int (pg_sub (pe_ix ix_seq (pv 6) pe_int (fun _ _ => rfl)) (pe_un un_neg pe_int) set_list)) (pss_one (ps_expr (pe_bm PySem.F.plainAttrs_list PySem.F.slot_list_append PySem.F.type_list_append mt_append (pv 4) (pa_cons (pv 6) pa_nil)))))) pss_nil) (pss_one (ps_ret (pv 4))))))))), run_spDZ h ?body⟩
  case len => exact fun A S ⟨T, ps, ns, br, pl, hA, ok, rl, h30, hpb, hrl, hS⟩ => ⟨_, hA, rfl⟩
  case body =>
    refine fun A S ⟨T, ps, ns, br, pl, hA, ok, rl, h30, hpb, hrl, hS⟩ => ⟨_, hA, fun F dl hF => ?_⟩
    show TSv F [.dv, .rp _, .rp _, .rp _, .no, .no, .no, .no] [] _ _
    try simp only [cx_K, cx_K2]
    have hle := ok.le
    have hlen := rl.len
    refine ts_seq (ts_setN (tn_lst ?_))
    repeat o_readsAll
    refine ⟨T, pl, ps.length, ⟨cv_z Rp.Le.rfl, cv_z Rp.Le.rfl, trivial⟩, ok, by omega, by omega, hpb, hrl, fun p1 hp1 => ?_⟩
    repeat o_readsAll
    intro l
    have hpl1 : ∀ p, p ∈ [pl, p1] → PlanB p := fun p hp => by
      rcases List.mem_cons.mp hp with rfl | hp
      · exact hpb
      · rw [List.mem_singleton.mp hp]
        exact hp1
    refine ts_seq (ts_forR1 ?_)
    repeat o_readsAll
    refine ⟨by omega, by omega, fun k Γ1 μ1 => ∃ (pls : List (List (List Int))) (e5 : En), pls.length = k + 2 ∧ (∀ p, p ∈ pls → PlanB p) ∧ (0 < k → ∃ q pl2, pls = q ++ [pl2] ∧ pl2.length ≤ 10 ∧ ∀ row, row ∈ pl2 → row.length = ps.length) ∧ Γ1 = [.dv, .rp (TF K T), .rp (runR K ps ns br), .rp (ILL pl), .ow l, e5, .no, .no] ∧ μ1 = [(l, obL (pls.map ILL))], ⟨[pl, p1], _, rfl, hpl1, fun z => absurd z (Nat.lt_irrefl 0), rfl, rfl⟩, ?_, ?_⟩
    · rintro k Γ1 μ1 hk ⟨pls, e5, hl, hps, hlast, rfl, rfl⟩
      refine tg_name ?_
      refine ts_app (i := 4) (j := 0) (by with_unfolding_all rfl) (by with_unfolding_all rfl) (by rw [List.length_map]; omega) ?_
      repeat o_readsAll
      refine ⟨T, ps, ns, br, ⟨cv_z Rp.Le.rfl, cv_z Rp.Le.rfl, cv_z Rp.Le.rfl, cv_z Rp.Le.rfl, trivial⟩, ok, rl, fun p hp hp10 hprl => ?_⟩
      repeat o_readsAll
      refine ⟨pls ++ [p], .rp (vI k), by rw [List.length_append]; simp; omega, fun q hq => ?_, fun _ => ⟨pls, p, rfl, hp10, hprl⟩, rfl, by rw [List.map_append]; rfl⟩
      rcases List.mem_append.mp hq with h | h
      · exact hps q h
      · rw [List.mem_singleton.mp h]
        exact hp
    · rintro Γ1 μ1 ⟨pls, e5, hl, hps, hlast, rfl, rfl⟩
      obtain ⟨q, pl2, rfl, hp10, hp2⟩ := hlast (by decide)
      have hpb2 := hps pl2 (by simp)
      refine ts_seq (ts_app (i := 4) (j := 0) (by with_unfolding_all rfl) (by with_unfolding_all rfl) (by rw [List.length_map]; omega) ?_)
      repeat o_readsAll
      refine rop_ix (SqLs.q sl_o0) (P := ILL pl2) (at_last (by rw [List.length_map, List.length_append, List.map_append]; simp)) ?_
      repeat o_readsAll
      have hl4 : (q ++ [pl2]).length = 4 := hl
      refine ⟨T, pl2, ps.length, ⟨cv_z Rp.Le.rfl, cv_z Rp.Le.rfl, trivial⟩, ok, by omega, by omega, hpb2, hp2, fun p3 hp3 => ?_⟩
      repeat o_readsAll
      have e3 : (q ++ [pl2]).map ILL ++ [ILL p3] = (q ++ [pl2] ++ [p3]).map ILL := by simp
      have hall3 : ∀ p, p ∈ q ++ [pl2] ++ [p3] → PlanB p := fun p hp => by
        rcases List.mem_append.mp hp with h | h
        · exact hps p h
        · rw [List.mem_singleton.mp h]
          exact hp3
      have hl5 : (q ++ [pl2] ++ [p3]).length = 5 := by rw [List.length_append, hl4]; rfl
      generalize q ++ [pl2] ++ [p3] = ps3 at e3 hall3 hl5
      show TSv F [.dv, .rp (TF K T), .rp (runR K ps ns br), .rp (ILL pl), .ow l, e5, .no, .no] [(l, obL ((q ++ [pl2]).map ILL ++ [ILL p3]))] _ _
      rw [e3]
      have hoff : RowB (List.replicate ps.length (T.rates.length : Int)) := ⟨by rw [List.length_replicate]; omega, fun x hx => by rw [(List.mem_replicate.mp hx).2]; omega⟩
      refine ts_seq (ts_app (i := 4) (j := 0) (by with_unfolding_all rfl) (by with_unfolding_all rfl) (by rw [List.length_map]; omega) ?_)
      repeat o_readsAll
      refine te_new (tn_fmL (α := List Int) ?_)
      repeat o_readsAll
      refine ⟨_, pl, IL, fun _ => true, IL, .z _, by omega, fun r hm L acc => ?_, ?_⟩
      · repeat o_readsAll
        refine ⟨rfl, fun _ => ?_⟩
        repeat o_readsAll
        refine rc_listI (SqLs.q sl_z) ?_
        exact ⟨rfl, trivial⟩
      rw [filt_all]
      repeat o_readsAll
      refine rop_ofN (rn_rep (by omega) (by omega) ?_)
      repeat o_readsAll
      have erep : [LS (List.replicate ((ps.length : Nat) : Int).toNat (vI (T.rates.length : Nat)))] = [List.replicate ps.length (T.rates.length : Int)].map IL := by
        rw [Int.toNat_natCast]
        show _ = [LS ((List.replicate ps.length (T.rates.length : Int)).map vI)]
        rw [List.map_replicate]
      refine rop_cat sl_z sl_z (by rw [List.length_map]; simp only [List.length_cons, List.length_nil]; omega) ?_
      rw [erep, ← List.map_append]
      refine ⟨_, ⟨rfl, trivial⟩, ?_⟩
      have hp4 : PlanB (pl ++ [List.replicate ps.length (T.rates.length : Int)]) := ⟨by rw [List.length_append]; simp; omega, fun r hr => by
        rcases List.mem_append.mp hr with h | h
        · exact hpb.2 r h
        · rw [List.mem_singleton.mp h]
          exact hoff⟩
      generalize pl ++ [List.replicate ps.length (T.rates.length : Int)] = p4 at hp4
      show TSv F [.dv, .rp (TF K T), .rp (runR K ps ns br), .rp (ILL pl), .ow l, e5, .no, .no] [(l, obL (ps3.map ILL ++ [ILL p4]))] _ _
      rw [show ps3.map ILL ++ [ILL p4] = (ps3 ++ [p4]).map ILL by simp]
      refine ts_seq (ts_app (i := 4) (j := 0) (by with_unfolding_all rfl) (by with_unfolding_all rfl) (by rw [List.length_map, List.length_append]; simp; omega) ?_)
      refine te_new (tn_slZ ?_)
      refine te_new (tn_fmL (α := List Int) ?_)
      repeat o_readsAll
      refine ⟨_, pl, IL, fun _ => true, IL, .z _, by omega, fun r hm L acc => ?_, ?_⟩
      · repeat o_readsAll
        refine ⟨rfl, fun _ => ?_⟩
        repeat o_readsAll
        refine rc_listI (SqLs.q sl_z) ?_
        exact ⟨rfl, trivial⟩
      rw [filt_all]
      repeat o_readsAll
      refine ⟨_, sl_z, ?_⟩
      rw [cut_map]
      refine ⟨_, ⟨rfl, trivial⟩, ?_⟩
      have hp5 : PlanB (cutR pl (some 1) none) := ⟨Nat.le_trans (cut_lenG2 pl _ _) (by omega), fun r hr => hpb.2 r (mem_cutG2 hr)⟩
      generalize cutR pl (some 1) none = p5 at hp5
      show TSv F [.dv, .rp (TF K T), .rp (runR K ps ns br), .rp (ILL pl), .ow l, e5, .no, .no] [(l, obL ((ps3 ++ [p4]).map ILL ++ [ILL p5]))] _ _
      rw [show (ps3 ++ [p4]).map ILL ++ [ILL p5] = (ps3 ++ [p4] ++ [p5]).map ILL by simp]
      have hall5 : ∀ p, p ∈ ps3 ++ [p4] ++ [p5] → PlanB p := fun p hp => by
        rcases List.mem_append.mp hp with h | h
        · rcases List.mem_append.mp h with h | h
          · exact hall3 p h
          · rw [List.mem_singleton.mp h]
            exact hp4
        · rw [List.mem_singleton.mp h]
          exact hp5
      have hl7 : (ps3 ++ [p4] ++ [p5]).length = 7 := by rw [List.length_append, List.length_append, hl5]; rfl
      generalize ps3 ++ [p4] ++ [p5] = ps5 at hall5 hl7
      have fin : ∀ (e6 : En) , TSv F [.dv, .rp (TF K T), .rp (runR K ps ns br), .rp (ILL pl), .ow l, e5, e6, .no] [(l, obL (ps5.map ILL))] (tRet (tVar 4)) { nx := fun _ _ => S vN, rt := S } := fun e6 => ts_retO (i := 4) (j := 0) (by with_unfolding_all rfl) (by with_unfolding_all rfl) (hS ps5 (by omega) hall5)
      refine ts_seq (ts_if ?_)
      repeat o_readsAll
      refine rop_neD (d := .list (rowsD pl)) (e := .list []) (dr_z (dp_ls (dp_rows pl))) (dr_z (dp_ls trivial)) (rows_shaped pl) (by decide) ?_
      repeat o_readsAll
      rw [eqv_nil]
      refine ⟨fun hb => ?_, fun hb => ?_⟩
      · have hne : pl ≠ [] := fun z => by rw [z] at hb; revert hb; decide
        have hpos : 0 < pl.length := List.length_pos_iff.mpr hne
        repeat o_readsAll
        refine rop_neD (d := .list (ps.map PyData.int)) (e := .list []) (dr_z (dp_ls (dp_ints ps))) (dr_z (dp_ls trivial)) (ints_shaped ps) (by decide) ?_
        repeat o_readsAll
        rw [eqv_nil]
        refine ⟨fun hc => ?_, fun hc => ?_⟩
        · have hne2 : ps ≠ [] := fun z => by rw [z] at hc; revert hc; decide
          have hpos2 : 0 < ps.length := List.length_pos_iff.mpr hne2
          refine ts_seq (ts_rowsL (by show 7 < 8; decide) ?_)
          repeat o_readsAll
          refine ⟨_, pl, IL, .z _, rowP_L (K := K), by omega, fun lh ls hls => ?_⟩
          obtain ⟨l0, hl0⟩ : ∃ l0, ls[0]? = some l0 := ⟨ls[0]'(by omega), List.getElem?_eq_getElem (by omega)⟩
          obtain ⟨r0, hr0⟩ : ∃ r0, pl[0]? = some r0 := ⟨pl[0]'(by omega), List.getElem?_eq_getElem (by omega)⟩
          have hr0m := List.mem_of_getElem? hr0
          have hr0l := hrl r0 hr0m
          have hj0 : ((lh, obL (ls.map refR)) :: (zipR ls pl ++ [(l, obL (ps5.map ILL))]))[0 + 1]? = some (l0, obL (r0.map vI)) := by
            show (zipR ls pl ++ _)[0]? = _
            rw [List.getElem?_append_left (by unfold zipR; rw [List.length_zipWith]; omega)]
            exact zipR_get hl0 hr0
          refine ts_seq (ts_itemR ?_)
          repeat o_readsAll
          refine rop_ixE (l := .z) (SqLs.q sl_o0) (at_nat (i := 0) (by decide) (x := vE (.ref l0)) (by show (ls.map refR)[0]? = _; rw [List.getElem?_map, hl0]; rfl)) ?_
          refine ⟨l0, 0 + 1, r0.map vI, rfl, hj0, ?_⟩
          repeat o_readsAll
          refine ⟨-1, r0.length - 1, rfl, ?_, ?_⟩
          · rw [List.length_map]
            unfold ixN
            rw [if_neg (by decide), if_pos (by omega)]
            congr 1
            omega
          have hset : ((lh, obL (ls.map refR)) :: (zipR ls pl ++ [(l, obL (ps5.map ILL))])).set (0 + 1) (l0, obL ((r0.map vI).set (r0.length - 1) (vI 0))) = (lh, obL (ls.map refR)) :: (zipR ls (pl.set 0 (r0.set (r0.length - 1) 0)) ++ [(l, obL (ps5.map ILL))]) := by
            rw [List.set_cons_succ, List.set_append_left _ _ (by unfold zipR; rw [List.length_zipWith]; omega), ← List.map_set, zipR_set hl0]
          show TSv F _ (((lh, obL (ls.map refR)) :: (zipR ls pl ++ [(l, obL (ps5.map ILL))])).set (0 + 1) (l0, obL ((r0.map vI).set (r0.length - 1) (vI 0)))) _ _
          rw [hset]
          have hp6 : PlanB (pl.set 0 (r0.set (r0.length - 1) 0)) := ⟨by rw [List.length_set]; omega, fun row hm => by
            rcases List.mem_or_eq_of_mem_set hm with h | h
            · exact hpb.2 row h
            · rw [h]
              refine ⟨by rw [List.length_set]; omega, fun x hx => ?_⟩
              rcases List.mem_or_eq_of_mem_set hx with h | h
              · exact (hpb.2 r0 hr0m).2 x h
              · omega⟩
          have hls6 : ls.length = (pl.set 0 (r0.set (r0.length - 1) 0)).length := by rw [List.length_set]; exact hls
          generalize pl.set 0 (r0.set (r0.length - 1) 0) = p6 at hp6 hls6
          refine ts_freeRows (i := 6) hls6 (by with_unfolding_all rfl) ?_
          refine ts_app (i := 4) (j := 0) (by with_unfolding_all rfl) (by with_unfolding_all rfl) (by rw [List.length_map]; omega) ?_
          repeat o_readsAll
          show TSv F _ [(l, obL (ps5.map ILL ++ [ILL p6]))] _ _
          rw [show ps5.map ILL ++ [ILL p6] = (ps5 ++ [p6]).map ILL by simp]
          refine ts_retO (i := 4) (j := 0) (by with_unfolding_all rfl) (by with_unfolding_all rfl) (hS (ps5 ++ [p6]) (by rw [List.length_append]; simp; omega) fun p hp => ?_)
          rcases List.mem_append.mp hp with h | h
          · exact hall5 p h
          · rw [List.mem_singleton.mp h]
            exact hp6
        · refine ts_next ?_
          exact fin _
      · refine ⟨fun z => (nomatch z), fun _ => ts_next (fin _)⟩
end
theorem ts_perm {F : Fr} {Γ : List En} {μ μ1 : Mu} {ts : TS} {D : TD} (hp : μ.Perm μ1) (h : TSv F Γ μ1 ts D) : TSv F Γ μ ts D := fun σ Z H w e D' k => h σ Z H (w.perm hp.symm) e D' k
theorem ts_keepRows {F : Fr} {Γ : List En} {μ : Mu} {ts : TS} {D : TD} {lh : Addr} {ls : List Addr} {rows : List (List Int)} (hl : ls.length = rows.length) (h : TSv F Γ ((lh, obL (rows.map IL)) :: μ) ts D) : TSv F Γ ((lh, obL (ls.map refR)) :: (zipR ls rows ++ μ)) ts D := fun σ Z H w e D' k => by
  have w1 : Wd F (zipR ls rows ++ ((lh, obL (ls.map refR)) :: μ)) Z H := w.perm List.perm_middle
  obtain ⟨Z', z2, w4, al2⟩ := wd_freeZ ls rows hl w1
  obtain ⟨hz, hf, o, ho, vs, rfl, al⟩ := w4.own _ (List.mem_cons_self ..)
  have ev : vs = ls.map V.ref := Al.ofE (H := Z') (by rw [List.map_map]; exact al)
  refine h σ Z' H ⟨w4.fr, w4.al, w4.z0, w4.zf, w4.zh, fun q hq => ?_, w4.nd, w4.dev⟩ (e.mono z2) D' (k.mono z2)
  rcases List.mem_cons.mp hq with rfl | hq
  · exact ⟨hz, hf, _, ho, _, rfl, by rw [ev]; exact al2⟩
  · exact w4.own q (List.mem_cons_of_mem _ hq)
theorem papB_mono {M N : Int} {gs : List Int} {hs : List (List Int)} (h : PapB M gs hs) (l : M ≤ N) : PapB N gs hs := ⟨h.gl, h.hl, fun x hx => by have := h.gb x hx; omega, h.rl, fun r hr x hx => by have := h.rb r hr x hx; omega⟩
section
variable {P : Program} {w : World} {K : PySem.W.Frag} {mg : Str → Option Value} {base : Heap}

abbrev nLspoiledpaper : List Str := ["_law_d", "_law_paper", "_law_gains", "_law_heads", "_law_at", "_law_choice", "_law_more", "_law_state", "_law_row", "_law_head_here"]
theorem scLspoiledpaper : FnScope nLspoiledpaper ["_law_d", "_law_paper"] (defScope sLspoiledpaper) := ⟨rfl, rfl, rfl, by decide +kernel, rfl, by decide +kernel, by decide +kernel⟩
theorem ok_law_spoiled_paper (C : Ctx K mg) (g_law_draw : OkLdraw P w K mg base) : OkLspoiledpaper P w K mg base := by
  have sc := scLspoiledpaper
  refine C.fn (i := 53) rfl rfl sc (fun _ _ _ _ _ _ us hl => match us, hl with | [_, _], _ => rfl) (len_spD ?len) fun cdv A outer s H vs Q E hr h => ⟨_, (pss_cons (ps_set (i := 2) sc.nd rfl (Or.inl rfl) (pe_callTy call_list_of (by rfl) (C.f 70) (by decide +kernel) (pa_cons (pe_ix ix_seq (pv 1) pe_int (fun _ _ => rfl)) pa_nil))) (pss_cons (ps_setLc (i := 3) (own := [("_law_row", 8)]) rfl sc.nd rfl rfl (sw_true rfl rfl rfl (by decide +kernel)) (pi_tup (pe_ix ix_seq (pv 1) pe_int (fun _ _ => rfl))) (blkOk_by (own := [("_law_row", 8)]) (N := nLspoiledpaper) (sc := defScope sLspoiledpaper) (by decide +kernel)) (fun _ _ _ _ _ => pg_name (i := 8) sc.nd rfl (Or.inl rfl)) (fun _ _ _ _ _ => pts_nil) (fun _ _ _ _ _ => (pe_callTy (show CallR _ _ (rLstOf K) from call_list_of) (by rfl) (C.f 70) (by decide +kernel) (pa_cons (pv 8) pa_nil)))) (pss_cons (ps_if (pt_cmpR (op_eqD hr.units) (pv 2) (pe_lst pa_nil) (nomark _)) (pss_one (ps_ret (pe_tup (pa_cons (pe_tup (pa_cons pe_int pa_nil)) (pa_cons (pe_tup pa_nil) pa_nil))))) pss_nil) (pss_cons (ps_set (i := 4) sc.nd rfl (Or.inl rfl) (pe_fn g_law_draw (hr.mono (by decide)) rfl (pa_cons (pv 0) (pa_cons (pe_callB call_len_seq (by rfl) (C.f 69) PySem.boot_len (pa_cons (pv 2) pa_nil)) pa_nil)))) (pss_cons (ps_set (i := 5) sc.nd rfl (Or.inl rfl) (pe_fn g_law_draw (hr.mono (by decide)) rfl (pa_cons (pv 0) (pa_cons pe_int pa_nil)))) (pss_cons (ps_set (i := 6) sc.nd rfl (Or.inl rfl) (pe_ix ix_seq (pe_lst (pa_cons pe_int (pa_cons (pe_un un_neg pe_int) (pa_cons pe_int (pa_cons pe_int pa_nil))))) (pe_fn g_law_draw (hr.mono (by decide)) rfl (pa_cons (pv 0) (pa_cons pe_int pa_nil))) (fun _ _ => rfl))) (pss_cons (ps_if (pt_cmpR op_eq (pv 5) pe_int (nomark _)) (pss_one (ps_asg (pe_op op_add (pe_ix ix_seq (pv 2) (pv 4) (fun _ _ => rfl)) (pv 6)) (pg_sub (pv 2) (pv 4) set_list))) (pss_one (ps_if (pt_cmpR op_eq (pv 5) pe_int (nomark _)) (pss_cons (ps_set (i := 7) sc.nd rfl (Or.inl rfl) (pe_fn g_law_draw (hr.mono (by decide)) rfl (pa_cons (pv 0) (pa_cons (pe_callB call_len_seq (by rfl) (C.f 69) PySem.boot_len (pa_cons (pe_ix ix_seq (pv 3) (pv 4) (fun _ _ => rfl)) pa_nil)) pa_nil)))) (pss_one (ps_asg (pe_op op_add (pe_ix ix_seq (pe_ix ix_seq (pv 3) (pv 4) (fun _ _ => rfl)) (pv 7) (fun _ _ => rfl)) (pv 6)) (pg_sub (pe_ix ix_seq (pv 3) (pv 4) (fun _ _ => rfl)) (pv 7) set_list)))) (pss_one (ps_if (pt_cmpR op_eq (pv 5) pe_int (nomark _)) (pss_one (ps_expr (pe_bm0 PySem.F.plainAttrs_list PySem.F.slot_list_pop PySem.F.type_list_pop mt_pop (pv 2)))) (pss_one (ps_if (pt_cmpR op_eq (pv 5) pe_int (nomark _)) (pss_one (ps_expr (pe_bm PySem.F.plainAttrs_list PySem.F.slot_list_append PySem.F.type_list_append mt_append (pe_ix ix_seq (pv 3) (pv 4) (fun _ _ => rfl)) (pa_cons pe_int pa_nil)))) (pss_one (ps_asg (pe_lc (own := [("_law_head_here", 9)]) rfl sc.nd (pi_list (pe_ix ix_seq (pv 3) (pe_un un_neg pe_int) (fun _ _ => rfl))) (blkOk_by (own := [("_law_head_here", 9)]) (N := nLspoiledpaper) (sc := defScope sLspoiledpaper) (by decide +kernel)) (fun _ _ _ _ _ => pg_name (i := 9) sc.nd rfl (Or.inl rfl)) (fun _ _ _ _ _ => pts_nil) (fun _ _ _ _ _ => (pe_op op_sub (pv 9) pe_int))) (pg_sub (pv 3) (pe_un un_neg pe_int) set_list)))))))))) (pss_one (ps_ret (pe_tup (pa_cons (pe_callTy call_tuple_of (by rfl) (C.f 77) (by decide +kernel) (pa_cons (pv 2) pa_nil)) (pa_cons (pe_callTy call_tuple_of (by rfl) (C.f 77) (by decide +kernel) (pa_cons (pe_lc (own := [("_law_row", 8)]) rfl sc.nd (pi_list (pv 3)) (blkOk_by (own := [("_law_row", 8)]) (N := nLspoiledpaper) (sc := defScope sLspoiledpaper) (by decide +kernel)) (fun _ _ _ _ _ => pg_name (i := 8) sc.nd rfl (Or.inl rfl)) (fun _ _ _ _ _ => pts_nil) (fun _ _ _ _ _ => (pe_callTy (show CallR _ _ (rTupOf K) from call_tuple_of) (by rfl) (C.f 77) (by decide +kernel) (pa_cons (pv 8) pa_nil)))) pa_nil)) pa_nil)))))))))))), run_spD h ?body⟩
  case len => exact fun A S ⟨M, gs, hs, hA, hM, hb, hg50, hhl, hrw, hS⟩ => ⟨_, hA, rfl⟩
  case body =>
    refine fun A S ⟨M, gs, hs, hA, hM, hb, hg50, hhl, hrw, hS⟩ => ⟨_, hA, fun F dl hF => ?_⟩
    show TSv F [.dv, .bo _, .no, .no, .no, .no, .no, .no, .no, .no] [] _ _
    try simp only [cx_K, cx_K2]
    have hb2 := papB_mono (N := M + 200) hb (by omega)
    refine ts_seq (ts_setN (tn_cb ?_))
    repeat o_readsAll
    refine rn_listI (SqTs.q st_b) ?_
    intro lg
    refine ts_seq (ts_rowsT (K := K) (by show 8 < 10; decide) ?_)
    repeat o_readsAll
    refine ⟨_, hs, rowR K, .b _, rowP_T, by omega, fun lh ls hls => ?_⟩
    refine ts_seq (ts_if ?_)
    repeat o_readsAll
    refine rop_eqD (d := .list (gs.map PyData.int)) (e := .list []) (dr_o (j := hs.length + 1) (by show (zipR ls hs ++ [_])[hs.length]? = _; rw [List.getElem?_append_right (by unfold zipR; rw [List.length_zipWith]; omega), show hs.length - (zipR ls hs).length = 0 by unfold zipR; rw [List.length_zipWith]; omega]; rfl) (dp_ints gs)) (dr_z (dp_ls trivial)) (ints_shaped gs) (by decide) ?_
    repeat o_readsAll
    rw [eqv_nil]
    refine ⟨fun hc => ?_, fun hc => ?_⟩
    · repeat nest_cls
      exact hS [1] [] ⟨by decide, by decide, fun x hx => by rw [List.mem_singleton.mp hx]; omega, fun r hr => (nomatch hr), fun r hr => (nomatch hr)⟩
    · have hne : gs ≠ [] := fun z => by rw [z] at hc; revert hc; decide
      have hpos : 0 < gs.length := List.length_pos_iff.mpr hne
      refine ts_next ?_
      refine ts_perm (μ1 := (lg, obL (gs.map vI)) :: (lh, obL (ls.map refR)) :: zipR ls hs) (by
        refine (List.Perm.cons _ (List.perm_append_comm)).trans ?_
        exact List.Perm.swap ..) ?_
      refine ts_seq (ts_set ?_)
      repeat o_readsAll
      refine ⟨_, (by pre_facts), by omega, by omega, fun a ha0 ha1 => ?_⟩
      have haN : a.toNat < hs.length := by omega
      refine ts_seq (ts_set ?_)
      repeat o_readsAll
      refine ⟨_, (by pre_facts), by omega, by omega, fun ch hc0 hc1 => ?_⟩
      refine ts_seq (ts_set ?_)
      repeat o_readsAll
      refine ⟨([1, -1, 2, 100] : List Int).map vI, ⟨rfl, rfl, rfl, rfl, trivial⟩, by show 4 ≤ 100000; decide, ?_⟩
      repeat o_readsAll
      refine ⟨_, (by pre_facts), by omega, by omega, fun rm h3 h4 => ?_⟩
      repeat o_readsAll
      have hmm := gi_mem (ns := [1, -1, 2, 100]) h3 h4
      have hmore : -100 ≤ gi [1, -1, 2, 100] rm ∧ gi [1, -1, 2, 100] rm ≤ 100 := by
        simp only [List.mem_cons, List.not_mem_nil, or_false] at hmm
        omega
      generalize gi [1, -1, 2, 100] rm = more at hmore
      clear hmm
      refine ts_seq (ts_join (fun Γ1 μ1 => ∃ gs' hs' e4 e5 e6 e7 e8 e9, PapB (M + 200) gs' hs' ∧ Γ1 = [.dv, .bo (papR K gs hs), .ow lg, .ow lh, e4, e5, e6, e7, e8, e9] ∧ (μ1.Perm [(lh, obL (hs'.map IL)), (lg, obL (gs'.map vI))] ∨ ∃ ls, ls.length = hs'.length ∧ μ1.Perm ((lh, obL (ls.map refR)) :: (zipR ls hs' ++ [(lg, obL (gs'.map vI))])))) ?_ ?_)
      · have shape : ∀ (g : List Int) (h : List (List Int)), ((lg, obL (g.map vI)) :: (lh, obL (ls.map refR)) :: zipR ls h).Perm ((lh, obL (ls.map refR)) :: (zipR ls h ++ [(lg, obL (g.map vI))])) := fun g h => (List.Perm.swap ..).trans (List.Perm.cons _ (List.perm_append_comm (l₁ := [(lg, obL (g.map vI))]) (l₂ := zipR ls h)))
        obtain ⟨la, hla⟩ : ∃ la, ls[a.toNat]? = some la := ⟨ls[a.toNat]'(by omega), List.getElem?_eq_getElem (by omega)⟩
        obtain ⟨ra, hra⟩ : ∃ ra, hs[a.toNat]? = some ra := ⟨hs[a.toNat]'haN, List.getElem?_eq_getElem haN⟩
        have hram := List.mem_of_getElem? hra
        have hral := hrw ra hram
        have hja : ((lg, obL (gs.map vI)) :: (lh, obL (ls.map refR)) :: zipR ls hs)[a.toNat + 1 + 1]? = some (la, obL (ra.map vI)) := zipR_get hla hra
        have hat : atI (ls.map refR) a = some (vE (.ref la)) := at_nat ha0 (by rw [List.getElem?_map, hla]; rfl)
        have pset : ∀ r' : List Int, r'.length ≤ 100 → (∀ x, x ∈ r' → -(M + 200) ≤ x ∧ x ≤ M + 200) → PapB (M + 200) gs (hs.set a.toNat r') := fun r' h5 h6 => by
          refine ⟨hb2.gl, by rw [List.length_set]; exact hb2.hl, hb2.gb, fun r hr => ?_, fun r hr x hx => ?_⟩
          · rcases List.mem_or_eq_of_mem_set hr with h | h
            · exact hb2.rl r h
            · rw [h]; exact h5
          · rcases List.mem_or_eq_of_mem_set hr with h | h
            · exact hb2.rb r h x hx
            · rw [h] at hx; exact h6 x hx
        refine ts_if ?_
        repeat o_readsAll
        refine ⟨fun hd => ?_, fun hd => ?_⟩
        · refine ts_item (i := 2) (j := 0) (by with_unfolding_all rfl) (by with_unfolding_all rfl) ?_
          repeat o_readsAll
          refine ⟨a, a.toNat, rfl, ?_, ?_⟩
          · rw [List.length_map]
            conv => lhs; rw [show a = ((a.toNat : Nat) : Int) from (Int.toNat_of_nonneg ha0).symm]
            exact ixn_nat (by omega)
          · refine ⟨gs.set a.toNat (gi gs a + more), hs, _, _, _, _, _, _, ⟨by rw [List.length_set]; exact hb2.gl, hb2.hl, fun x hx => ?_, hb2.rl, hb2.rb⟩, rfl, .inr ⟨ls, hls, ?_⟩⟩
            · rcases List.mem_or_eq_of_mem_set hx with h | h
              · exact hb2.gb x h
              · have := hb.gb _ (gi_mem (ns := gs) ha0 (by omega))
                omega
            · show ((lg, obL ((gs.map vI).set a.toNat (vI (gi gs a + more)))) :: (lh, obL (ls.map refR)) :: zipR ls hs).Perm _
              rw [← List.map_set]
              exact shape _ hs
        · refine ts_if ?_
          repeat o_readsAll
          refine ⟨fun he => ?_, fun he => ?_⟩
          · refine ts_seq (ts_set ?_)
            repeat o_readsAll
            refine rop_ixE (l := .z) (SqLs.q sl_o1) hat ?_
            repeat o_readsAll
            refine rc_len (l := .z) (SqLs.q (sl_ref hja)) ?_
            rw [List.length_map]
            repeat o_readsAll
            refine ⟨_, (by pre_facts), by omega, by omega, fun st hs0 hs1 => ?_⟩
            refine ts_itemR ?_
            repeat o_readsAll
            refine rop_ixE (l := .z) (SqLs.q sl_o1) hat ?_
            repeat o_readsAll
            refine rop_ixE (l := .z) (SqLs.q (sl_ref hja)) (at_gi (i := st) hs0 (by omega)) ?_
            repeat o_readsAll
            refine rop_ixE (l := .z) (SqLs.q sl_o1) hat ?_
            refine ⟨la, a.toNat + 1 + 1, ra.map vI, rfl, hja, ?_⟩
            repeat o_readsAll
            refine ⟨st, st.toNat, rfl, ?_, ?_⟩
            · rw [List.length_map]
              conv => lhs; rw [show st = ((st.toNat : Nat) : Int) from (Int.toNat_of_nonneg hs0).symm]
              exact ixn_nat (by omega)
            · refine ⟨gs, hs.set a.toNat (ra.set st.toNat (gi ra st + more)), _, _, _, _, _, _, pset _ (by rw [List.length_set]; omega) (fun x hx => ?_), rfl, .inr ⟨ls, by rw [List.length_set]; exact hls, ?_⟩⟩
              · rcases List.mem_or_eq_of_mem_set hx with h | h
                · exact hb2.rb ra hram x h
                · have := hb.rb ra hram _ (gi_mem (ns := ra) hs0 (by omega))
                  omega
              · rw [List.set_cons_succ, List.set_cons_succ, ← List.map_set, zipR_set hla]
                exact shape gs _
          · refine ts_if ?_
            repeat o_readsAll
            refine ⟨fun hf => ?_, fun hf => ?_⟩
            · refine ts_pop (i := 2) (j := 0) (by with_unfolding_all rfl) (by with_unfolding_all rfl) (fun z => hne (List.map_eq_nil_iff.mp z)) ?_
              refine ⟨gs.dropLast, hs, _, _, _, _, _, _, ⟨by rw [List.length_dropLast]; have := hb2.gl; omega, hb2.hl, fun x hx => hb2.gb x (List.dropLast_subset _ hx), hb2.rl, hb2.rb⟩, rfl, .inr ⟨ls, hls, ?_⟩⟩
              show ((lg, obL ((gs.map vI).dropLast)) :: (lh, obL (ls.map refR)) :: zipR ls hs).Perm _
              rw [← List.map_dropLast]
              exact shape _ hs
            · refine ts_if ?_
              repeat o_readsAll
              refine ⟨fun hg => ?_, fun hg => ?_⟩
              · refine ts_appR ?_
                repeat o_readsAll
                refine rop_ixE (l := .z) (SqLs.q sl_o1) hat ?_
                refine ⟨la, a.toNat + 1 + 1, ra.map vI, rfl, hja, by rw [List.length_map]; omega, ?_⟩
                repeat o_readsAll
                refine ⟨gs, hs.set a.toNat (ra ++ [0]), _, _, _, _, _, _, pset _ (by rw [List.length_append]; simp; omega) (fun x hx => ?_), rfl, .inr ⟨ls, by rw [List.length_set]; exact hls, ?_⟩⟩
                · rcases List.mem_append.mp hx with h | h
                  · exact hb2.rb ra hram x h
                  · rw [List.mem_singleton.mp h]
                    omega
                · rw [List.set_cons_succ, List.set_cons_succ, show ra.map vI ++ [vI 0] = (ra ++ [0]).map vI by rw [List.map_append]; rfl, zipR_set hla]
                  exact shape gs _
              · refine ts_perm (shape gs hs) ?_
                refine ts_keepRows hls ?_
                have hh0 : 0 < hs.length := by omega
                have hatl : atI (hs.map IL) (-1) = some (IL (rowAt hs ((hs.length : Int) - 1))) := by
                  refine at_last ?_
                  rw [List.length_map, List.getElem?_map]
                  unfold rowAt
                  have e1 : ((hs.length : Int) - 1).toNat = hs.length - 1 := by omega
                  rw [e1, List.getElem?_eq_getElem (by omega), List.getD_eq_getElem?_getD, List.getElem?_eq_getElem (by omega)]
                  rfl
                have hlm := rowAt_mem (hs := hs) (i := (hs.length : Int) - 1) (by omega) (by omega)
                generalize rowAt hs ((hs.length : Int) - 1) = lr at hatl hlm
                refine ts_item (i := 3) (j := 0) (by with_unfolding_all rfl) (by with_unfolding_all rfl) ?_
                refine te_new (tn_fmL (α := Int) ?_)
                repeat o_readsAll
                refine rop_ix (SqLs.q sl_o0) hatl ?_
                have hlr := hb2.rl lr hlm
                refine ⟨_, lr, vI, fun _ => true, fun x => vI (x - 1), .z _, by omega, fun x hx L acc => ?_, ?_⟩
                · repeat o_readsAll
                  refine ⟨rfl, fun _ => ?_⟩
                  repeat o_readsAll
                  exact ⟨rfl, trivial⟩
                rw [filt_all]
                refine ⟨_, ⟨rfl, trivial⟩, ?_⟩
                repeat o_readsAll
                refine ⟨-1, hs.length - 1, rfl, ?_, ?_⟩
                · rw [List.length_map]
                  unfold ixN
                  rw [if_neg (by decide), if_pos (by omega)]
                  congr 1
                  omega
                · have em : LS (lr.map fun x => vI (x - 1)) = IL (lr.map fun x => x - 1) := by
                    show _ = LS _
                    rw [List.map_map]
                    rfl
                  refine ⟨gs, hs.set (hs.length - 1) (lr.map fun x => x - 1), _, _, _, _, _, _, ⟨hb2.gl, by rw [List.length_set]; exact hb2.hl, hb2.gb, fun r hr => ?_, fun r hr x hx => ?_⟩, rfl, .inl ?_⟩
                  · rcases List.mem_or_eq_of_mem_set hr with h | h
                    · exact hb2.rl r h
                    · rw [h, List.length_map]
                      exact hlr
                  · rcases List.mem_or_eq_of_mem_set hr with h | h
                    · exact hb2.rb r h x hx
                    · rw [h] at hx
                      obtain ⟨y, hy, rfl⟩ := List.mem_map.mp hx
                      have := hb.rb lr hlm y hy
                      omega
                  · rw [em]
                    show [(lh, obL ((hs.map IL).set (hs.length - 1) (IL (lr.map fun x => x - 1)))), (lg, obL (gs.map vI))].Perm _
                    rw [← List.map_set]
      · rintro Γ1 μ1 ⟨gs', hs', e4, e5, e6, e7, e8, e9, hb', rfl, hp⟩
        rcases hp with hp | ⟨ls2, hl2, hp⟩
        · refine ts_perm hp ?_
          refine ts_free (i := 3) (by with_unfolding_all rfl) (List.Perm.refl _) ?_
          refine ts_free (i := 2) (by with_unfolding_all rfl) (List.Perm.refl _) ?_
          refine ts_ret ?_
          repeat o_readsAll
          refine te_new (tn_fmL (α := List Int) ?_)
          repeat o_readsAll
          refine ⟨_, hs', IL, fun _ => true, rowR K, .z _, by have := hb'.hl; omega, fun r hm L acc => ?_, ?_⟩
          · repeat o_readsAll
            refine ⟨rfl, fun _ => ?_⟩
            repeat o_readsAll
            exact ⟨rfl, trivial⟩
          · rw [filt_all]
            repeat o_readsAll
            exact hS _ _ hb'
        · refine ts_perm hp ?_
          refine ts_keepRows hl2 ?_
          refine ts_free (i := 3) (by with_unfolding_all rfl) (List.Perm.refl _) ?_
          refine ts_free (i := 2) (by with_unfolding_all rfl) (List.Perm.refl _) ?_
          refine ts_ret ?_
          repeat o_readsAll
          refine te_new (tn_fmL (α := List Int) ?_)
          repeat o_readsAll
          refine ⟨_, hs', IL, fun _ => true, rowR K, .z _, by have := hb'.hl; omega, fun r hm L acc => ?_, ?_⟩
          · repeat o_readsAll
            refine ⟨rfl, fun _ => ?_⟩
            repeat o_readsAll
            exact ⟨rfl, trivial⟩
          · rw [filt_all]
            repeat o_readsAll
            exact hS _ _ hb'
end
theorem cut_mem3 {α : Type} {xs : List α} {lo hi : Option Int} {x : α} (h : x ∈ cutR xs lo hi) : x ∈ xs := List.mem_of_mem_drop (List.mem_of_mem_take h)
theorem cut_len3 {α : Type} (xs : List α) (lo hi : Option Int) : (cutR xs lo hi).length ≤ xs.length := by
  unfold cutR
  rw [List.length_take, List.length_drop]
  omega
theorem papB_mono3 {M N : Int} {gs : List Int} {hs : List (List Int)} (h : PapB M gs hs) (l : M ≤ N) : PapB N gs hs := ⟨h.gl, h.hl, fun x hx => by have := h.gb x hx; omega, h.rl, fun r hr x hx => by have := h.rb r hr x hx; omega⟩
theorem cut_mid3 {α : Type} (xs : List α) (y : α) {a : Int} (h0 : 0 ≤ a) (h1 : a < xs.length) : (cutR xs none (some a) ++ [y] ++ cutR xs (some (a + 1)) none).length = xs.length := by
  have e1 : HT.sIx xs.length xs.length (some a) = a.toNat := by
    show (if a < 0 then _ else min a.toNat xs.length) = _
    rw [if_neg (by omega)]
    omega
  have e2 : HT.sIx xs.length 0 (some (a + 1)) = a.toNat + 1 := by
    show (if a + 1 < 0 then _ else min (a + 1).toNat xs.length) = _
    rw [if_neg (by omega)]
    omega
  have e3 : HT.sIx xs.length 0 none = 0 := rfl
  have e4 : HT.sIx xs.length xs.length none = xs.length := rfl
  unfold cutR
  rw [e1, e2, e3, e4, List.length_append, List.length_append, List.length_take, List.length_drop, List.length_take, List.length_drop]
  simp only [List.length_cons, List.length_nil]
  omega
section
variable {P : Program} {w : World} {K : PySem.W.Frag} {mg : Str → Option Value} {base : Heap}

abbrev nLslack : List Str := ["_law_d", "_law_tariff_here", "_law_prices", "_law_breaks", "_law_needs", "_law_paper", "_law_gains", "_law_heads", "_law_at", "_law_state", "_law_free", "_law_less", "_law_trial", "_law_more", "_law_k", "_law_row"]
theorem scLslack : FnScope nLslack ["_law_d", "_law_tariff_here", "_law_prices", "_law_breaks", "_law_needs", "_law_paper"] (defScope sLslack) := ⟨rfl, rfl, rfl, by decide +kernel, rfl, by decide +kernel, by decide +kernel⟩
theorem ok_law_slack (C : Ctx K mg) (g_law_draw : OkLdraw P w K mg base) (g_law_states : OkLstates P w K mg base) (g_law_sound : OkLsound P w K mg base) : OkLslack P w K mg base := by
  have sc := scLslack
  refine C.fn (i := 56) rfl rfl sc (fun _ _ _ _ _ _ us hl => match us, hl with | [_, _, _, _, _, _], _ => rfl) (len_spDZ ?len) fun cdv A outer s H vs Q E hr h => ⟨_, (pss_cons (ps_if (pt_cmpR (op_eqD hr.units) (pe_ix ix_seq (pv 5) pe_int (fun _ _ => rfl)) (pe_tup pa_nil) (nomark _)) (pss_one (ps_ret (pv 5))) pss_nil) (pss_cons (ps_set (i := 6) sc.nd rfl (Or.inl rfl) (pe_callTy call_list_of (by rfl) (C.f 70) (by decide +kernel) (pa_cons (pe_ix ix_seq (pv 5) pe_int (fun _ _ => rfl)) pa_nil))) (pss_cons (ps_setLc (i := 7) (own := [("_law_row", 15)]) rfl sc.nd rfl rfl (sw_true rfl rfl rfl (by decide +kernel)) (pi_tup (pe_ix ix_seq (pv 5) pe_int (fun _ _ => rfl))) (blkOk_by (own := [("_law_row", 15)]) (N := nLslack) (sc := defScope sLslack) (by decide +kernel)) (fun _ _ _ _ _ => pg_name (i := 15) sc.nd rfl (Or.inl rfl)) (fun _ _ _ _ _ => pts_nil) (fun _ _ _ _ _ => (pe_callTy (show CallR _ _ (rLstOf K) from call_list_of) (by rfl) (C.f 70) (by decide +kernel) (pa_cons (pv 15) pa_nil)))) (pss_cons (ps_set (i := 8) sc.nd rfl (Or.inl rfl) (pe_fn g_law_draw (hr.mono (by decide)) rfl (pa_cons (pv 0) (pa_cons (pe_callB call_len_seq (by rfl) (C.f 69) PySem.boot_len (pa_cons (pv 6) pa_nil)) pa_nil)))) (pss_cons (ps_for PassesOwn.never rfl (pi_list (pe_fn g_law_states (hr.mono (by decide)) rfl (pa_cons (pv 1) (pa_cons (pv 3) (pa_cons (pv 8) pa_nil))))) (pg_name (i := 9) sc.nd rfl (Or.inl rfl)) (pss_cons (ps_set (i := 11) sc.nd rfl (Or.inl rfl) (pe_callTy call_list_of (by rfl) (C.f 70) (by decide +kernel) (pa_cons (pe_ix ix_seq (pv 7) (pv 8) (fun _ _ => rfl)) pa_nil))) (pss_cons (ps_asg (pe_op op_sub (pe_ix ix_seq (pv 11) (pv 9) (fun _ _ => rfl)) (pe_fn g_law_draw (hr.mono (by decide)) rfl (pa_cons (pv 0) (pa_cons pe_int pa_nil)))) (pg_sub (pv 11) (pv 9) set_list)) (pss_cons (ps_set (i := 12) sc.nd rfl (Or.inl rfl) (pe_op op_cat (pe_op op_cat (pe_slice sl_list (pv 7) po_none (po_some (pv 8))) (pe_lst (pa_cons (pv 11) pa_nil))) (pe_slice sl_list (pv 7) (po_some (pe_op op_add (pv 8) pe_int)) po_none))) (pss_one (ps_if (pt_val (pe_fn g_law_sound (hr.mono (by decide)) rfl (pa_cons (pv 1) (pa_cons (pv 2) (pa_cons (pv 3) (pa_cons (pe_tup (pa_cons (pv 6) (pa_cons (pv 12) pa_nil))) pa_nil)))))) (pss_one (ps_set (i := 7) sc.nd rfl (Or.inl rfl) (pv 12))) pss_nil)))))) (pss_cons (ps_setLc (i := 10) (own := [("_law_k", 14)]) rfl sc.nd rfl rfl (sw_true rfl rfl rfl (by decide +kernel)) (pi_range1 rfl (C.f 73) (pa_cons (pe_callB call_len_seq (by rfl) (C.f 69) PySem.boot_len (pa_cons (pv 6) pa_nil)) pa_nil)) (blkOk_by (own := [("_law_k", 14)]) (N := nLslack) (sc := defScope sLslack) (by decide +kernel)) (fun _ _ _ _ _ => pg_name (i := 14) sc.nd rfl (Or.inl rfl)) (fun _ _ _ _ _ => pts_one (pt_cmpR op_eq (pe_ix (show IxR _ (rIx K) from ix_seq) (pv 4) (pv 14) (fun _ _ => rfl)) pe_int (nomark _))) (fun _ _ _ _ _ => (pv 14))) (pss_cons (ps_if (pt_cmpR (op_neD hr.units) (pv 10) (pe_lst pa_nil) (nomark _)) (pss_cons (ps_set (i := 13) sc.nd rfl (Or.inl rfl) (pe_callTy call_list_of (by rfl) (C.f 70) (by decide +kernel) (pa_cons (pv 6) pa_nil))) (pss_cons (ps_set (i := 14) sc.nd rfl (Or.inl rfl) (pe_ix ix_seq (pv 10) (pe_fn g_law_draw (hr.mono (by decide)) rfl (pa_cons (pv 0) (pa_cons (pe_callB call_len_seq (by rfl) (C.f 69) PySem.boot_len (pa_cons (pv 10) pa_nil)) pa_nil))) (fun _ _ => rfl))) (pss_cons (ps_asg (pe_op op_add (pe_ix ix_seq (pv 13) (pv 14) (fun _ _ => rfl)) (pe_fn g_law_draw (hr.mono (by decide)) rfl (pa_cons (pv 0) (pa_cons pe_int pa_nil)))) (pg_sub (pv 13) (pv 14) set_list)) (pss_one (ps_if (pt_val (pe_fn g_law_sound (hr.mono (by decide)) rfl (pa_cons (pv 1) (pa_cons (pv 2) (pa_cons (pv 3) (pa_cons (pe_tup (pa_cons (pv 13) (pa_cons (pv 7) pa_nil))) pa_nil)))))) (pss_one (ps_set (i := 6) sc.nd rfl (Or.inl rfl) (pv 13))) pss_nil))))) pss_nil) (pss_one (ps_ret (pe_tup (pa_cons (pe_callTy call_tuple_of (by rfl) (C.f 77) (by decide +kernel) (pa_cons (pv 6) pa_nil)) (pa_cons (pe_callTy call_tuple_of (by rfl) (C.f 77) (by decide +kernel) (pa_cons (pe_lc (own := [("_law_row", 15)]) rfl sc.nd (pi_list (pv 7)) (blkOk_by (own := [("_law_row", 15)]) (N := nLslack) (sc := defScope sLslack) (by decide +kernel)) (fun _ _ _ _ _ => pg_name (i := 15) sc.nd rfl (Or.inl rfl)) (fun _ _ _ _ _ => pts_nil) (fun _ _ _ _ _ => (pe_callTy (show CallR _ _ (rTupOf K) from call_tuple_of) (by rfl) (C.f 77) (by decide +kernel) (pa_cons (pv 15) pa_nil)))) pa_nil)) pa_nil)))))))))))), run_spDZ h ?body⟩
  case len => exact fun A S ⟨M, T, ps, ns, br, gs, hs, hA, ok, rl, hM, hb, sz, hS⟩ => ⟨_, hA, rfl⟩
  case body =>
    refine fun A S ⟨M, T, ps, ns, br, gs, hs, hA, ok, rl, hM, hb, sz, hS⟩ => ⟨_, hA, fun F dl hF => ?_⟩
    show TSv F [.dv, .rp _, .rp _, .rp _, .rp _, .rp _, .no, .no, .no, .no, .no, .no, .no, .no, .no, .no] [] _ _
    try simp only [cx_K, cx_K2]
    have hle := ok.le
    have hlen := rl.len
    have hnl := rl.ok.len
    obtain ⟨hgl, hhl, hrows⟩ := sz
    refine ts_seq (ts_if ?_)
    repeat o_readsAll
    refine rop_eqD (d := .tuple (gs.map PyData.int)) (e := .tuple []) (dr_z (dp_tp (dp_ints gs))) (dr_z (dp_tp trivial)) (intsT_shaped gs) (by decide) ?_
    repeat o_readsAll
    rw [eqvT_nil]
    refine ⟨fun hc => ?_, fun hc => ?_⟩
    · repeat nest_cls
      exact hS gs hs (papB_mono3 hb (by omega))
    have hne : gs ≠ [] := fun z => by rw [z] at hc; revert hc; decide
    have hpos : 0 < gs.length := List.length_pos_iff.mpr hne
    refine ts_next ?_
    refine ts_seq (ts_set ?_)
    repeat o_readsAll
    refine rc_listI2 (l := .z) (SqTs.q st_z) ?_
    refine ts_seq (ts_set (te_new (tn_fmT (α := List Int) ?_)))
    repeat o_readsAll
    refine ⟨_, hs, rowR K, fun _ => true, IL, .z _, by omega, fun r hm L acc => ?_, ?_⟩
    · repeat o_readsAll
      refine ⟨rfl, fun _ => ?_⟩
      repeat o_readsAll
      refine rc_listI (SqTs.q st_z) ?_
      exact ⟨rfl, trivial⟩
    rw [filt_all]
    refine ts_seq (ts_set ?_)
    repeat o_readsAll
    refine ⟨_, (by pre_facts), by omega, by omega, fun a ha0 ha1 => ?_⟩
    refine ts_seq (ts_forL ?_)
    repeat o_readsAll
    refine ⟨T, br, a, ⟨cv_z Rp.Le.rfl, cv_z Rp.Le.rfl, cv_z Rp.Le.rfl, trivial⟩, ok, ?_⟩
    refine ⟨_, _, .z _, fun j Γ1 μ1 => ∃ (h : List (List Int)) (e9 e11 e12 : En) (μ2 : Mu), h.length = hs.length ∧ (∀ r, r ∈ h → r.length = T.rates.length + 1) ∧ PapB (M + 2 * j) gs h ∧ Γ1 = [.dv, .rp (TF K T), .rp (IL ps), .rp (IL br), .rp (IL ns), .rp (papR K gs hs), .rp (IL gs), .rp (ILL h), .rp (vI a), e9, .no, e11, e12, .no, .no, .no] ∧ μ1 = [], ⟨hs, _, _, _, [], rfl, hrows, papB_mono3 hb (by omega), rfl, rfl⟩, ?_, ?_⟩
    · rintro j Γ1 μ1 R hR ⟨h, e9, e11, e12, μ2, hhl2, hr2, hb2, rfl, rfl⟩
      obtain ⟨s, hs1, rfl⟩ := at_mapF hR
      have hsr := statesIn_range (List.mem_of_getElem? hs1)
      have hrm := rowAt_mem (hs := h) (i := a) ha0 (by omega)
      have hrl := hr2 _ hrm
      refine tg_name ?_
      refine ts_seq (ts_setN (tn_cb ?_))
      repeat o_readsAll
      refine rn_listI (SqLs.q sl_z) ?_
      intro lw
      refine ts_seq (ts_item (i := 11) (j := 0) (by with_unfolding_all rfl) (by with_unfolding_all rfl) ?_)
      repeat o_readsAll
      refine ⟨_, (by pre_facts), by omega, by omega, fun r h1 h2 => ?_⟩
      repeat o_readsAll
      refine ⟨s, s.toNat, rfl, ?_, ?_⟩
      · rw [List.length_map]
        conv => lhs; rw [show s = ((s.toNat : Nat) : Int) from (Int.toNat_of_nonneg hsr.1).symm]
        exact ixn_nat (by omega)
      have hcell := hb2.rb _ hrm _ (gi_mem (ns := rowAt h a) hsr.1 (by omega))
      have hless : ∀ x, x ∈ (rowAt h a).set s.toNat (gi (rowAt h a) s - r) → -(M + 2 * ((j + 1 : Nat) : Int)) ≤ x ∧ x ≤ M + 2 * ((j + 1 : Nat) : Int) := fun x hx => by
        rcases List.mem_or_eq_of_mem_set hx with hx | hx
        · have := hb2.rb _ hrm x hx
          omega
        · omega
      have hlessl : ((rowAt h a).set s.toNat (gi (rowAt h a) s - r)).length = T.rates.length + 1 := by rw [List.length_set]; exact hrl
      show TSv F _ [(lw, obL (((rowAt h a).map vI).set s.toNat (vI (gi (rowAt h a) s - r))))] _ _
      rw [← List.map_set]
      generalize (rowAt h a).set s.toNat (gi (rowAt h a) s - r) = less at hless hlessl
      refine ts_free (i := 11) (by with_unfolding_all rfl) (List.Perm.refl _) ?_
      refine ts_seq (ts_set ?_)
      repeat o_readsAll
      refine te_new (tn_slZ ?_)
      repeat o_readsAll
      refine ⟨_, sl_z, ?_⟩
      repeat o_readsAll
      refine rop_cat sl_z sl_z (by have := cut_len3 (h.map IL) none (some a); rw [List.length_map] at this; simp only [List.length_cons, List.length_nil]; omega) ?_
      refine te_new (tn_slZ ?_)
      repeat o_readsAll
      refine ⟨_, sl_z, ?_⟩
      refine rop_cat sl_z sl_z (by have h1 := cut_len3 (h.map IL) none (some a); have h2 := cut_len3 (h.map IL) (some (a + 1)) none; rw [List.length_map] at h1 h2; rw [List.length_append]; simp only [List.length_cons, List.length_nil]; omega) ?_
      rw [cut_map, cut_map, show [LS (less.map vI)] = [less].map IL from rfl, ← List.map_append, ← List.map_append]
      have htl : (cutR h none (some a) ++ [less] ++ cutR h (some (a + 1)) none).length = hs.length := by
        rw [cut_mid3 h less ha0 (by omega)]
        exact hhl2
      have htm : ∀ q, q ∈ cutR h none (some a) ++ [less] ++ cutR h (some (a + 1)) none → q ∈ h ∨ q = less := fun q hq => by
        rcases List.mem_append.mp hq with hq | hq
        · rcases List.mem_append.mp hq with hq | hq
          · exact .inl (cut_mem3 hq)
          · exact .inr (List.mem_singleton.mp hq)
        · exact .inl (cut_mem3 hq)
      generalize cutR h none (some a) ++ [less] ++ cutR h (some (a + 1)) none = tr at htl htm
      have hbj : PapB (M + 2 * ((j + 1 : Nat) : Int)) gs h := papB_mono3 hb2 (by push_cast; omega)
      refine ts_if ?_
      repeat o_readsAll
      refine ⟨T, ps, br, gs, tr, ⟨cv_z Rp.Le.rfl, cv_z Rp.Le.rfl, cv_z Rp.Le.rfl, cv_z le_lp, trivial⟩, ok, by omega, by omega, by omega, fun b hbb => ?_⟩
      repeat o_readsAll
      refine ⟨fun hd => ?_, fun hd => ?_⟩
      · refine ts_set ?_
        repeat o_readsAll
        refine ⟨tr, _, _, _, [], htl, fun r hr => ?_, ⟨hb2.gl, by rw [htl]; exact hb.hl, hbj.gb, fun r hr => ?_, fun r hr x hx => ?_⟩, rfl, rfl⟩
        · rcases htm r hr with h | h
          · exact hr2 r h
          · rw [h]; exact hlessl
        · rcases htm r hr with h | h
          · exact hb2.rl r h
          · rw [h, hlessl]; omega
        · rcases htm r hr with h | h
          · exact hbj.rb r h x hx
          · rw [h] at hx; exact hless x hx
      · refine ts_next ?_
        exact ⟨h, _, _, _, [], hhl2, hr2, hbj, rfl, rfl⟩
    · rintro Γ1 μ1 ⟨h, e9, e11, e12, μ2, hhl2, hr2, hb2, rfl, rfl⟩
      have hsl := statesIn_le ok br a
      rw [List.length_map] at hb2
      have hbF : PapB (M + 10) gs h := papB_mono3 hb2 (by omega)
      refine ts_seq (ts_set (te_new (tn_fmR ?_)))
      repeat o_readsAll
      refine ⟨_, fun n => decide (gi ns n = 0), fun n => vI n, rfl, by omega, by omega, fun n hn L acc => ?_, ?_⟩
      · repeat o_readsAll
        refine ⟨rfl, fun _ => ?_⟩
        repeat o_readsAll
        exact ⟨rfl, trivial⟩
      have efr : ((List.range ((gs.length : Nat) : Int).toNat).filter fun (n : Nat) => decide (gi ns n = 0)).map (fun (n : Nat) => vI (n : Nat)) = ((((List.range gs.length).filter fun (n : Nat) => decide (gi ns n = 0)).map fun (n : Nat) => (n : Int))).map vI := by
        rw [Int.toNat_natCast, List.map_map]
        rfl
      rw [efr]
      have hfr : ∀ x, x ∈ (((List.range gs.length).filter fun (n : Nat) => decide (gi ns n = 0)).map fun (n : Nat) => (n : Int)) → 0 ≤ x ∧ x < gs.length := fun x hx => by
        obtain ⟨n, hn, rfl⟩ := List.mem_map.mp hx
        have := List.mem_range.mp (List.mem_filter.mp hn).1
        omega
      have hfl : (((List.range gs.length).filter fun (n : Nat) => decide (gi ns n = 0)).map fun (n : Nat) => (n : Int)).length ≤ 100 := by
        rw [List.length_map]
        have h1 : ((List.range gs.length).filter fun (n : Nat) => decide (gi ns n = 0)).length ≤ (List.range gs.length).length := List.length_filter_le ..
        rw [List.length_range] at h1
        omega
      generalize (((List.range gs.length).filter fun (n : Nat) => decide (gi ns n = 0)).map fun (n : Nat) => (n : Int)) = fr at hfr hfl
      refine ts_seq (ts_if ?_)
      repeat o_readsAll
      refine rop_neD (d := .list (fr.map PyData.int)) (e := .list []) (dr_z (dp_ls (dp_ints fr))) (dr_z (dp_ls trivial)) (ints_shaped fr) (by decide) ?_
      repeat o_readsAll
      rw [eqv_nil]
      refine ⟨fun hd => ?_, fun hd => ?_⟩
      · have hfne : fr ≠ [] := fun z => by rw [z] at hd; revert hd; decide
        have hfpos : 0 < fr.length := List.length_pos_iff.mpr hfne
        refine ts_seq (ts_setN (tn_cb ?_))
        repeat o_readsAll
        refine rn_listI (SqLs.q sl_z) ?_
        intro lm
        refine ts_seq (ts_set ?_)
        repeat o_readsAll
        refine ⟨_, (by pre_facts), by omega, by omega, fun r h1 h2 => ?_⟩
        repeat o_readsAll
        have hk := hfr _ (gi_mem (ns := fr) h1 (by omega))
        generalize gi fr r = kk at hk
        refine ts_seq (ts_item (i := 13) (j := 0) (by with_unfolding_all rfl) (by with_unfolding_all rfl) ?_)
        repeat o_readsAll
        refine ⟨_, (by pre_facts), by omega, by omega, fun r2 h3 h4 => ?_⟩
        repeat o_readsAll
        refine ⟨kk, kk.toNat, rfl, ?_, ?_⟩
        · rw [List.length_map]
          conv => lhs; rw [show kk = ((kk.toNat : Nat) : Int) from (Int.toNat_of_nonneg hk.1).symm]
          exact ixn_nat (by omega)
        show TSv F _ [(lm, obL ((gs.map vI).set kk.toNat (vI (gi gs kk + r2))))] _ _
        rw [← List.map_set]
        have hgk := hb.gb _ (gi_mem (ns := gs) hk.1 hk.2)
        have hmg : ∀ x, x ∈ gs.set kk.toNat (gi gs kk + r2) → -(M + 200) ≤ x ∧ x ≤ M + 200 := fun x hx => by
          rcases List.mem_or_eq_of_mem_set hx with hx | hx
          · have := hb.gb x hx
            omega
          · omega
        have hml : (gs.set kk.toNat (gi gs kk + r2)).length = gs.length := by rw [List.length_set]
        generalize gs.set kk.toNat (gi gs kk + r2) = mg at hmg hml
        refine ts_free (i := 13) (by with_unfolding_all rfl) (List.Perm.refl _) ?_
        refine ts_if ?_
        repeat o_readsAll
        refine ⟨T, ps, br, mg, h, ⟨cv_z Rp.Le.rfl, cv_z Rp.Le.rfl, cv_z Rp.Le.rfl, cv_z le_lp, trivial⟩, ok, by omega, by omega, by omega, fun b hbb => ?_⟩
        repeat o_readsAll
        have hbF2 := papB_mono3 (N := M + 200) hbF (by omega)
        refine ⟨fun he => ?_, fun he => ?_⟩
        · refine ts_set ?_
          repeat o_readsAll
          refine ts_ret ?_
          repeat o_readsAll
          refine te_new (tn_fmL (α := List Int) ?_)
          repeat o_readsAll
          refine ⟨_, h, IL, fun _ => true, rowR K, .z _, by omega, fun r hm L acc => ?_, ?_⟩
          · repeat o_readsAll
            refine ⟨rfl, fun _ => ?_⟩
            repeat o_readsAll
            exact ⟨rfl, trivial⟩
          · rw [filt_all]
            repeat o_readsAll
            exact hS _ _ ⟨by omega, hbF2.hl, hmg, hbF2.rl, hbF2.rb⟩
        · refine ts_next ?_
          refine ts_ret ?_
          repeat o_readsAll
          refine te_new (tn_fmL (α := List Int) ?_)
          repeat o_readsAll
          refine ⟨_, h, IL, fun _ => true, rowR K, .z _, by omega, fun r hm L acc => ?_, ?_⟩
          · repeat o_readsAll
            refine ⟨rfl, fun _ => ?_⟩
            repeat o_readsAll
            exact ⟨rfl, trivial⟩
          · rw [filt_all]
            repeat o_readsAll
            exact hS _ _ hbF2
      · refine ts_next ?_
        have hbF2 := papB_mono3 (N := M + 200) hbF (by omega)
        have dummy : True := trivial
        refine ts_ret ?_
        repeat o_readsAll
        refine te_new (tn_fmL (α := List Int) ?_)
        repeat o_readsAll
        refine ⟨_, h, IL, fun _ => true, rowR K, .z _, by omega, fun r hm L acc => ?_, ?_⟩
        · repeat o_readsAll
          refine ⟨rfl, fun _ => ?_⟩
          repeat o_readsAll
          exact ⟨rfl, trivial⟩
        · rw [filt_all]
          repeat o_readsAll
          exact hS _ _ hbF2
end
theorem papB_monoA {M N : Int} {gs : List Int} {hs : List (List Int)} (h : PapB M gs hs) (l : M ≤ N) : PapB N gs hs := ⟨h.gl, h.hl, fun x hx => by have := h.gb x hx; omega, h.rl, fun r hr x hx => by have := h.rb r hr x hx; omega⟩
/-- how low the least head can be -/
theorem least_lower {T : Tar} (o : T.Ok) {ps br gs : List Int} {hs : List (List Int)} {k s B G : Int} (hk0 : 0 ≤ k) (hkp : k < ps.length) (hkg : k < gs.length) (hkh : k ≤ hs.length) (hp : 0 ≤ gi ps k) (hB : 0 ≤ B) (hG : 0 ≤ G) (hg : ∀ x, x ∈ gs → x ≤ G)
    (hrow : ∀ r, r ∈ hs → r.length = T.rates.length + 1) (hc : k ≠ 0 → ∀ x, x ∈ rowAt hs (k - 1) → -B ≤ x) (hin : s ∈ statesIn T br k) : -(B + G) ≤ leastAt T ps br gs hs k s := by
  have hsr := statesIn_range hin
  have hne := cands_ne (hs := hs) (own := netC T ps gs k s) hin
  have hm := minL_mem hne
  unfold leastAt
  unfold cands at hm ⊢
  obtain ⟨q, hq, e⟩ := List.mem_filterMap.mp hm
  cases hst : T.step q.1 s with
  | none => rw [hst] at e; cases e
  | some c =>
    rw [hst] at e
    simp only [Option.map_some, Option.some.injEq] at e
    rw [← e]
    have hqr := hBefore_off hq
    have hc0 : 0 ≤ c := by
      have := step_nonneg o (a := s) hqr.2 hqr.1
      rw [hst] at this
      exact this
    have hq2 : -B ≤ q.2 := by
      unfold hBefore at hq
      split at hq
      · rw [List.mem_singleton.mp hq]
        show -B ≤ (0 : Int)
        omega
      · rename_i hk
        obtain ⟨st, hs1, rfl⟩ := List.mem_map.mp hq
        have hsr2 := statesIn_range hs1
        have hrm := rowAt_mem (hs := hs) (i := k - 1) (by omega) (by omega)
        have := hrow _ hrm
        exact hc hk _ (gi_mem (ns := rowAt hs (k - 1)) hsr2.1 (by omega))
    have hr := o.rate hsr.1 hsr.2
    have hprod := Int.mul_nonneg hr.1 hp
    have hgk := hg _ (gi_mem (ns := gs) hk0 hkg)
    have hnet : -G ≤ netC T ps gs k s := by
      unfold netC
      split <;> omega
    omega
theorem ts_permA {F : Fr} {Γ : List En} {μ μ1 : Mu} {ts : TS} {D : TD} (hp : μ.Perm μ1) (h : TSv F Γ μ1 ts D) : TSv F Γ μ ts D := fun σ Z H w e D' k => h σ Z H (w.perm hp.symm) e D' k
theorem rowAt_set {rows : List (List Int)} {k : Nat} {r : List Int} (h : k < rows.length) : rowAt (rows.set k r) k = r := by
  unfold rowAt
  rw [Int.toNat_natCast, List.getD_eq_getElem?_getD, List.getElem?_set, if_pos rfl, if_pos h]
  rfl
theorem rowAt_set_ne {rows : List (List Int)} {k : Nat} {r : List Int} (h : 1 ≤ k) : rowAt (rows.set k r) ((k : Int) - 1) = rowAt rows ((k : Int) - 1) := by
  unfold rowAt
  rw [List.getD_eq_getElem?_getD, List.getD_eq_getElem?_getD, List.getElem?_set, if_neg (by omega)]
theorem set_rowAt {rows : List (List Int)} {k : Nat} (h : k < rows.length) : rows.set k (rowAt rows k) = rows := by
  unfold rowAt
  rw [Int.toNat_natCast, List.getD_eq_getElem?_getD, List.getElem?_eq_getElem h]
  exact List.set_getElem_self h
section
variable {P : Program} {w : World} {K : PySem.W.Frag} {mg : Str → Option Value} {base : Heap}

abbrev nLfollowed : List Str := ["_law_d", "_law_tariff_here", "_law_prices", "_law_breaks", "_law_paper", "_law_at", "_law_gains", "_law_heads", "_law_k", "_law_state", "_law_row"]
theorem scLfollowed : FnScope nLfollowed ["_law_d", "_law_tariff_here", "_law_prices", "_law_breaks", "_law_paper"] (defScope sLfollowed) := ⟨rfl, rfl, rfl, by decide +kernel, rfl, by decide +kernel, by decide +kernel⟩
theorem ok_law_followed (C : Ctx K mg) (g_law_draw : OkLdraw P w K mg base) (g_law_states : OkLstates P w K mg base) (g_law_head : OkLhead P w K mg base) : OkLfollowed P w K mg base := by
  have sc := scLfollowed
  refine C.fn (i := 55) rfl rfl sc (fun _ _ _ _ _ _ us hl => match us, hl with | [_, _, _, _, _], _ => rfl) (len_spDZ ?len) fun cdv A outer s H vs Q E hr h => ⟨_, (pss_cons (ps_if (pt_cmpR (op_eqD hr.units) (pe_ix ix_seq (pv 4) pe_int (fun _ _ => rfl)) (pe_tup pa_nil) (nomark _)) (pss_one (ps_ret (pv 4))) pss_nil) (pss_cons (ps_set (i := 5) sc.nd rfl (Or.inl rfl) (pe_fn g_law_draw (hr.mono (by decide)) rfl (pa_cons (pv 0) (pa_cons (pe_callB call_len_seq (by rfl) (C.f 69) PySem.boot_len (pa_cons (pe_ix ix_seq (pv 4) pe_int (fun _ _ => rfl)) pa_nil)) pa_nil)))) (pss_cons (ps_set (i := 6) sc.nd rfl (Or.inl rfl) (pe_callTy call_list_of (by rfl) (C.f 70) (by decide +kernel) (pa_cons (pe_ix ix_seq (pv 4) pe_int (fun _ _ => rfl)) pa_nil))) (pss_cons (ps_setLc (i := 7) (own := [("_law_row", 10)]) rfl sc.nd rfl rfl (sw_true rfl rfl rfl (by decide +kernel)) (pi_tup (pe_ix ix_seq (pv 4) pe_int (fun _ _ => rfl))) (blkOk_by (own := [("_law_row", 10)]) (N := nLfollowed) (sc := defScope sLfollowed) (by decide +kernel)) (fun _ _ _ _ _ => pg_name (i := 10) sc.nd rfl (Or.inl rfl)) (fun _ _ _ _ _ => pts_nil) (fun _ _ _ _ _ => (pe_callTy (show CallR _ _ (rLstOf K) from call_list_of) (by rfl) (C.f 70) (by decide +kernel) (pa_cons (pv 10) pa_nil)))) (pss_cons (ps_asg (pe_op op_add (pe_op op_add (pe_ix ix_seq (pv 6) (pv 5) (fun _ _ => rfl)) pe_int) (pe_fn g_law_draw (hr.mono (by decide)) rfl (pa_cons (pv 0) (pa_cons pe_int pa_nil)))) (pg_sub (pv 6) (pv 5) set_list)) (pss_cons (ps_for PassesOwn.never rfl (pi_range2 (by rfl) (C.f 73) (pa_cons (pv 5) (pa_cons (pe_callB call_len_seq (by rfl) (C.f 69) PySem.boot_len (pa_cons (pv 6) pa_nil)) pa_nil))) (pg_name (i := 8) sc.nd rfl (Or.inl rfl)) (pss_one (ps_for PassesOwn.never rfl (pi_list (pe_fn g_law_states (hr.mono (by decide)) rfl (pa_cons (pv 1) (pa_cons (pv 3) (pa_cons (pv 8) pa_nil))))) (pg_name (i := 9) sc.nd rfl (Or.inl rfl)) (pss_one (ps_if (pt_cmpR op_ne (pv 9) (pe_callB call_len_seq (by rfl) (C.f 69) PySem.boot_len (pa_cons (pe_ix ix_seq (pv 1) pe_int (fun _ _ => rfl)) pa_nil)) (nomark _)) (pss_one (ps_asg (pe_callB (call_min2 rfl) (by rfl) (C.f 72) (by decide +kernel) (pa_cons (pe_ix ix_seq (pe_ix ix_seq (pv 7) (pv 8) (fun _ _ => rfl)) (pv 9) (fun _ _ => rfl)) (pa_cons (pe_fn g_law_head (hr.mono (by decide)) rfl (pa_cons (pv 1) (pa_cons (pv 2) (pa_cons (pv 3) (pa_cons (pe_tup (pa_cons (pv 6) (pa_cons (pv 7) pa_nil))) (pa_cons (pv 8) (pa_cons (pv 9) pa_nil))))))) pa_nil))) (pg_sub (pe_ix ix_seq (pv 7) (pv 8) (fun _ _ => rfl)) (pv 9) set_list))) pss_nil))))) (pss_one (ps_ret (pe_tup (pa_cons (pe_callTy call_tuple_of (by rfl) (C.f 77) (by decide +kernel) (pa_cons (pv 6) pa_nil)) (pa_cons (pe_callTy call_tuple_of (by rfl) (C.f 77) (by decide +kernel) (pa_cons (pe_lc (own := [("_law_row", 10)]) rfl sc.nd (pi_list (pv 7)) (blkOk_by (own := [("_law_row", 10)]) (N := nLfollowed) (sc := defScope sLfollowed) (by decide +kernel)) (fun _ _ _ _ _ => pg_name (i := 10) sc.nd rfl (Or.inl rfl)) (fun _ _ _ _ _ => pts_nil) (fun _ _ _ _ _ => (pe_callTy (show CallR _ _ (rTupOf K) from call_tuple_of) (by rfl) (C.f 77) (by decide +kernel) (pa_cons (pv 10) pa_nil)))) pa_nil)) pa_nil))))))))))), run_spDZ h ?body⟩
  case len => exact fun A S ⟨M, T, ps, ns, br, gs, hs, hA, ok, rl, hM, hb, sz, hS⟩ => ⟨_, hA, rfl⟩
  case body =>
    refine fun A S ⟨M, T, ps, ns, br, gs, hs, hA, ok, rl, hM, hb, sz, hS⟩ => ⟨_, hA, fun F dl hF => ?_⟩
    show TSv F [.dv, .rp _, .rp _, .rp _, .rp _, .no, .no, .no, .no, .no, .no] [] _ _
    try simp only [cx_K, cx_K2]
    have hle := ok.le
    have hlen := rl.len
    obtain ⟨hgl, hhl, hrows⟩ := sz
    refine ts_seq (ts_if ?_)
    repeat o_readsAll
    refine rop_eqD (d := .tuple (gs.map PyData.int)) (e := .tuple []) (dr_z (dp_tp (dp_ints gs))) (dr_z (dp_tp trivial)) (intsT_shaped gs) (by decide) ?_
    repeat o_readsAll
    rw [eqvT_nil]
    refine ⟨fun hc => ?_, fun hc => ?_⟩
    · repeat nest_cls
      exact hS gs hs (papB_monoA hb (by omega))
    have hne : gs ≠ [] := fun z => by rw [z] at hc; revert hc; decide
    have hpos : 0 < gs.length := List.length_pos_iff.mpr hne
    refine ts_next ?_
    refine ts_seq (ts_set ?_)
    repeat o_readsAll
    refine ⟨_, (by pre_facts), by omega, by omega, fun a ha0 ha1 => ?_⟩
    refine ts_seq (ts_setN (tn_cb ?_))
    repeat o_readsAll
    refine rn_listI (SqTs.q st_z) ?_
    intro lg
    refine ts_seq (ts_rowsT (K := K) (by show 10 < 11; decide) ?_)
    repeat o_readsAll
    refine ⟨_, hs, rowR K, .z _, rowP_T, by omega, fun lh ls hls => ?_⟩
    refine ts_permA (μ1 := (lg, obL (gs.map vI)) :: (lh, obL (ls.map refR)) :: zipR ls hs) (by
      refine (List.Perm.cons _ (List.perm_append_comm)).trans ?_
      exact List.Perm.swap ..) ?_
    refine ts_seq (ts_item (i := 6) (j := 0) (by with_unfolding_all rfl) (by with_unfolding_all rfl) ?_)
    repeat o_readsAll
    refine ⟨_, (by pre_facts), by omega, by omega, fun r h1 h2 => ?_⟩
    repeat o_readsAll
    refine ⟨a, a.toNat, rfl, ?_, ?_⟩
    · rw [List.length_map]
      conv => lhs; rw [show a = ((a.toNat : Nat) : Int) from (Int.toNat_of_nonneg ha0).symm]
      exact ixn_nat (by omega)
    show TSv F _ ((lg, obL ((gs.map vI).set a.toNat (vI (gi gs a + 1 + r)))) :: (lh, obL (ls.map refR)) :: zipR ls hs) _ _
    rw [← List.map_set]
    have hga := hb.gb _ (gi_mem (ns := gs) ha0 (by omega))
    have hg2 : ∀ x, x ∈ gs.set a.toNat (gi gs a + 1 + r) → -(M + 10) ≤ x ∧ x ≤ M + 10 := fun x hx => by
      rcases List.mem_or_eq_of_mem_set hx with hx | hx
      · have := hb.gb x hx
        omega
      · omega
    have hg2l : (gs.set a.toNat (gi gs a + 1 + r)).length = ps.length := by rw [List.length_set]; exact hgl
    generalize gs.set a.toNat (gi gs a + 1 + r) = g2 at hg2 hg2l
    refine ts_seq (ts_forR2 ?_)
    repeat o_readsAll
    refine ⟨a, _, rfl, by omega, by omega, by omega, by omega, fun i Γ1 μ1 => ∃ (rows : List (List Int)) (e8 e9 : En), ls.length = rows.length ∧ rows.length = hs.length ∧ (∀ r, r ∈ rows → r.length = T.rates.length + 1) ∧ (∀ r, r ∈ rows → ∀ x, x ∈ r → -((M + 10) * ((i : Int) + 1)) ≤ x ∧ x ≤ M + 10) ∧ Γ1 = [.dv, .rp (TF K T), .rp (IL ps), .rp (IL br), .rp (papR K gs hs), .rp (vI a), .ow lg, .ow lh, e8, e9, .no] ∧ μ1 = (lg, obL (g2.map vI)) :: (lh, obL (ls.map refR)) :: zipR ls rows, ⟨hs, _, _, hls, rfl, hrows, fun r hr x hx => ?_, rfl, rfl⟩, ?_, ?_⟩
    · have := hb.rb r hr x hx
      omega
    · rintro i Γ1 μ1 hi ⟨rows, e8, e9, hl1, hl2, hr1, hc1, rfl, rfl⟩
      obtain ⟨k, hk⟩ : ∃ k : Nat, a + (i : Int) = (k : Int) := ⟨(a + i).toNat, by omega⟩
      rw [hk] at hi ⊢
      have hkN : k < rows.length := by omega
      have hkm := rowAt_mem (hs := rows) (i := k) (by omega) (by omega)
      obtain ⟨la, hla⟩ : ∃ la, ls[k]? = some la := ⟨ls[k]'(by omega), List.getElem?_eq_getElem (by omega)⟩
      have hatk : atI (ls.map refR) (k : Int) = some (vE (.ref la)) := at_nat (by omega) (by rw [List.getElem?_map, Int.toNat_natCast, hla]; rfl)
      have hpk := (rl.ok.pb k (by omega) (by omega)).1
      generalize hBd : (M + 10) * ((i : Int) + 1) = Bd at hc1
      have hBd0 : M + 10 ≤ Bd := by
        rw [← hBd]
        have := Int.mul_le_mul_of_nonneg_left (show (1 : Int) ≤ (i : Int) + 1 by omega) (show 0 ≤ M + 10 by omega)
        omega
      have hBd1 : (M + 10) * (((i + 1 : Nat) : Int) + 1) = Bd + (M + 10) := by
        rw [← hBd]
        push_cast
        rw [Int.mul_add (M + 10) ((i : Int) + 1) 1]
        omega
      refine tg_name ?_
      refine ts_forL ?_
      repeat o_readsAll
      refine ⟨T, br, k, ⟨cv_z Rp.Le.rfl, cv_z Rp.Le.rfl, cv_z Rp.Le.rfl, trivial⟩, ok, ?_⟩
      refine ⟨_, _, .z _, fun j Γ1 μ1 => ∃ (rk : List Int) (e9 : En), rk.length = T.rates.length + 1 ∧ (∀ x, x ∈ rk → -(Bd + (M + 10)) ≤ x ∧ x ≤ M + 10) ∧ Γ1 = [.dv, .rp (TF K T), .rp (IL ps), .rp (IL br), .rp (papR K gs hs), .rp (vI a), .ow lg, .ow lh, .rp (vI k), e9, .no] ∧ μ1 = (lg, obL (g2.map vI)) :: (lh, obL (ls.map refR)) :: zipR ls (rows.set k rk), ⟨rowAt rows k, _, hr1 _ hkm, fun x hx => ?_, rfl, by rw [set_rowAt hkN]⟩, ?_, ?_⟩
      · have := hc1 _ hkm x hx
        omega
      · rintro j Γ1 μ1 R hR ⟨rk, e9, hrk, hrc, rfl, rfl⟩
        obtain ⟨s, hs1, rfl⟩ := at_mapF hR
        have hsm := List.mem_of_getElem? hs1
        have hsr := statesIn_range hsm
        have hjk : ((lg, obL (g2.map vI)) :: (lh, obL (ls.map refR)) :: zipR ls (rows.set k rk))[k + 1 + 1]? = some (la, obL (rk.map vI)) := zipR_get hla (by rw [List.getElem?_set, if_pos rfl, if_pos hkN])
        refine tg_name ?_
        refine ts_if ?_
        repeat o_readsAll
        refine ⟨fun hd => ?_, fun hd => ?_⟩
        · refine ts_itemR ?_
          repeat o_readsAll
          refine rop_ixE (l := .z) (SqLs.q sl_o1) hatk ?_
          repeat o_readsAll
          refine rop_ixE (l := .z) (SqLs.q (sl_ref hjk)) (at_gi (i := s) hsr.1 (by omega)) ?_
          repeat o_readsAll
          refine ⟨[refR lg, refR lh], ⟨rfl, rfl, trivial⟩, by show 2 ≤ 100000; decide, ?_⟩
          repeat o_readsAll
          have hl3 : ls.length = (rows.set k rk).length := by rw [List.length_set]; exact hl1
          have hr3 : ∀ r, r ∈ rows.set k rk → r.length = T.rates.length + 1 := fun r hr => by
            rcases List.mem_or_eq_of_mem_set hr with h | h
            · exact hr1 r h
            · rw [h]; exact hrk
          refine ⟨T, ps, br, g2, rows.set k rk, k, s, ⟨cv_z Rp.Le.rfl, cv_z Rp.Le.rfl, cv_z Rp.Le.rfl, cv_t (cv_o (j := 0) rfl le_ls) (cv_rows hl3 (List.mem_cons_of_mem _ (List.mem_cons_self ..)) fun q hq => List.mem_cons_of_mem _ (List.mem_cons_of_mem _ hq)) Rp.Le.rfl, cv_z Rp.Le.rfl, cv_z Rp.Le.rfl, trivial⟩, ok, by omega, by omega, by omega, by rw [List.length_set]; omega, hr3, hsm, ?_⟩
          have hlow := least_lower ok (ps := ps) (br := br) (gs := g2) (hs := rows.set k rk) (k := k) (s := s) (B := Bd) (G := M + 10) (by omega) (by omega) (by omega) (by rw [List.length_set]; omega) hpk (by omega) (by omega) (fun x hx => (hg2 x hx).2) hr3 (fun hk0 x hx => by
            have hk1 : 1 ≤ k := by omega
            rw [rowAt_set_ne hk1] at hx
            exact (hc1 _ (rowAt_mem (hs := rows) (i := (k : Int) - 1) (by omega) (by omega)) x hx).1) hsm
          generalize leastAt T ps br g2 (rows.set k rk) k s = lv at hlow
          repeat o_readsAll
          refine rop_ixE (l := .z) (SqLs.q sl_o1) hatk ?_
          refine ⟨la, k + 1 + 1, rk.map vI, rfl, hjk, ?_⟩
          repeat o_readsAll
          refine ⟨s, s.toNat, rfl, ?_, ?_⟩
          · rw [List.length_map]
            conv => lhs; rw [show s = ((s.toNat : Nat) : Int) from (Int.toNat_of_nonneg hsr.1).symm]
            exact ixn_nat (by omega)
          have hcell := hrc _ (gi_mem (ns := rk) hsr.1 (by omega))
          have hv : -(Bd + (M + 10)) ≤ (if lv < gi rk s then lv else gi rk s) ∧ (if lv < gi rk s then lv else gi rk s) ≤ M + 10 := by split <;> omega
          generalize (if lv < gi rk s then lv else gi rk s) = nv at hv
          refine ⟨rk.set s.toNat nv, _, by rw [List.length_set]; exact hrk, fun x hx => ?_, rfl, ?_⟩
          · rcases List.mem_or_eq_of_mem_set hx with h | h
            · exact hrc x h
            · rw [h]; exact hv
          · rw [List.set_cons_succ, List.set_cons_succ, ← List.map_set, zipR_set hla, List.set_set]
        · refine ts_next ?_
          exact ⟨rk, _, hrk, hrc, rfl, rfl⟩
      · rintro Γ1 μ1 ⟨rk, e9, hrk, hrc, rfl, rfl⟩
        refine ⟨rows.set k rk, _, _, by rw [List.length_set]; exact hl1, by rw [List.length_set]; exact hl2, fun r hr => ?_, fun r hr x hx => ?_, rfl, rfl⟩
        · rcases List.mem_or_eq_of_mem_set hr with h | h
          · exact hr1 r h
          · rw [h]; exact hrk
        · rw [hBd1]
          rcases List.mem_or_eq_of_mem_set hr with h | h
          · have := hc1 r h x hx
            omega
          · rw [h] at hx
            have := hrc x hx
            omega
    · rintro Γ1 μ1 ⟨rows, e8, e9, hl1, hl2, hr1, hc1, rfl, rfl⟩
      have hi10 : (((g2.length : Nat) : Int) - a).toNat ≤ 10 := by omega
      generalize (((g2.length : Nat) : Int) - a).toNat = ii at hc1 hi10
      have hfin : PapB (20 * M + 1000) g2 rows := by
        have hm : (M + 10) * ((ii : Int) + 1) ≤ 20 * M + 1000 := by
          have := Int.mul_le_mul_of_nonneg_left (show (ii : Int) + 1 ≤ 11 by omega) (show 0 ≤ M + 10 by omega)
          omega
        exact ⟨by omega, by omega, fun x hx => by have := hg2 x hx; omega, fun r hr => by rw [hr1 r hr]; omega, fun r hr x hx => by have := hc1 r hr x hx; omega⟩
      show TSv F _ _ _ _
      refine ts_permA (μ1 := (lh, obL (ls.map refR)) :: (zipR ls rows ++ [(lg, obL (g2.map vI))])) ((List.Perm.swap ..).trans (List.Perm.cons _ (List.perm_append_comm (l₁ := [(lg, obL (g2.map vI))]) (l₂ := zipR ls rows)))) ?_
      refine ts_freeRows (i := 7) hl1 (by with_unfolding_all rfl) ?_
      refine ts_free (i := 6) (by with_unfolding_all rfl) (List.Perm.refl _) ?_
      refine ts_ret ?_
      repeat o_readsAll
      refine te_new (tn_fmL (α := List Int) ?_)
      repeat o_readsAll
      refine ⟨_, rows, IL, fun _ => true, rowR K, .z _, by omega, fun r hm L acc => ?_, ?_⟩
      · repeat o_readsAll
        refine ⟨rfl, fun _ => ?_⟩
        repeat o_readsAll
        exact ⟨rfl, trivial⟩
      · rw [filt_all]
        repeat o_readsAll
        exact hS _ _ hfin
end
end Eb
namespace Eb
/-! ### weak duality -/
theorem st_in {T : Tar} {br row : List Int} {k : Nat} (h : StOk T br row k) : gi row k ∈ statesIn T br k := by
  obtain ⟨h0, h1, h2⟩ := h
  unfold statesIn
  by_cases hf : Fresh br k
  · rw [if_pos hf]
    have hb : bef T br row k = (T.rates.length : Int) := by unfold bef; rw [if_pos hf]
    rw [hb] at h2
    unfold Tar.step at h2
    by_cases hle : (T.rates.length : Int) ≤ gi row k
    · have : gi row k = (T.rates.length : Int) := by omega
      rw [this]
      simp
    · rw [if_neg hle] at h2
      by_cases hz : gi row k = 0
      · rw [hz]
        simp
      · rw [if_neg hz] at h2
        exact absurd rfl h2
  · rw [if_neg hf]
    unfold rgI
    exact List.mem_map.mpr ⟨(gi row k).toNat, List.mem_range.mpr (by omega), by omega⟩
/-- what the hot moments of a row gain -/
def gainUp (gs row : List Int) : Nat → Int
  | 0 => 0
  | k + 1 => gainUp gs row k + (if gi row k = 0 then gi gs k else 0)
theorem in_before {T : Tar} {br row : List Int} {hs : List (List Int)} {k : Nat} (hk : k ≠ 0) (h : gi row ((k : Int) - 1) ∈ statesIn T br ((k : Int) - 1)) : (bef T br row k, gi (rowAt hs ((k : Int) - 1)) (gi row ((k : Int) - 1))) ∈ hBefore T br hs k := by
  unfold hBefore
  rw [if_neg (by omega)]
  refine List.mem_map.mpr ⟨_, h, ?_⟩
  rfl
theorem row_dual {T : Tar} {ps br gs row : List Int} {hs : List (List Int)} (hs1 : PSound T ps br gs hs) (hr : RowOk T br row ps.length) : ∀ k : Nat, k < ps.length → gi (rowAt hs k) (gi row k) ≤ rowCostUp T ps br row (k + 1) - gainUp gs row (k + 1)
  | 0, hk => by
    have hst := hr.2 0 hk
    have hin := st_in hst
    have hc := hs1.ok 0 hk (gi row ((0 : Nat) : Int)) hst.1 hst.2.1
    unfold CellOk at hc
    rw [if_pos hin] at hc
    have hb : bef T br row ((0 : Nat) : Int) = (T.rates.length : Int) := by unfold bef; rw [if_pos (.inl rfl)]
    cases q : T.step (bef T br row ((0 : Nat) : Int)) (gi row ((0 : Nat) : Int)) with
    | none => exact absurd q hst.2.2
    | some c =>
      have hm : 0 + c + netC T ps gs ((0 : Nat) : Int) (gi row ((0 : Nat) : Int)) ∈ cands T (hBefore T br hs ((0 : Nat) : Int)) (netC T ps gs ((0 : Nat) : Int) (gi row ((0 : Nat) : Int))) (gi row ((0 : Nat) : Int)) := by
        unfold cands
        refine List.mem_filterMap.mpr ⟨((T.rates.length : Int), 0), ?_, ?_⟩
        · unfold hBefore
          rw [if_pos (show ((0 : Nat) : Int) = 0 from rfl)]
          exact List.mem_singleton.mpr rfl
        · show (T.step (T.rates.length : Int) (gi row ((0 : Nat) : Int))).map _ = _
          rw [← hb, q]
          rfl
      have h1 := hc.1 _ hm
      have e1 : rowCostUp T ps br row 1 = T.rate (gi row ((0 : Nat) : Int)) * gi ps ((0 : Nat) : Int) + c := by
        show 0 + T.rate (gi row (0 : Nat)) * gi ps (0 : Nat) + (T.step (bef T br row (0 : Nat)) (gi row (0 : Nat))).getD 0 = _
        rw [q]
        simp only [Option.getD_some]
        omega
      have e2 : gainUp gs row 1 = if gi row ((0 : Nat) : Int) = 0 then gi gs ((0 : Nat) : Int) else 0 := by
        show 0 + (if gi row (0 : Nat) = 0 then gi gs (0 : Nat) else 0) = _
        rw [Int.zero_add]
      show gi (rowAt hs ((0 : Nat) : Int)) (gi row ((0 : Nat) : Int)) ≤ rowCostUp T ps br row 1 - gainUp gs row 1
      rw [e1, e2]
      unfold netC at h1
      split
      · rename_i hz
        rw [if_pos hz] at h1
        omega
      · rename_i hz
        rw [if_neg hz] at h1
        omega
  | k + 1, hk => by
    have ih := row_dual hs1 hr k (by omega)
    have hst := hr.2 (k + 1) hk
    have hin := st_in hst
    have hc := hs1.ok (k + 1) hk (gi row ((k + 1 : Nat) : Int)) hst.1 hst.2.1
    unfold CellOk at hc
    rw [if_pos hin] at hc
    have hpr := st_in (hr.2 k (by omega))
    have ek : (((k + 1 : Nat) : Int)) - 1 = (k : Int) := by omega
    cases q : T.step (bef T br row ((k + 1 : Nat) : Int)) (gi row ((k + 1 : Nat) : Int)) with
    | none => exact absurd q hst.2.2
    | some c =>
      have hm : gi (rowAt hs k) (gi row k) + c + netC T ps gs ((k + 1 : Nat) : Int) (gi row ((k + 1 : Nat) : Int)) ∈ cands T (hBefore T br hs ((k + 1 : Nat) : Int)) (netC T ps gs ((k + 1 : Nat) : Int) (gi row ((k + 1 : Nat) : Int))) (gi row ((k + 1 : Nat) : Int)) := by
        unfold cands
        refine List.mem_filterMap.mpr ⟨_, in_before (T := T) (br := br) (row := row) (hs := hs) (k := k + 1) (by omega) (by rw [ek]; exact hpr), ?_⟩
        show (T.step (bef T br row ((k + 1 : Nat) : Int)) (gi row ((k + 1 : Nat) : Int))).map _ = _
        rw [q, ek]
        rfl
      have h1 := hc.1 _ hm
      have e1 : rowCostUp T ps br row (k + 1 + 1) = rowCostUp T ps br row (k + 1) + T.rate (gi row ((k + 1 : Nat) : Int)) * gi ps ((k + 1 : Nat) : Int) + c := by
        rw [rowCostUp, q]
        rfl
      have e2 : gainUp gs row (k + 1 + 1) = gainUp gs row (k + 1) + (if gi row ((k + 1 : Nat) : Int) = 0 then gi gs ((k + 1 : Nat) : Int) else 0) := rfl
      rw [e1, e2]
      unfold netC at h1
      split
      · rename_i hz
        rw [if_pos hz] at h1
        omega
      · rename_i hz
        rw [if_neg hz] at h1
        omega
theorem row_gain {T : Tar} {ps br gs row : List Int} {hs : List (List Int)} (hs1 : PSound T ps br gs hs) (hr : RowOk T br row ps.length) : gainUp gs row ps.length ≤ rowCost T ps br row := by
  unfold rowCost
  rw [hr.1]
  cases hm : ps.length with
  | zero => exact Int.le_refl _
  | succ k =>
    have hk : k < ps.length := by omega
    have h1 := row_dual hs1 hr k hk
    have hst := hr.2 k hk
    have hc := hs1.ok k hk (gi row k) hst.1 hst.2.1
    unfold CellOk at hc
    rw [if_pos (st_in hst)] at hc
    have h2 := hc.2 (by omega)
    omega
/-- the sum over the plan, moment by moment -/
def hotSum (gs : List Int) (pl : List (List Int)) : Nat → Int
  | 0 => 0
  | k + 1 => hotSum gs pl k + (hotN pl k : Int) * gi gs k
theorem hot_cons (row : List Int) (pl : List (List Int)) (k : Int) : (hotN (row :: pl) k : Int) = (if gi row k = 0 then 1 else 0) + (hotN pl k : Int) := by
  unfold hotN
  rw [List.filter_cons]
  by_cases h : gi row k = 0
  · simp [h]
    omega
  · simp [h]
theorem hotSum_cons (gs row : List Int) (pl : List (List Int)) : ∀ k, hotSum gs (row :: pl) k = gainUp gs row k + hotSum gs pl k
  | 0 => rfl
  | k + 1 => by
    have ih := hotSum_cons gs row pl k
    show hotSum gs (row :: pl) k + (hotN (row :: pl) k : Int) * gi gs k = gainUp gs row k + (if gi row k = 0 then gi gs k else 0) + (hotSum gs pl k + (hotN pl k : Int) * gi gs k)
    rw [ih, hot_cons, Int.add_mul]
    split
    · rw [Int.one_mul]
      omega
    · rw [Int.zero_mul]
      omega
theorem hotSum_nil (gs : List Int) : ∀ k, hotSum gs [] k = 0
  | 0 => rfl
  | k + 1 => by
    have ih := hotSum_nil gs k
    show hotSum gs [] k + ((0 : Nat) : Int) * gi gs k = 0
    rw [ih]
    simp
theorem hotSum_le {T : Tar} {ps br gs : List Int} {hs : List (List Int)} (hs1 : PSound T ps br gs hs) : ∀ pl : List (List Int), (∀ row, row ∈ pl → RowOk T br row ps.length) → hotSum gs pl ps.length ≤ planCost T ps br pl
  | [], _ => by
    rw [hotSum_nil]
    exact Int.le_refl _
  | row :: rest, h => by
    have h1 := row_gain hs1 (h row (List.mem_cons_self ..))
    have h2 := hotSum_le hs1 rest fun q hq => h q (List.mem_cons_of_mem _ hq)
    rw [hotSum_cons]
    unfold planCost at h2 ⊢
    rw [List.map_cons, List.sum_cons]
    omega
theorem pSum_up (ns gs : List Int) (h : ns.length = gs.length) : ∀ k, k ≤ ns.length → (List.zipWith (fun n g : Int => n * g) (ns.take k) (gs.take k)).sum = (List.range k).foldl (fun s (j : Nat) => s + gi ns j * gi gs j) 0
  | 0, _ => by simp
  | k + 1, hk => by
    have ih := pSum_up ns gs h k (by omega)
    have hg : k < gs.length := by omega
    rw [List.range_succ, List.foldl_append, ← ih, List.take_succ_eq_append_getElem (show k < ns.length by omega), List.take_succ_eq_append_getElem hg, List.zipWith_append (by rw [List.length_take, List.length_take]; omega), List.sum_append]
    simp only [List.zipWith_cons_cons, List.zipWith_nil_left, List.sum_cons, List.sum_nil, List.foldl_cons, List.foldl_nil]
    unfold gi
    rw [Int.toNat_natCast, List.getD_eq_getElem?_getD, List.getD_eq_getElem?_getD, List.getElem?_eq_getElem (show k < ns.length by omega), List.getElem?_eq_getElem hg]
    simp
def pUp (ns gs : List Int) : Nat → Int
  | 0 => 0
  | k + 1 => pUp ns gs k + gi ns k * gi gs k
theorem pUp_fold (ns gs : List Int) : ∀ k, (List.range k).foldl (fun s (j : Nat) => s + gi ns j * gi gs j) 0 = pUp ns gs k
  | 0 => rfl
  | k + 1 => by
    rw [List.range_succ, List.foldl_append, pUp_fold ns gs k]
    rfl
theorem pSum_is {ns gs : List Int} (h : ns.length = gs.length) : pSum ns gs = pUp ns gs ns.length := by
  have := pSum_up ns gs h ns.length (Nat.le_refl _)
  rw [List.take_length, h, List.take_length] at this
  unfold pSum
  rw [this, ← h, pUp_fold]
theorem weak {T : Tar} {ps ns br gs : List Int} {hs pl : List (List Int)} (hn : ns.length = ps.length) (hs1 : PSound T ps br gs hs) (hf : Fits T ps.length ns br pl) : pSum ns gs ≤ planCost T ps br pl := by
  have hg := hs1.sz.1
  rw [pSum_is (by omega)]
  refine Int.le_trans ?_ (hotSum_le hs1 pl hf.1)
  rw [← hn]
  have key : ∀ k, k ≤ ns.length → pUp ns gs k ≤ hotSum gs pl k := fun k => by
    induction k with
    | zero => exact fun _ => Int.le_refl _
    | succ k ih =>
      intro hk
      have h1 := ih (by omega)
      have h2 := hf.2 k (by omega)
      have h3 := hs1.pos _ (gi_mem (ns := gs) (i := k) (by omega) (by omega))
      have h4 := Int.mul_le_mul_of_nonneg_right h2 h3
      show pUp ns gs k + gi ns k * gi gs k ≤ hotSum gs pl k + (hotN pl k : Int) * gi gs k
      omega
  exact key ns.length (Nat.le_refl _)
end Eb
namespace Eb
/-! ### the found costs make a sound paper -/
section
variable {T : Tar} {ps ns br : List Int} {pl : List (List Int)} {C : Int} {kv : KV1}
/-- where one has been found -/
def fv (kv : KV1) (p : Pl) : Int := (gv kv p).getD 0
theorem rlx_le {L : List Way} (d : Dist L C kv) {x : Way} (hx : x ∈ L) (hs : (gv kv x.s).isSome = true) : (gv kv x.e).isSome = true ∧ fv kv x.e ≤ fv kv x.s + x.c := by
  obtain ⟨a, ha⟩ := Option.isSome_iff_exists.mp hs
  obtain ⟨b, hb, hle⟩ := d.rl x hx a ha
  refine ⟨by rw [hb]; rfl, ?_⟩
  unfold fv
  rw [ha, hb]
  exact hle
theorem way_off {t : Nat} {s : Int} (ht : t < ps.length) (hs : s ∈ statesIn T br t) (hn : s ≠ (T.rates.length : Int)) : (⟨plAfter T t s, .ground, 0⟩ : Way) ∈ allWays T ps br := by
  unfold allWays
  refine List.mem_flatMap.mpr ⟨t, List.mem_range.mpr ht, ?_⟩
  unfold waysAt
  refine List.mem_append_right _ (List.mem_map.mpr ⟨s, List.mem_filter.mpr ⟨hs, decide_eq_true hn⟩, rfl⟩)
theorem way_wake {t : Nat} {b : Int} (ht : t < ps.length) (hf : ¬ Fresh br t) (hb : b ∈ statesIn T br ((t : Int) - 1)) (hn : b ≠ (T.rates.length : Int)) : (⟨plAfter T ((t : Int) - 1) b, .inn t, T.wake b⟩ : Way) ∈ allWays T ps br := by
  have hr := statesIn_range hb
  unfold allWays
  refine List.mem_flatMap.mpr ⟨t, List.mem_range.mpr ht, ?_⟩
  unfold waysAt waysInto
  rw [if_neg hf]
  refine List.mem_append_left _ (List.mem_append_right _ (List.mem_flatMap.mpr ⟨b, ?_, ?_⟩))
  · unfold rgI
    exact List.mem_map.mpr ⟨b.toNat, List.mem_range.mpr (by omega), by omega⟩
  · unfold waysB
    rw [if_pos hb]
    exact List.mem_cons_self ..
theorem way_doze {t : Nat} {b s : Int} (ht : t < ps.length) (hf : ¬ Fresh br t) (hb : b ∈ statesIn T br ((t : Int) - 1)) (hbs : b ≤ s) (h1 : 1 ≤ s) (hn : s < (T.rates.length : Int)) : (⟨plAfter T ((t : Int) - 1) b, .asleep t s, T.rate s * gi ps t⟩ : Way) ∈ allWays T ps br := by
  have hr := statesIn_range hb
  unfold allWays
  refine List.mem_flatMap.mpr ⟨t, List.mem_range.mpr ht, ?_⟩
  unfold waysAt waysInto
  rw [if_neg hf]
  refine List.mem_append_left _ (List.mem_append_right _ (List.mem_flatMap.mpr ⟨b, ?_, ?_⟩))
  · unfold rgI
    exact List.mem_map.mpr ⟨b.toNat, List.mem_range.mpr (by omega), by omega⟩
  · unfold waysB
    rw [if_pos hb]
    refine List.mem_cons_of_mem _ (List.mem_map.mpr ⟨s, ?_, rfl⟩)
    unfold rg2 mx1
    refine List.mem_map.mpr ⟨(s - (if 1 > b then 1 else b)).toNat, List.mem_range.mpr ?_, ?_⟩
    · split <;> omega
    · split <;> omega
end
end Eb
namespace Eb
/-! ### idle costs, costs of a gap -/
theorem idleC_le {T : Tar} {t : Int} {s : Nat} (h : s ≤ T.rates.length) : idleC T t ≤ T.cost s t := minL_le (List.mem_map.mpr ⟨s, List.mem_range.mpr (by omega), rfl⟩)
theorem idleC_at (T : Tar) (t : Int) : ∃ s : Nat, s ≤ T.rates.length ∧ idleC T t = T.cost s t := by
  have h := minL_mem (xs := (List.range (T.rates.length + 1)).map fun (s : Nat) => T.cost s t) (by simp)
  obtain ⟨s, hs, e⟩ := List.mem_map.mp h
  exact ⟨s, by have := List.mem_range.mp hs; omega, e.symm⟩
theorem idleUp_min (T : Tar) (t : Int) : ∀ k j : Nat, j ≤ k → T.cost (T.idleUp t k) t ≤ T.cost j t
  | 0, j, h => by
    have e : j = 0 := by omega
    subst e
    exact Int.le_refl _
  | k + 1, j, h => by
    have ih := idleUp_min T t k
    unfold Tar.idleUp
    by_cases hj : j = k + 1
    · subst hj
      split
      · exact Int.le_refl _
      · have : ((k + 1 : Nat) : Int) = (k : Int) + 1 := by omega
        rw [this]
        omega
    · have := ih j (by omega)
      split <;> omega
theorem idle_cost (T : Tar) (t : Int) : T.cost (T.idle t) t = idleC T t := by
  unfold Tar.idle
  have hr := T.idleUp_range t T.rates.length
  have e : T.idleUp t T.rates.length = ((T.idleUp t T.rates.length).toNat : Int) := by omega
  obtain ⟨s, hs, es⟩ := idleC_at T t
  have h1 := idleUp_min T t T.rates.length s hs
  have h2 := idleC_le (T := T) (t := t) (s := (T.idleUp t T.rates.length).toNat) (by omega)
  rw [← e] at h2
  omega
theorem idle_range (T : Tar) (t : Int) : 0 ≤ T.idle t ∧ T.idle t ≤ (T.rates.length : Int) := T.idleUp_range t T.rates.length
section
variable {T : Tar}
theorem rate_mono (o : T.Ok) {s s' : Int} (h0 : 0 ≤ s) (h : s ≤ s') (h1 : s' ≤ (T.rates.length : Int)) : T.rate s' ≤ T.rate s := by
  by_cases e : s' = (T.rates.length : Int)
  · have := (o.rate h0 (by omega : s ≤ (T.rates.length : Int))).1
    have : T.rate s' = 0 := by unfold Tar.rate; rw [if_pos e]
    omega
  · by_cases es : s = s'
    · subst es
      exact Int.le_refl _
    · unfold Tar.rate
      rw [if_neg e, if_neg (by omega)]
      have := o.rd s s' h0 (by omega) (by omega)
      omega
theorem rate_off : T.rate (T.rates.length : Int) = 0 := by unfold Tar.rate; rw [if_pos rfl]
theorem wake_0 (o : T.Ok) : T.wake 0 = 0 := o.w0
theorem idleC_off {t : Int} : idleC T t ≤ T.wake T.rates.length := by
  have := idleC_le (T := T) (t := t) (s := T.rates.length) (Nat.le_refl _)
  unfold Tar.cost at this
  rw [rate_off, Int.zero_mul] at this
  omega
theorem idleC_nonneg (o : T.Ok) {t : Int} (h : 0 ≤ t) : 0 ≤ idleC T t := by
  obtain ⟨s, hs, e⟩ := idleC_at T t
  rw [e]
  unfold Tar.cost
  have h1 := o.rate (s := (s : Int)) (by omega) (by omega)
  have h2 := o.wake (s := (s : Int)) (by omega) (by omega)
  have := Int.mul_nonneg h1.1 h
  omega
theorem idleC_0 (o : T.Ok) : idleC T 0 = 0 := by
  have h1 := idleC_nonneg o (t := 0) (Int.le_refl _)
  have h2 := idleC_le (T := T) (t := 0) (s := 0) (by omega)
  unfold Tar.cost at h2
  have h3 : T.wake ((0 : Nat) : Int) = 0 := wake_0 o
  rw [Int.mul_zero, h3] at h2
  omega
theorem idleC_mono (o : T.Ok) {x y : Int} (hy : 0 ≤ y) : idleC T x ≤ idleC T (x + y) := by
  obtain ⟨s, hs, e⟩ := idleC_at T (x + y)
  have h1 := idleC_le (T := T) (t := x) hs
  rw [e]
  unfold Tar.cost at h1 ⊢
  have h2 := o.rate (s := (s : Int)) (by omega) (by omega)
  have h3 := Int.mul_nonneg h2.1 hy
  rw [Int.mul_add]
  omega
theorem idle_qi' (o : T.Ok) {x y z : Int} {s s' : Nat} (hy : 0 ≤ y) (hz : 0 ≤ z) (hs : s ≤ T.rates.length) (hs' : s' ≤ T.rates.length) (h : T.rate s ≤ T.rate s') :
    idleC T (x + y + z) + idleC T x ≤ T.cost s (x + y) + T.cost s' (x + z) := by
  have h1 := idleC_le (T := T) (t := x + y + z) hs
  have h2 := idleC_le (T := T) (t := x) hs'
  have h3 := Int.mul_le_mul_of_nonneg_right h hz
  unfold Tar.cost at *
  simp only [Int.mul_add] at *
  omega
theorem idle_qi (o : T.Ok) {x y z : Int} (hy : 0 ≤ y) (hz : 0 ≤ z) : idleC T (x + y + z) + idleC T x ≤ idleC T (x + y) + idleC T (x + z) := by
  obtain ⟨s, hs, e⟩ := idleC_at T (x + y)
  obtain ⟨s', hs', e'⟩ := idleC_at T (x + z)
  rw [e, e']
  rcases Int.le_total (T.rate s) (T.rate s') with h | h
  · exact idle_qi' o hy hz hs hs' h
  · have := idle_qi' (x := x) o hz hy hs' hs h
    have e2 : x + z + y = x + y + z := by omega
    rw [e2] at this
    omega
theorem idle_sub' (o : T.Ok) {x p y : Int} {s s' : Nat} (hp : 0 ≤ p) (hy : 0 ≤ y) (hs : s ≤ T.rates.length) (hs' : s' ≤ T.rates.length) (h : T.rate s ≤ T.rate s') :
    idleC T (x + p + y) ≤ T.cost s x + T.rate 0 * p + T.cost s' y := by
  have h1 := idleC_le (T := T) (t := x + p + y) hs
  have h2 := Int.mul_le_mul_of_nonneg_right h hy
  have h3 := Int.mul_le_mul_of_nonneg_right (rate_mono o (s := 0) (s' := s) (by omega) (by omega) (by omega)) hp
  have h4 := o.wake (s := (s' : Int)) (by omega) (by omega)
  unfold Tar.cost at *
  simp only [Int.mul_add] at *
  omega
theorem idle_sub (o : T.Ok) {x p y : Int} (hx : 0 ≤ x) (hp : 0 ≤ p) (hy : 0 ≤ y) : idleC T (x + p + y) ≤ idleC T x + T.rate 0 * p + idleC T y := by
  obtain ⟨s, hs, e⟩ := idleC_at T x
  obtain ⟨s', hs', e'⟩ := idleC_at T y
  rw [e, e']
  rcases Int.le_total (T.rate s) (T.rate s') with h | h
  · exact idle_sub' o hp hy hs hs' h
  · have := idle_sub' (x := y) (y := x) o hp hx hs' hs h
    have e2 : y + p + x = x + p + y := by omega
    rw [e2] at this
    omega
end
/-! sums of prices -/
section
variable {ps : List Int}
theorem drop_take_add : ∀ (xs : List Int) (a b c : Nat), a ≤ c → c ≤ b → (xs.drop a).take (b - a) = (xs.drop a).take (c - a) ++ (xs.drop c).take (b - c) := fun xs a b c h1 h2 => by
  have e : b - a = (c - a) + (b - c) := by omega
  rw [e, List.take_add, List.drop_drop]
  have e2 : a + (c - a) = c := by omega
  rw [e2]
theorem psum_nat (a b : Nat) (hb : b ≤ ps.length) : psum ps a b = ((ps.drop a).take (b - a)).sum := by
  unfold psum cutR
  rw [HT.sIx_nat, HT.sIx_nat, Nat.min_eq_left hb]
  by_cases h : a ≤ ps.length
  · rw [Nat.min_eq_left h]
  · have e : b - min a ps.length = 0 := by omega
    have e2 : b - a = 0 := by omega
    rw [e, e2]
    simp
theorem psum_add {a b c : Int} (h0 : 0 ≤ a) (h1 : a ≤ c) (h2 : c ≤ b) (h3 : b ≤ ps.length) : psum ps a b = psum ps a c + psum ps c b := by
  have ea : a = (a.toNat : Int) := by omega
  have eb : b = (b.toNat : Int) := by omega
  have ec : c = (c.toNat : Int) := by omega
  rw [ea, eb, ec, psum_nat _ _ (by omega), psum_nat _ _ (by omega), psum_nat _ _ (by omega), drop_take_add ps _ _ c.toNat (by omega) (by omega), List.sum_append]
theorem psum_one {t : Int} (h0 : 0 ≤ t) (h1 : t < ps.length) : psum ps t (t + 1) = gi ps t := by
  have hg : psum ps ((t.toNat : Nat) : Int) ((t.toNat + 1 : Nat) : Int) = gi ps t := by
    rw [psum_nat _ _ (by omega)]
    have e : t.toNat + 1 - t.toNat = 1 := by omega
    have lt : t.toNat < ps.length := by omega
    rw [e, List.drop_eq_getElem_cons lt]
    unfold gi
    rw [List.getD_eq_getElem?_getD, List.getElem?_eq_getElem lt, List.take_succ_cons, List.take_zero, List.sum_cons, List.sum_nil, Int.add_zero]
    rfl
  have ea : ((t.toNat : Nat) : Int) = t := by omega
  have eb : ((t.toNat + 1 : Nat) : Int) = t + 1 := by omega
  rw [ea, eb] at hg
  exact hg
theorem psum_nil {t : Int} (h0 : 0 ≤ t) (h1 : t ≤ ps.length) : psum ps t t = 0 := by
  have ea : t = (t.toNat : Int) := by omega
  rw [ea, psum_nat _ _ (by omega)]
  simp
theorem psum_nonneg (hp : ∀ i : Int, 0 ≤ i → i < ps.length → 0 ≤ gi ps i) {a : Int} (h0 : 0 ≤ a) : ∀ k : Nat, a + k ≤ ps.length → 0 ≤ psum ps a (a + k)
  | 0, h => by
    have e : a + ((0 : Nat) : Int) = a := by omega
    rw [e, psum_nil h0 (by omega)]
    exact Int.le_refl _
  | k + 1, h => by
    have ih := psum_nonneg hp h0 k (by omega)
    have e : a + ((k + 1 : Nat) : Int) = (a + k) + 1 := by omega
    rw [e, psum_add (c := a + k) h0 (by omega) (by omega) (by omega), psum_one (by omega) (by omega)]
    have := hp (a + k) (by omega) (by omega)
    omega
theorem psum_nn (hp : ∀ i : Int, 0 ≤ i → i < ps.length → 0 ≤ gi ps i) {a b : Int} (h0 : 0 ≤ a) (h1 : a ≤ b) (h2 : b ≤ ps.length) : 0 ≤ psum ps a b := by
  have := psum_nonneg hp h0 (b - a).toNat (by omega)
  have e : a + ((b - a).toNat : Int) = b := by omega
  rw [e] at this
  exact this
end
theorem brk_iff {br : List Int} {f s : Int} : brk br f s = true ↔ ∃ m, m ∈ br ∧ f ≤ m ∧ m < s := by
  unfold brk
  rw [List.any_eq_true]
  constructor
  · rintro ⟨m, hm, h⟩
    simp only [Bool.and_eq_true, decide_eq_true_eq] at h
    exact ⟨m, hm, h.1, h.2⟩
  · rintro ⟨m, hm, h1, h2⟩
    exact ⟨m, hm, by simp only [Bool.and_eq_true, decide_eq_true_eq]; exact ⟨h1, h2⟩⟩
/-- what it costs at least from being hot in a to being hot in b -/
def gapC (T : Tar) (ps br : List Int) (a b : Int) : Int := if b = (ps.length : Int) then 0 else if a < 0 ∨ brk br a b = true then T.wake T.rates.length else idleC T (psum ps (a + 1) b)
section
variable {T : Tar} {ps br : List Int}
abbrev Nn (ps : List Int) : Prop := ∀ i : Int, 0 ≤ i → i < ps.length → 0 ≤ gi ps i
theorem gapC_end {a : Int} : gapC T ps br a ps.length = 0 := by unfold gapC; rw [if_pos rfl]
theorem gapC_W {a b : Int} (hb : b ≠ ps.length) (h : a < 0 ∨ brk br a b = true) : gapC T ps br a b = T.wake T.rates.length := by unfold gapC; rw [if_neg hb, if_pos h]
theorem gapC_idle {a b : Int} (hb : b ≠ ps.length) (h0 : 0 ≤ a) (h : ¬ brk br a b = true) : gapC T ps br a b = idleC T (psum ps (a + 1) b) := by
  unfold gapC
  rw [if_neg hb, if_neg]
  rintro (h1 | h1)
  · omega
  · exact h h1
theorem gapC_le {a b : Int} (hb : b ≠ ps.length) : gapC T ps br a b ≤ T.wake T.rates.length := by
  unfold gapC
  rw [if_neg hb]
  split
  · exact Int.le_refl _
  · exact idleC_off
theorem gapC_nonneg (o : T.Ok) (hp : Nn ps) {a b : Int} (ha : -1 ≤ a) (hab : a < b) (hb : b ≤ ps.length) : 0 ≤ gapC T ps br a b := by
  unfold gapC
  split
  · exact Int.le_refl _
  · split
    · exact (o.wake (s := (T.rates.length : Int)) (by omega) (by omega)).1
    · exact idleC_nonneg o (psum_nn hp (by omega) (by omega) (by omega))
/-- from further off it is not less -/
theorem gapC_left (o : T.Ok) (hp : Nn ps) {a a' b : Int} (ha : -1 ≤ a) (h : a ≤ a') (hab : a' < b) (hb : b ≤ ps.length) : gapC T ps br a' b ≤ gapC T ps br a b := by
  by_cases e : b = ps.length
  · subst e
    rw [gapC_end, gapC_end]
    exact Int.le_refl _
  · by_cases h1 : a < 0 ∨ brk br a b = true
    · rw [gapC_W e h1]
      exact gapC_le e
    · have h2 : ¬ brk br a' b = true := fun z => h1 (.inr (by
        obtain ⟨m, hm, h3, h4⟩ := brk_iff.mp z
        exact brk_iff.mpr ⟨m, hm, by omega, h4⟩))
      rw [gapC_idle e (by omega) h2, gapC_idle e (by omega) (fun z => h1 (.inr z)), psum_add (a := a + 1) (b := b) (c := a' + 1) (by omega) (by omega) (by omega) (by omega), Int.add_comm (psum ps (a + 1) (a' + 1))]
      exact idleC_mono o (psum_nn hp (by omega) (by omega) (by omega))
theorem gapC_right (o : T.Ok) (hp : Nn ps) {a b b' : Int} (ha : -1 ≤ a) (hab : a < b) (h : b ≤ b') (hb : b' < ps.length) : gapC T ps br a b ≤ gapC T ps br a b' := by
  by_cases h1 : a < 0 ∨ brk br a b' = true
  · rw [gapC_W (by omega) h1]
    exact gapC_le (by omega)
  · have h2 : ¬ brk br a b = true := fun z => h1 (.inr (by
      obtain ⟨m, hm, h3, h4⟩ := brk_iff.mp z
      exact brk_iff.mpr ⟨m, hm, h3, by omega⟩))
    rw [gapC_idle (by omega) (by omega) h2, gapC_idle (by omega) (by omega) (fun z => h1 (.inr z)), psum_add (a := a + 1) (b := b') (c := b) (by omega) (by omega) (by omega) (by omega)]
    exact idleC_mono o (psum_nn hp (by omega) (by omega) (by omega))
/-- crossing costs no less than nested -/
theorem gapC_qi (o : T.Ok) (hp : Nn ps) {a a' b b' : Int} (ha : -1 ≤ a) (h1 : a < a') (h2 : a' < b) (h3 : b < b') (h4 : b' ≤ ps.length) : gapC T ps br a b' + gapC T ps br a' b ≤ gapC T ps br a b + gapC T ps br a' b' := by
  by_cases e : b' = ps.length
  · subst e
    rw [gapC_end, gapC_end]
    have := gapC_left (ps := ps) (br := br) o hp ha (Int.le_of_lt h1) h2 (by omega)
    omega
  · have hl := gapC_left (ps := ps) (br := br) o hp ha (Int.le_of_lt h1) h2 (by omega)
    have hr := gapC_right (ps := ps) (br := br) o hp (a := a') (b := b) (b' := b') (by omega) h2 (by omega) (by omega)
    have hw := gapC_le (T := T) (ps := ps) (br := br) (a := a) e
    by_cases q1 : a < 0 ∨ brk br a b = true
    · have := gapC_W (T := T) (ps := ps) (br := br) (a := a) (b := b) (by omega) q1
      omega
    · by_cases q2 : brk br a' b' = true
      · have := gapC_W (T := T) (ps := ps) (br := br) (a := a') (b := b') e (.inr q2)
        omega
      · have q3 : ¬ brk br a b' = true := fun z => by
          obtain ⟨m, hm, h5, h6⟩ := brk_iff.mp z
          by_cases q : m < b
          · exact q1 (.inr (brk_iff.mpr ⟨m, hm, h5, q⟩))
          · exact q2 (brk_iff.mpr ⟨m, hm, by omega, h6⟩)
        have q4 : ¬ brk br a' b = true := fun z => by
          obtain ⟨m, hm, h5, h6⟩ := brk_iff.mp z
          exact q2 (brk_iff.mpr ⟨m, hm, h5, by omega⟩)
        have q5 : 0 ≤ a := by
          by_cases z : a < 0
          · exact absurd (.inl z) q1
          · omega
        rw [gapC_idle e q5 q3, gapC_idle (by omega) (by omega) q4, gapC_idle (by omega) q5 (fun z => q1 (.inr z)), gapC_idle e (by omega) q2]
        have n1 := psum_nn hp (a := a + 1) (b := a' + 1) (by omega) (by omega) (by omega)
        have n2 := psum_nn hp (a := b) (b := b') (by omega) (by omega) (by omega)
        have := idle_qi (T := T) o (x := psum ps (a' + 1) b) n1 n2
        rw [psum_add (a := a + 1) (b := b') (c := b) (by omega) (by omega) (by omega) (by omega), psum_add (a := a + 1) (b := b) (c := a' + 1) (by omega) (by omega) (by omega) (by omega), psum_add (a := a' + 1) (b := b') (c := b) (by omega) (by omega) (by omega) (by omega)]
        rw [Int.add_comm (psum ps (a + 1) (a' + 1))]
        exact this
/-- being hot between costs no less -/
theorem gapC_sub (o : T.Ok) (hp : Nn ps) {a t b : Int} (ha : -1 ≤ a) (h1 : a < t) (h2 : t < b) (h4 : b ≤ ps.length) : gapC T ps br a b ≤ gapC T ps br a t + T.rate 0 * gi ps t + gapC T ps br t b := by
  have hh := Int.mul_nonneg (o.rate (s := 0) (by omega) (by omega)).1 (hp t (by omega) (by omega))
  have n1 := gapC_nonneg (br := br) o hp ha h1 (by omega)
  have n2 := gapC_nonneg (br := br) o hp (a := t) (b := b) (by omega) h2 (by omega)
  by_cases e : b = ps.length
  · subst e
    have := gapC_end (T := T) (ps := ps) (br := br) (a := a)
    omega
  · have hw := gapC_le (T := T) (ps := ps) (br := br) (a := a) e
    by_cases q1 : a < 0 ∨ brk br a t = true
    · have := gapC_W (T := T) (ps := ps) (br := br) (a := a) (b := t) (by omega) q1
      omega
    · by_cases q2 : brk br t b = true
      · have := gapC_W (T := T) (ps := ps) (br := br) (a := t) (b := b) e (.inr q2)
        omega
      · have q5 : 0 ≤ a := by
          by_cases z : a < 0
          · exact absurd (.inl z) q1
          · omega
        have q3 : ¬ brk br a b = true := fun z => by
          obtain ⟨m, hm, h5, h6⟩ := brk_iff.mp z
          by_cases q : m < t
          · exact q1 (.inr (brk_iff.mpr ⟨m, hm, h5, q⟩))
          · exact q2 (brk_iff.mpr ⟨m, hm, by omega, h6⟩)
        rw [gapC_idle e q5 q3, gapC_idle (by omega) q5 (fun z => q1 (.inr z)), gapC_idle e (by omega) q2]
        have m1 := psum_nn hp (a := a + 1) (b := t) (by omega) (by omega) (by omega)
        have m2 := psum_nn hp (a := t + 1) (b := b) (by omega) (by omega) (by omega)
        have := idle_sub (T := T) o m1 (hp t (by omega) (by omega)) m2
        rw [psum_add (a := a + 1) (b := b) (c := t) (by omega) (by omega) (by omega) (by omega), psum_add (a := t) (b := b) (c := t + 1) (by omega) (by omega) (by omega) (by omega), psum_one (by omega) (by omega)]
        rw [← Int.add_assoc]
        exact this
end
end Eb
namespace Eb
/-! ### potentials: what it costs less the gains to be hot -/
/-- costs between hot moments, -1 the beginning, m the end -/
structure GapOk (D : Int → Int → Int) (q : Int → Int) (m : Int) : Prop where
  m0 : 0 ≤ m
  fin : D (-1) m = 0
  qi : ∀ a a' b b', -1 ≤ a → a < a' → a' < b → b < b' → b' ≤ m → D a b' + D a' b ≤ D a b + D a' b'
  sub : ∀ a t b, -1 ≤ a → a < t → t < b → b ≤ m → D a b ≤ D a t + q t + D t b
structure Pot (D : Int → Int → Int) (q : Int → Int) (m : Int) (S : Int → Prop) (e u : Int → Int) : Prop where
  e0 : e (-1) = 0
  um : u m = 0
  le : ∀ a b, a < b → (a = -1 ∨ S a) → (b = m ∨ S b) → u b ≤ e a + D a b
  pos : ∀ t, S t → e t ≤ u t + q t
/-- neighbours are at their least -/
def Tgh (D : Int → Int → Int) (m : Int) (S : Int → Prop) (e u : Int → Int) : Prop := ∀ a b, a < b → (a = -1 ∨ S a) → (b = m ∨ S b) → (∀ c, a < c → c < b → ¬ S c) → u b = e a + D a b
theorem prev_of (S : Int → Prop) : ∀ n : Nat, ∃ a : Int, -1 ≤ a ∧ a < n ∧ (a = -1 ∨ S a) ∧ ∀ c, a < c → c < n → ¬ S c
  | 0 => ⟨-1, Int.le_refl _, by decide, .inl rfl, fun c h1 h2 => by have h3 : c < 0 := h2; omega⟩
  | n + 1 => by
    by_cases h : S n
    · exact ⟨n, by omega, by omega, .inr h, fun c h1 h2 => by omega⟩
    · obtain ⟨a, h1, h2, h3, h4⟩ := prev_of S n
      refine ⟨a, h1, by omega, h3, fun c h5 h6 => ?_⟩
      by_cases e : c = n
      · subst e
        exact h
      · exact h4 c h5 (by omega)
theorem next_of (S : Int → Prop) (m : Int) : ∀ n : Nat, ∃ b : Int, b ≤ m ∧ m - 1 - n < b ∧ (b = m ∨ S b) ∧ ∀ c, m - 1 - n < c → c < b → ¬ S c
  | 0 => ⟨m, Int.le_refl _, by omega, .inl rfl, fun c h1 h2 => by omega⟩
  | n + 1 => by
    by_cases h : S (m - 1 - n)
    · exact ⟨m - 1 - n, by omega, by omega, .inr h, fun c h1 h2 => by omega⟩
    · obtain ⟨b, h1, h2, h3, h4⟩ := next_of S m n
      refine ⟨b, h1, by omega, h3, fun c h5 h6 => ?_⟩
      by_cases e : c = m - 1 - n
      · subst e
        exact h
      · exact h4 c (by omega) h6
section
variable {D : Int → Int → Int} {q : Int → Int} {m : Int} {S : Int → Prop} {e u : Int → Int}
theorem pot_add (g : GapOk D q m) (p : Pot D q m S e u) (ti : Tgh D m S e u) (hS : ∀ x, S x → 0 ≤ x ∧ x < m) {t : Int} (t0 : 0 ≤ t) (t1 : t < m) (hn : ¬ S t) :
    ∃ e' u', Pot D q m (fun x => S x ∨ x = t) e' u' ∧ Tgh D m (fun x => S x ∨ x = t) e' u' ∧ ∀ x, x ≠ t → e' x = e x ∧ u' x = u x := by
  obtain ⟨a, a0, a1, aS, an⟩ := prev_of S t.toNat
  obtain ⟨b, b0, b1, bS, bn⟩ := next_of S m (m - 1 - t).toNat
  have at1 : a < t := by omega
  have tb1 : t < b := by omega
  have an2 : ∀ c, a < c → c < t → ¬ S c := fun c h1 h2 => an c h1 (by omega)
  have bn2 : ∀ c, t < c → c < b → ¬ S c := fun c h1 h2 => bn c (by omega) h2
  have hab : u b = e a + D a b := ti a b (by omega) aS bS fun c h1 h2 => by
    by_cases h3 : c < t
    · exact an2 c h1 h3
    · by_cases h4 : c = t
      · subst h4
        exact hn
      · exact bn2 c (by omega) h2
  have ne : ∀ x, x ≠ t → (if x = t then u b - D t b else e x) = e x ∧ (if x = t then e a + D a t else u x) = u x := fun x h => ⟨if_neg h, if_neg h⟩
  have eb : ∀ {y}, t < y → (y = m ∨ S y) → b ≤ y := fun {y} h1 h2 => by
    rcases h2 with h2 | h2
    · omega
    · by_cases z : b ≤ y
      · exact z
      · exact absurd h2 (bn2 y h1 (by omega))
  have ea : ∀ {y}, y < t → (y = -1 ∨ S y) → y ≤ a := fun {y} h1 h2 => by
    rcases h2 with h2 | h2
    · omega
    · by_cases z : y ≤ a
      · exact z
      · exact absurd h2 (an2 y (by omega) h1)
  have rngA : ∀ {y}, (y = -1 ∨ S y) → -1 ≤ y ∧ y < m := fun {y} h => by
    have := g.m0
    rcases h with h | h
    · omega
    · have := hS y h
      omega
  have rngB : ∀ {y}, (y = m ∨ S y) → 0 ≤ y ∧ y ≤ m := fun {y} h => by
    have := g.m0
    rcases h with h | h
    · omega
    · have := hS y h
      omega
  refine ⟨fun x => if x = t then u b - D t b else e x, fun x => if x = t then e a + D a t else u x, ⟨?_, ?_, ?_, ?_⟩, ?_, ne⟩
  · rw [if_neg (by omega)]
    exact p.e0
  · rw [if_neg (by omega)]
    exact p.um
  · intro x y hxy hx hy
    try dsimp only
    by_cases xt : x = t
    · subst xt
      rw [if_pos rfl, if_neg (by omega)]
      have hy2 : y = m ∨ S y := by
        rcases hy with h | h | h
        · exact .inl h
        · exact .inr h
        · omega
      have hb := eb hxy hy2
      by_cases yb : y = b
      · subst yb
        omega
      · have h1 := p.le a y (by omega) aS hy2
        have h2 := g.qi a x b y a0 at1 tb1 (by omega) (rngB hy2).2
        omega
    · rw [if_neg xt]
      have hx2 : x = -1 ∨ S x := by
        rcases hx with h | h | h
        · exact .inl h
        · exact .inr h
        · exact absurd h xt
      by_cases yt : y = t
      · subst yt
        rw [if_pos rfl]
        have ha := ea hxy hx2
        by_cases xa : x = a
        · subst xa
          omega
        · have h1 := p.le x b (by omega) hx2 bS
          have h2 := g.qi x a y b (rngA hx2).1 (by omega) at1 tb1 b0
          omega
      · rw [if_neg yt]
        refine p.le x y hxy hx2 ?_
        rcases hy with h | h | h
        · exact .inl h
        · exact .inr h
        · exact absurd h yt
  · intro x hx
    try dsimp only
    by_cases xt : x = t
    · subst xt
      rw [if_pos rfl, if_pos rfl]
      have := g.sub a x b a0 at1 tb1 b0
      omega
    · rw [if_neg xt, if_neg xt]
      refine p.pos x ?_
      rcases hx with h | h
      · exact h
      · exact absurd h xt
  · intro x y hxy hx hy hc
    try dsimp only
    by_cases xt : x = t
    · subst xt
      rw [if_pos rfl, if_neg (by omega)]
      have hy2 : y = m ∨ S y := by
        rcases hy with h | h | h
        · exact .inl h
        · exact .inr h
        · omega
      have hb := eb hxy hy2
      have yb : y = b := by
        by_cases z : b < y
        · rcases bS with h | h
          · have := (rngB hy2).2
            omega
          · exact absurd (Or.inl h) (hc b tb1 z)
        · omega
      subst yb
      omega
    · rw [if_neg xt]
      have hx2 : x = -1 ∨ S x := by
        rcases hx with h | h | h
        · exact .inl h
        · exact .inr h
        · exact absurd h xt
      by_cases yt : y = t
      · subst yt
        rw [if_pos rfl]
        have ha := ea hxy hx2
        have xa : x = a := by
          by_cases z : x < a
          · rcases aS with h | h
            · have := (rngA hx2).1
              omega
            · exact absurd (Or.inl h) (hc a z at1)
          · omega
        subst xa
        rfl
      · rw [if_neg yt]
        refine ti x y hxy hx2 ?_ fun c h1 h2 h3 => hc c h1 h2 (.inl h3)
        rcases hy with h | h | h
        · exact .inl h
        · exact .inr h
        · exact absurd h yt
/-- all moments in which at least so many are wanted -/
def Lev (nd : Int → Int) (m l : Int) : Int → Prop := fun t => 0 ≤ t ∧ t < m ∧ l ≤ nd t
theorem pot_level (g : GapOk D q m) (nd : Int → Int) (l : Int) (p : Pot D q m (Lev nd m (l + 1)) e u) (ti : Tgh D m (Lev nd m (l + 1)) e u) :
    ∀ j : Nat, (j : Int) ≤ m → ∃ e' u', Pot D q m (fun t => 0 ≤ t ∧ t < m ∧ (l + 1 ≤ nd t ∨ nd t = l ∧ t < j)) e' u' ∧ Tgh D m (fun t => 0 ≤ t ∧ t < m ∧ (l + 1 ≤ nd t ∨ nd t = l ∧ t < j)) e' u' ∧ ∀ x, (0 ≤ x → x < m → l + 1 ≤ nd x) → e' x = e x ∧ u' x = u x
  | 0, _ => by
    have es : (fun t => 0 ≤ t ∧ t < m ∧ (l + 1 ≤ nd t ∨ nd t = l ∧ t < ((0 : Nat) : Int))) = Lev nd m (l + 1) := by
      funext t
      apply propext
      unfold Lev
      constructor
      · rintro ⟨h1, h2, h3 | h3⟩
        · exact ⟨h1, h2, h3⟩
        · omega
      · rintro ⟨h1, h2, h3⟩
        exact ⟨h1, h2, .inl h3⟩
    rw [es]
    exact ⟨e, u, p, ti, fun _ _ => ⟨rfl, rfl⟩⟩
  | j + 1, hj => by
    obtain ⟨e1, u1, p1, t1, s1⟩ := pot_level g nd l p ti j (by omega)
    by_cases hl : nd j = l
    · obtain ⟨e2, u2, p2, t2, s2⟩ := pot_add g p1 t1 (fun x h => ⟨h.1, h.2.1⟩) (t := (j : Int)) (by omega) (by omega) (fun h => by rcases h.2.2 with h | h <;> omega)
      have es : (fun x => (0 ≤ x ∧ x < m ∧ (l + 1 ≤ nd x ∨ nd x = l ∧ x < (j : Int))) ∨ x = (j : Int)) = (fun t => 0 ≤ t ∧ t < m ∧ (l + 1 ≤ nd t ∨ nd t = l ∧ t < ((j + 1 : Nat) : Int))) := by
        funext x
        apply propext
        constructor
        · rintro (⟨h1, h2, h3 | ⟨h3, h4⟩⟩ | h)
          · exact ⟨h1, h2, .inl h3⟩
          · exact ⟨h1, h2, .inr ⟨h3, by omega⟩⟩
          · subst h
            exact ⟨by omega, by omega, .inr ⟨hl, by omega⟩⟩
        · rintro ⟨h1, h2, h3 | ⟨h3, h4⟩⟩
          · exact .inl ⟨h1, h2, .inl h3⟩
          · by_cases z : x = j
            · exact .inr z
            · exact .inl ⟨h1, h2, .inr ⟨h3, by omega⟩⟩
      rw [es] at p2 t2
      refine ⟨e2, u2, p2, t2, fun x hx => ?_⟩
      have hne : x ≠ (j : Int) := fun z => by
        subst z
        have := hx (by omega) (by omega)
        omega
      have h1 := s1 x hx
      have h2 := s2 x hne
      exact ⟨h2.1.trans h1.1, h2.2.trans h1.2⟩
    · have es : (fun t => 0 ≤ t ∧ t < m ∧ (l + 1 ≤ nd t ∨ nd t = l ∧ t < (j : Int))) = (fun t => 0 ≤ t ∧ t < m ∧ (l + 1 ≤ nd t ∨ nd t = l ∧ t < ((j + 1 : Nat) : Int))) := by
        funext x
        apply propext
        constructor
        · rintro ⟨h1, h2, h3 | ⟨h3, h4⟩⟩
          · exact ⟨h1, h2, .inl h3⟩
          · exact ⟨h1, h2, .inr ⟨h3, by omega⟩⟩
        · rintro ⟨h1, h2, h3 | ⟨h3, h4⟩⟩
          · exact ⟨h1, h2, .inl h3⟩
          · by_cases z : x = j
            · subst z
              exact absurd h3 hl
            · exact ⟨h1, h2, .inr ⟨h3, by omega⟩⟩
      rw [es] at p1 t1
      exact ⟨e1, u1, p1, t1, s1⟩
theorem tgh_keep {nd : Int → Int} {l : Int} {e' u' : Int → Int} (h : Tgh D m (Lev nd m l) e u) (s : ∀ x, (0 ≤ x → x < m → l ≤ nd x) → e' x = e x ∧ u' x = u x) : Tgh D m (Lev nd m l) e' u' := fun a b hab ha hb hc => by
  have h1 := h a b hab ha hb hc
  have ea : e' a = e a := (s a fun h2 h3 => by
    rcases ha with z | z
    · omega
    · exact z.2.2).1
  have eb : u' b = u b := (s b fun h2 h3 => by
    rcases hb with z | z
    · omega
    · exact z.2.2).2
  rw [ea, eb]
  exact h1
theorem pot_all (g : GapOk D q m) (nd : Int → Int) (N : Int) (hN : ∀ t, 0 ≤ t → t < m → nd t < N) : ∀ k : Nat, ∃ e u, Pot D q m (Lev nd m (N - k)) e u ∧ ∀ l, N - k ≤ l → Tgh D m (Lev nd m l) e u
  | 0 => by
    have no : ∀ l x, N ≤ l → ¬ Lev nd m l x := fun l x hl h => by
      have := hN x h.1 h.2.1
      have := h.2.2
      omega
    refine ⟨fun _ => 0, fun _ => 0, ⟨rfl, rfl, fun a b hab ha hb => ?_, fun t h => absurd h (no _ t (by omega))⟩, fun l hl a b hab ha hb hc => ?_⟩
    · rcases ha with ha | ha
      · rcases hb with hb | hb
        · subst ha hb
          have := g.fin
          try dsimp only
          omega
        · exact absurd hb (no _ _ (by omega))
      · exact absurd ha (no _ _ (by omega))
    · rcases ha with ha | ha
      · rcases hb with hb | hb
        · subst ha hb
          have := g.fin
          try dsimp only
          omega
        · exact absurd hb (no _ _ (by omega))
      · exact absurd ha (no _ _ (by omega))
  | k + 1 => by
    obtain ⟨e, u, p, ti⟩ := pot_all g nd N hN k
    have el : N - (k : Int) = (N - ((k + 1 : Nat) : Int)) + 1 := by omega
    have ti1 := ti (N - (k : Int)) (Int.le_refl _)
    rw [el] at p ti1
    obtain ⟨e', u', p', t', s'⟩ := pot_level g nd (N - ((k + 1 : Nat) : Int)) p ti1 m.toNat (by have := g.m0; omega)
    have es : (fun t => 0 ≤ t ∧ t < m ∧ ((N - ((k + 1 : Nat) : Int)) + 1 ≤ nd t ∨ nd t = (N - ((k + 1 : Nat) : Int)) ∧ t < (m.toNat : Int))) = Lev nd m (N - ((k + 1 : Nat) : Int)) := by
      have := g.m0
      funext x
      apply propext
      unfold Lev
      constructor
      · rintro ⟨h1, h2, h3 | ⟨h3, h4⟩⟩
        · exact ⟨h1, h2, by omega⟩
        · exact ⟨h1, h2, by omega⟩
      · rintro ⟨h1, h2, h3⟩
        refine ⟨h1, h2, ?_⟩
        by_cases z : nd x = (N - ((k + 1 : Nat) : Int))
        · exact .inr ⟨z, by omega⟩
        · exact .inl (by omega)
    rw [es] at p' t'
    refine ⟨e', u', p', fun l hl => ?_⟩
    by_cases z : l = N - ((k + 1 : Nat) : Int)
    · subst z
      exact t'
    · exact tgh_keep (ti l (by omega)) fun x hx => s' x fun h1 h2 => by
        have := hx h1 h2
        omega
end
theorem gapOk {T : Tar} (o : T.Ok) {ps br : List Int} (hp : Nn ps) : GapOk (gapC T ps br) (fun t => T.rate 0 * gi ps t) ps.length :=
  ⟨by omega, gapC_end, fun a a' b b' h0 h1 h2 h3 h4 => gapC_qi o hp h0 h1 h2 h3 h4, fun a t b h0 h1 h2 h3 => gapC_sub o hp h0 h1 h2 h3⟩
/-- potentials for a run: all moments, each lane at its least -/
theorem pot_run {T : Tar} (o : T.Ok) {ps ns br : List Int} (hp : Nn ps) (hn : ∀ t : Int, 0 ≤ t → t < ps.length → 0 ≤ gi ns t) :
    ∃ e u, Pot (gapC T ps br) (fun t => T.rate 0 * gi ps t) ps.length (fun t => 0 ≤ t ∧ t < ps.length) e u ∧ ∀ l : Int, 0 ≤ l → Tgh (gapC T ps br) ps.length (Lev (gi ns) ps.length l) e u := by
  have hN : ∀ t : Int, 0 ≤ t → t < ps.length → gi ns t < maxN ns + 1 := fun t h0 h1 => by
    by_cases z : t < ns.length
    · have := (maxN_le ns 0).2 _ (gi_mem h0 z)
      unfold maxN
      omega
    · have e : gi ns t = 0 := by
        unfold gi
        rw [List.getD_eq_getElem?_getD, List.getElem?_eq_none (by omega)]
        rfl
      have := (maxN_le ns 0).1
      unfold maxN
      omega
  have m0 : 0 ≤ maxN ns := (maxN_le ns 0).1
  obtain ⟨e, u, p, t⟩ := pot_all (gapOk (br := br) o hp) (gi ns) (maxN ns + 1) hN (maxN ns + 1).toNat
  have el : maxN ns + 1 - (((maxN ns + 1).toNat : Nat) : Int) = 0 := by omega
  rw [el] at p t
  have es : Lev (gi ns) ps.length 0 = (fun t => 0 ≤ t ∧ t < (ps.length : Int)) := by
    funext x
    apply propext
    unfold Lev
    constructor
    · exact fun h => ⟨h.1, h.2.1⟩
    · exact fun h => ⟨h.1, h.2, hn x h.1 h.2⟩
  rw [es] at p
  exact ⟨e, u, p, t⟩
end Eb
namespace Eb
open PySem PySem.Spec PyProof.Rows L2
/-! ### what repr tells of data of any depth -/
def rReprD (K : PySem.W.Frag) : List V → Hp → VK → Prop := fun xs H Q => ∃ (a : Addr) (d : PyData), xs = [.ref a] ∧ Dp K H (.ref a) d ∧ d.showable = true ∧ d.hasDict = false ∧ d.depth ≤ 30 ∧ d.shown.length ≤ sizeLine ∧ Q (.str d.shown) H
theorem cr_reprD {X : Cx} (hgd : X.A.guards = some []) (hun : X.A.units + 64 < cLine) : CallR X (.builtin "repr") (rReprD X.K) := by
  intro pins s σ H xs us Q I r h
  obtain ⟨a, d, rfl, hd, hs, hn, hp, hl, q⟩ := h
  rw [Vals.ref1 r]
  obtain ⟨as, r1⟩ := Dp.reads I d _ _ hd rfl
  exact PySem.repr_of_reads' (h₀ := s.heap) r1 hs (PyData.noDict_hsm hn) hgd (by omega) (fun _ _ e => e) (fun h' u tk hk => ⟨.str _, H, I.kept hk, ⟨_, rfl⟩, q⟩) hl
structure Sh (c k : Nat) (d : PyData) : Prop where
  len : d.shown.length ≤ c
  sh : d.showable = true
  nd : d.hasDict = false
  dp : d.depth ≤ k
theorem sh_int {i : Int} (h0 : -(10 ^ 30) ≤ i) (h1 : i ≤ 10 ^ 30) : Sh 40 0 (.int i) := by
  have ha : i.natAbs < 10 ^ 39 := by omega
  refine ⟨?_, ?_, by simp only [PyData.hasDict], by simp only [PyData.depth]; exact Nat.le_refl _⟩
  · have := int_text_length_le10 (a := i) (k := 39) (by decide) ha
    simp only [PyData.shown]
    show (Str.ofString (toString i)).length ≤ 40
    rw [PySem.ofString_length]
    exact this
  · simp only [PyData.showable]
    apply decide_eq_true
    by_cases hz : i.natAbs = 0
    · rw [hz]
      decide
    · refine (Nat.log2_lt hz).mpr (Nat.lt_trans ha ?_)
      decide +kernel
theorem sh_all {c k : Nat} : ∀ {ds : List PyData}, (∀ d, d ∈ ds → Sh c k d) → ((PyData.shownAll ds).map (·.length)).sum ≤ ds.length * c ∧ (PyData.shownAll ds).length = ds.length ∧ PyData.showableAll ds = true ∧ PyData.hasDictAll ds = false ∧ PyData.depthAll ds ≤ k
  | [], _ => by simp [PyData.shownAll, PyData.showableAll, PyData.hasDictAll, PyData.depthAll]
  | d :: ds, h => by
    obtain ⟨h1, h2, h3, h4, h5⟩ := sh_all (ds := ds) fun e he => h e (List.mem_cons_of_mem _ he)
    have hd := h d (List.mem_cons_self ..)
    have := hd.len
    have := hd.dp
    refine ⟨?_, ?_, ?_, ?_, ?_⟩
    · simp only [PyData.shownAll, List.map_cons, List.sum_cons, List.length_cons, Nat.add_mul]
      omega
    · simp only [PyData.shownAll, List.length_cons, h2]
    · simp only [PyData.showableAll, hd.sh, h3, Bool.and_self]
    · simp only [PyData.hasDictAll, hd.nd, h4, Bool.or_self]
    · simp only [PyData.depthAll]
      omega
theorem sh_list {c k m : Nat} {ds : List PyData} (h : ∀ d, d ∈ ds → Sh c k d) (hm : ds.length ≤ m) : Sh (m * (c + 2) + 3) (k + 1) (.list ds) := by
  obtain ⟨h1, h2, h3, h4, h5⟩ := sh_all h
  have h6 := listText_len_le (PyData.shownAll ds)
  have h7 : ds.length * c ≤ m * c := Nat.mul_le_mul_right c hm
  refine ⟨?_, ?_, ?_, ?_⟩
  · simp only [PyData.shown, Nat.mul_add]
    omega
  · simp only [PyData.showable]
    exact h3
  · simp only [PyData.hasDict]
    exact h4
  · simp only [PyData.depth]
    omega
theorem sh_tuple {c k m : Nat} {ds : List PyData} (h : ∀ d, d ∈ ds → Sh c k d) (hm : ds.length ≤ m) : Sh (m * (c + 2) + 3) (k + 1) (.tuple ds) := by
  obtain ⟨h1, h2, h3, h4, h5⟩ := sh_all h
  have h6 := tupleText_len_le (PyData.shownAll ds)
  have h7 : ds.length * c ≤ m * c := Nat.mul_le_mul_right c hm
  refine ⟨?_, ?_, ?_, ?_⟩
  · simp only [PyData.shown, Nat.mul_add]
    omega
  · simp only [PyData.showable]
    exact h3
  · simp only [PyData.hasDict]
    exact h4
  · simp only [PyData.depth]
    omega
theorem Sh.mono {c c' k k' : Nat} {d : PyData} (h : Sh c k d) (hc : c ≤ c') (hk : k ≤ k') : Sh c' k' d := ⟨Nat.le_trans h.len hc, h.sh, h.nd, Nat.le_trans h.dp hk⟩
abbrev Big (x : Int) : Prop := -(10 ^ 30) ≤ x ∧ x ≤ 10 ^ 30
theorem sh_ints {ns : List Int} (h : ∀ x, x ∈ ns → Big x) : ∀ d, d ∈ ns.map PyData.int → Sh 40 0 d := fun d hd => by
  obtain ⟨x, hx, rfl⟩ := List.mem_map.mp hd
  exact sh_int (h x hx).1 (h x hx).2
/-- the run, a plan, a paper: what is kept -/
def keptD (ps ns br : List Int) (pl : List (List Int)) (gs : List Int) (hs : List (List Int)) : List PyData :=
  [.tuple [.list (ps.map PyData.int), .list (ns.map PyData.int), .list (br.map PyData.int)], .list (rowsD pl), .tuple [.tuple (gs.map PyData.int), .tuple (hs.map fun r => .tuple (r.map PyData.int))]]
structure KeptB (ps ns br : List Int) (pl : List (List Int)) (gs : List Int) (hs : List (List Int)) : Prop where
  pl1 : ps.length ≤ 100
  pb : ∀ x, x ∈ ps → Big x
  nl : ns.length ≤ 100
  nb : ∀ x, x ∈ ns → Big x
  bl : br.length ≤ 100
  bb : ∀ x, x ∈ br → Big x
  ql : pl.length ≤ 100
  qr : ∀ r, r ∈ pl → r.length ≤ 100
  qb : ∀ r, r ∈ pl → ∀ x, x ∈ r → Big x
  gl : gs.length ≤ 100
  gb : ∀ x, x ∈ gs → Big x
  hl : hs.length ≤ 100
  hr : ∀ r, r ∈ hs → r.length ≤ 100
  hb : ∀ r, r ∈ hs → ∀ x, x ∈ r → Big x
theorem sh_kept {ps ns br : List Int} {pl : List (List Int)} {gs : List Int} {hs : List (List Int)} (h : KeptB ps ns br pl gs hs) : Sh 6000000 10 (.list (keptD ps ns br pl gs hs)) := by
  have a1 : Sh 1300000 8 (.tuple [.list (ps.map PyData.int), .list (ns.map PyData.int), .list (br.map PyData.int)]) := by
    refine (sh_tuple (c := 4203) (k := 1) (m := 3) (fun d hd => ?_) (Nat.le_refl _)).mono (by decide) (by decide)
    rcases List.mem_cons.mp hd with rfl | hd
    · exact (sh_list (m := 100) (sh_ints h.pb) (by rw [List.length_map]; exact h.pl1)).mono (by decide) (by decide)
    · rcases List.mem_cons.mp hd with rfl | hd
      · exact (sh_list (m := 100) (sh_ints h.nb) (by rw [List.length_map]; exact h.nl)).mono (by decide) (by decide)
      · rw [List.mem_singleton.mp hd]
        exact (sh_list (m := 100) (sh_ints h.bb) (by rw [List.length_map]; exact h.bl)).mono (by decide) (by decide)
  have a2 : Sh 900000 8 (.list (rowsD pl)) := by
    refine (sh_list (c := 4203) (k := 1) (m := 100) (fun d hd => ?_) (by rw [List.length_map]; exact h.ql)).mono (by decide) (by decide)
    obtain ⟨r, hr, rfl⟩ := List.mem_map.mp hd
    exact sh_list (m := 100) (sh_ints (h.qb r hr)) (by rw [List.length_map]; exact h.qr r hr)
  have a3 : Sh 900000 8 (.tuple (hs.map fun r => PyData.tuple (r.map PyData.int))) := by
    refine (sh_tuple (c := 4203) (k := 1) (m := 100) (fun d hd => ?_) (by rw [List.length_map]; exact h.hl)).mono (by decide) (by decide)
    obtain ⟨r, hr, rfl⟩ := List.mem_map.mp hd
    exact sh_tuple (m := 100) (sh_ints (h.hb r hr)) (by rw [List.length_map]; exact h.hr r hr)
  have a4 : Sh 900000 8 (.tuple (gs.map PyData.int)) := (sh_tuple (m := 100) (sh_ints h.gb) (by rw [List.length_map]; exact h.gl)).mono (by decide) (by decide)
  have a5 : Sh 1800010 9 (.tuple [.tuple (gs.map PyData.int), .tuple (hs.map fun r => .tuple (r.map PyData.int))]) := by
    refine (sh_tuple (c := 900000) (k := 8) (m := 2) (fun d hd => ?_) (Nat.le_refl _)).mono (by decide) (by decide)
    rcases List.mem_cons.mp hd with rfl | hd
    · exact a4
    · rw [List.mem_singleton.mp hd]
      exact a3
  have a6 : Sh 6000000 10 (.list (keptD ps ns br pl gs hs)) := by
    refine (sh_list (c := 1900000) (k := 9) (m := 3) (fun d hd => ?_) (Nat.le_refl _)).mono (by decide) (by decide)
    rcases List.mem_cons.mp hd with rfl | hd
    · exact a1.mono (by decide) (by decide)
    · rcases List.mem_cons.mp hd with rfl | hd
      · exact a2.mono (by decide) (by decide)
      · rw [List.mem_singleton.mp hd]
        exact a5.mono (by decide) (by decide)
  exact a6.mono (by decide) (by decide)
theorem dp_pap {K : PySem.W.Frag} (gs : List Int) (hs : List (List Int)) : DpP K (papR K gs hs) (.tuple [.tuple (gs.map PyData.int), .tuple (hs.map fun r => .tuple (r.map PyData.int))]) :=
  dp_tp ⟨dp_tp (dp_ints gs), dp_tp (DpPs.map (fun r => dp_tp (dp_ints r)) hs), trivial⟩
theorem dp_kept {K : PySem.W.Frag} (ps ns br : List Int) (pl : List (List Int)) (gs : List Int) (hs : List (List Int)) : DpPs K [runR K ps ns br, ILL pl, papR K gs hs] (keptD ps ns br pl gs hs) :=
  ⟨dp_tp ⟨dp_ls (dp_ints ps), dp_ls (dp_ints ns), dp_ls (dp_ints br), trivial⟩, dp_ls (dp_rows pl), dp_pap gs hs, trivial⟩
theorem rc_repr {K : PySem.W.Frag} {F : Fr} {μ : Mu} {S : Rv → Prop} {ps ns br : List Int} {pl : List (List Int)} {gs : List Int} {hs : List (List Int)} (h : KeptB ps ns br pl gs hs) (s : S (.z (vS (PyData.list (keptD ps ns br pl gs hs)).shown))) :
    Rcb F μ (rReprD K) [.z (LS [runR K ps ns br, ILL pl, papR K gs hs])] S := fun Z H w vs al Q k => by
  obtain ⟨v, rfl, hv⟩ := alr1 al
  have hd := dr_z (F := F) (μ := μ) (dp_ls (K := K) (dp_kept ps ns br pl gs hs)) Z H v w hv
  obtain ⟨a, us, rfl, _, _⟩ := hv
  have b := sh_kept h
  exact ⟨a, _, rfl, hd, b.sh, b.nd, Nat.le_trans b.dp (by decide), Nat.le_trans b.len (by decide), k _ _ Z H s w (Same.refl Z) rfl⟩
end Eb
namespace Eb
/-! ### the cheapest plan's rows: what they cost -/
section
variable {T : Tar} {ps ns br row row' : List Int}
theorem stok_iff {k : Int} : StOk T br row k ↔ 0 ≤ gi row k ∧ gi row k ≤ (T.rates.length : Int) ∧ (bef T br row k ≤ gi row k ∨ gi row k = 0) := by
  unfold StOk Tar.step
  constructor
  · rintro ⟨h0, h1, h2⟩
    refine ⟨h0, h1, ?_⟩
    by_cases ha : bef T br row k ≤ gi row k
    · exact .inl ha
    · rw [if_neg ha] at h2
      by_cases hb : gi row k = 0
      · exact .inr hb
      · rw [if_neg hb] at h2
        exact absurd rfl h2
  · rintro ⟨h0, h1, h2⟩
    refine ⟨h0, h1, ?_⟩
    by_cases ha : bef T br row k ≤ gi row k
    · rw [if_pos ha]
      exact fun z => nomatch z
    · rw [if_neg ha, if_pos (h2.resolve_left ha)]
      exact fun z => nomatch z
theorem bef_congr {k : Nat} (h : ∀ j : Nat, j < k → gi row' j = gi row j) : bef T br row' k = bef T br row k := by
  unfold bef
  by_cases hf : Fresh br k
  · rw [if_pos hf, if_pos hf]
  · rw [if_neg hf, if_neg hf]
    have hk : k ≠ 0 := fun z => hf (.inl (by omega))
    have e : ((k : Int)) - 1 = ((k - 1 : Nat) : Int) := by omega
    rw [e]
    exact h (k - 1) (by omega)
theorem cost_congr : ∀ k : Nat, (∀ j : Nat, j < k → gi row' j = gi row j) → rowCostUp T ps br row' k = rowCostUp T ps br row k
  | 0, _ => rfl
  | k + 1, h => by
    have ih := cost_congr k fun j hj => h j (by omega)
    unfold rowCostUp
    rw [ih, h k (by omega), bef_congr fun j hj => h j (by omega)]
theorem step_off {b : Int} (h : b ≤ (T.rates.length : Int)) : T.step b T.rates.length = some 0 := by
  unfold Tar.step
  rw [if_pos h]
/-- being off costs nothing -/
theorem cost_off (hr : ∀ j : Nat, 0 ≤ gi row j ∧ gi row j ≤ (T.rates.length : Int)) (i : Nat) : ∀ d : Nat, (∀ j : Nat, i ≤ j → j < i + d → gi row j = (T.rates.length : Int)) → rowCostUp T ps br row (i + d) = rowCostUp T ps br row i
  | 0, _ => rfl
  | d + 1, h => by
    have ih := cost_off hr i d fun j h1 h2 => h j h1 (by omega)
    have hb := (bef_range (T := T) (br := br) (row := row) (k := i + d) fun j _ => hr j).2
    show rowCostUp T ps br row (i + d) + T.rate (gi row ((i + d : Nat) : Int)) * gi ps ((i + d : Nat) : Int) + (T.step (bef T br row ((i + d : Nat) : Int)) (gi row ((i + d : Nat) : Int))).getD 0 = _
    rw [ih, h (i + d) (by omega) (by omega), rate_off, step_off hb, Int.zero_mul]
    simp
theorem gi_set {xs : List Int} {k j : Nat} {x : Int} (hk : k < xs.length) : gi (xs.set k x) j = if j = k then x else gi xs j := by
  unfold gi
  rw [Int.toNat_natCast, List.getD_eq_getElem?_getD, List.getD_eq_getElem?_getD, List.getElem?_set]
  by_cases h : k = j
  · subst h
    simp [hk]
  · have h2 : ¬ j = k := fun z => h z.symm
    simp [h, h2]
theorem gi_fill {xs : List Int} {a b j : Nat} {s : Int} (hj : j < xs.length) : gi (fill xs a b s) j = if a ≤ j ∧ j < b then s else gi xs j := by
  unfold gi
  rw [Int.toNat_natCast]
  exact fill_get xs a b s j hj
theorem gi_out {xs : List Int} {j : Nat} (h : xs.length ≤ j) : gi xs j = 0 := by
  unfold gi
  rw [Int.toNat_natCast, List.getD_eq_getElem?_getD, List.getElem?_eq_none h]
  rfl
end
/-- what holds of a lane's row behind k moments -/
structure LaneI (T : Tar) (ps ns br : List Int) (lane : Int) (k : Nat) : Prop where
  len : (laneUp T ps ns br lane k).1.length = ps.length
  lst : (bestLane T ps ns br (lane - 1) k).2 = match (laneUp T ps ns br lane k).2 with | none => -1 | some j => (j : Int)
  aft : ∀ j : Nat, j < ps.length → (bestLane T ps ns br (lane - 1) k).2 < j → gi (laneUp T ps ns br lane k).1 j = (T.rates.length : Int)
  ok : ∀ j : Nat, j < ps.length → StOk T br (laneUp T ps ns br lane k).1 j
  hot : ∀ j : Nat, j < k → lane ≤ gi ns j → gi (laneUp T ps ns br lane k).1 j = 0
  cost : rowCostUp T ps br (laneUp T ps ns br lane k).1 ((bestLane T ps ns br (lane - 1) k).2 + 1).toNat = (bestLane T ps ns br (lane - 1) k).1
section
variable {T : Tar} {ps ns br row row' : List Int}
/-- the gap ahead of k, and k itself -/
theorem gap_cost (o : T.Ok) {l k : Nat} {s : Int} (hl : l < k) (hk : k < ps.length) (hs : s = gapState T ps br l k) (hr : ∀ j : Nat, 0 ≤ gi row j ∧ gi row j ≤ (T.rates.length : Int)) (h0 : gi row l = 0) (h1 : ∀ j : Nat, l < j → j < k → gi row j = s) (h2 : gi row k = 0) :
    rowCostUp T ps br row (k + 1) = rowCostUp T ps br row (l + 1) + T.rate 0 * gi ps k + (if brk br l k = true then T.wake T.rates.length else idleC T (psum ps ((l : Int) + 1) k)) := by
  have hpos := o.pos
  have e1 : rowCostUp T ps br row (k + 1) = rowCostUp T ps br row k + T.rate 0 * gi ps k + (T.step (bef T br row k) 0).getD 0 := by
    show rowCostUp T ps br row k + T.rate (gi row k) * gi ps k + (T.step (bef T br row k) (gi row k)).getD 0 = _
    rw [h2]
  rw [e1]
  by_cases hb : brk br l k = true
  · rw [if_pos hb]
    have es : s = (T.rates.length : Int) := by
      rw [hs]
      unfold gapState
      rw [if_pos hb]
    have e2 : rowCostUp T ps br row k = rowCostUp T ps br row (l + 1) := by
      have := cost_off (T := T) (ps := ps) (br := br) (row := row) hr (l + 1) (k - (l + 1)) fun j h3 h4 => by
        rw [h1 j (by omega) (by omega), es]
      rw [show l + 1 + (k - (l + 1)) = k by omega] at this
      exact this
    have e3 : bef T br row k = (T.rates.length : Int) := by
      unfold bef
      by_cases hf : Fresh br k
      · rw [if_pos hf]
      · rw [if_neg hf]
        by_cases hlk : k = l + 1
        · obtain ⟨m, hm, q1, q2⟩ := brk_iff.mp hb
          exact absurd (Or.inr (by rw [show (k : Int) - 1 = m by omega]; exact hm)) hf
        · rw [show (k : Int) - 1 = ((k - 1 : Nat) : Int) by omega, h1 (k - 1) (by omega) (by omega), es]
    rw [e2, e3]
    unfold Tar.step
    rw [if_neg (by omega), if_pos rfl]
    rfl
  · rw [if_neg hb]
    have es : s = T.idle (psum ps ((l : Int) + 1) k) := by
      rw [hs]
      unfold gapState
      rw [if_neg hb]
    have nf : ∀ j : Nat, l < j → j ≤ k → ¬ Fresh br j := fun j q1 q2 hf => by
      rcases hf with z | z
      · omega
      · exact hb (brk_iff.mpr ⟨_, z, by omega, by omega⟩)
    have hsr := idle_range T (psum ps ((l : Int) + 1) k)
    rw [← es] at hsr
    have e2 : ∀ d : Nat, l + 1 + d ≤ k → rowCostUp T ps br row (l + 1 + d) = rowCostUp T ps br row (l + 1) + T.rate s * psum ps ((l : Int) + 1) ((l : Int) + 1 + d) := fun d => by
      induction d with
      | zero =>
        intro _
        rw [show (l : Int) + 1 + ((0 : Nat) : Int) = (l : Int) + 1 by omega, psum_nil (by omega) (by omega), Int.mul_zero, Int.add_zero, Nat.add_zero]
      | succ d ih =>
        intro hd
        have ih := ih (by omega)
        have hbf : T.step (bef T br row ((l + 1 + d : Nat) : Int)) s = some 0 := by
          unfold bef
          rw [if_neg (nf (l + 1 + d) (by omega) (by omega))]
          unfold Tar.step
          rw [if_pos]
          by_cases hz : d = 0
          · subst hz
            rw [show ((l + 1 + 0 : Nat) : Int) - 1 = (l : Int) by omega, h0]
            exact hsr.1
          · rw [show ((l + 1 + d : Nat) : Int) - 1 = ((l + d : Nat) : Int) by omega, h1 (l + d) (by omega) (by omega)]
            exact Int.le_refl _
        show rowCostUp T ps br row (l + 1 + d) + T.rate (gi row ((l + 1 + d : Nat) : Int)) * gi ps ((l + 1 + d : Nat) : Int) + (T.step (bef T br row ((l + 1 + d : Nat) : Int)) (gi row ((l + 1 + d : Nat) : Int))).getD 0 = _
        rw [h1 (l + 1 + d) (by omega) (by omega), hbf, ih]
        have ep : psum ps ((l : Int) + 1) ((l : Int) + 1 + ((d + 1 : Nat) : Int)) = psum ps ((l : Int) + 1) ((l : Int) + 1 + (d : Int)) + gi ps ((l + 1 + d : Nat) : Int) := by
          rw [psum_add (c := (l : Int) + 1 + (d : Int)) (by omega) (by omega) (by omega) (by omega)]
          congr 1
          rw [show ((l : Int) + 1 + ((d + 1 : Nat) : Int)) = ((l : Int) + 1 + (d : Int)) + 1 by omega, psum_one (by omega) (by omega)]
          congr 1
        rw [ep, Int.mul_add]
        simp only [Option.getD_some]
        omega
    have e3 := e2 (k - (l + 1)) (by omega)
    rw [show l + 1 + (k - (l + 1)) = k by omega, show (l : Int) + 1 + ((k - (l + 1) : Nat) : Int) = (k : Int) by omega] at e3
    have e4 := idle_cost T (psum ps ((l : Int) + 1) k)
    rw [← es] at e4
    unfold Tar.cost at e4
    have e5 : (T.step (bef T br row k) 0).getD 0 = T.wake s := by
      unfold bef
      rw [if_neg (nf k hl (Nat.le_refl _))]
      by_cases hlk : k = l + 1
      · rw [show (k : Int) - 1 = (l : Int) by omega, h0]
        have ep : psum ps ((l : Int) + 1) k = 0 := by
          rw [show (k : Int) = (l : Int) + 1 by omega]
          exact psum_nil (by omega) (by omega)
        rw [ep, Int.mul_zero, idleC_0 o] at e4
        unfold Tar.step
        rw [if_pos (Int.le_refl _)]
        show (0 : Int) = _
        omega
      · rw [show (k : Int) - 1 = ((k - 1 : Nat) : Int) by omega, h1 (k - 1) (by omega) (by omega)]
        unfold Tar.step
        by_cases hz : s ≤ 0
        · have : s = 0 := by omega
          rw [if_pos hz, this]
          exact (wake_0 o).symm
        · rw [if_neg hz, if_pos rfl]
          rfl
    rw [e3, e5]
    omega
theorem range_of (h : ∀ j : Nat, j < ps.length → StOk T br row j) (hl : row.length = ps.length) : ∀ j : Nat, 0 ≤ gi row j ∧ gi row j ≤ (T.rates.length : Int) := fun j => by
  by_cases hj : j < ps.length
  · exact ⟨(h j hj).1, (h j hj).2.1⟩
  · rw [gi_out (by omega)]
    omega
theorem laneI (o : T.Ok) (hn : ns.length = ps.length) (lane : Int) : ∀ k : Nat, k ≤ ps.length → LaneI T ps ns br lane k
  | 0, _ => by
    have hg : ∀ j : Nat, j < ps.length → gi (List.replicate ps.length (T.rates.length : Int)) j = (T.rates.length : Int) := fun j hj => by
      unfold gi
      rw [Int.toNat_natCast, List.getD_eq_getElem?_getD, List.getElem?_replicate, if_pos hj]
      rfl
    refine ⟨by simp [laneUp], rfl, fun j hj _ => hg j hj, fun j hj => stok_iff.mpr ?_, fun j hj => absurd hj (Nat.not_lt_zero j), rfl⟩
    have hgj : gi (laneUp T ps ns br lane 0).1 j = (T.rates.length : Int) := hg j hj
    rw [hgj]
    refine ⟨by omega, Int.le_refl _, .inl ?_⟩
    unfold bef
    split
    · exact Int.le_refl _
    · rename_i hf
      have hk0 : j ≠ 0 := fun z => hf (Or.inl (by omega))
      rw [show (j : Int) - 1 = ((j - 1 : Nat) : Int) by omega]
      show gi (List.replicate ps.length (T.rates.length : Int)) ((j - 1 : Nat) : Int) ≤ _
      rw [hg (j - 1) (by omega)]
      exact Int.le_refl _
  | k + 1, hk => by
    have I := laneI o hn lane k (by omega)
    have hpos := o.pos
    have hl2 := bestLane_last T ps ns br (lane - 1) k
    have ilen := I.len
    have iok := I.ok
    have ihot := I.hot
    have hrow := range_of (T := T) (ps := ps) (br := br) iok ilen
    by_cases hw : lane ≤ gi ns k
    · have hb : bestLane T ps ns br (lane - 1) (k + 1) = ((bestLane T ps ns br (lane - 1) k).1 + T.rate 0 * gi ps k + (if (bestLane T ps ns br (lane - 1) k).2 < 0 ∨ brk br (bestLane T ps ns br (lane - 1) k).2 k = true then T.wake T.rates.length else idleC T (psum ps ((bestLane T ps ns br (lane - 1) k).2 + 1) k)), (k : Int)) := by
        conv => lhs; unfold bestLane
        dsimp only
        rw [if_pos (by omega)]
      cases hlast : (laneUp T ps ns br lane k).2 with
      | none =>
        have hu := laneUp_new hw hlast
        have hl : (bestLane T ps ns br (lane - 1) k).2 = -1 := by rw [I.lst, hlast]
        have hc : (bestLane T ps ns br (lane - 1) k).1 = 0 := by
          rw [← I.cost, hl]
          rfl
        have haft := I.aft
        rw [hl] at haft
        generalize hrow0 : (laneUp T ps ns br lane k).1 = row0 at *
        have hg : ∀ j : Nat, gi (row0.set k 0) j = if j = k then 0 else gi row0 j := fun j => gi_set (by rw [ilen]; omega)
        have hlen : (row0.set k 0).length = ps.length := by rw [List.length_set]; exact ilen
        have hrg : ∀ j : Nat, 0 ≤ gi (row0.set k 0) j ∧ gi (row0.set k 0) j ≤ (T.rates.length : Int) := fun j => by
          rw [hg j]
          split
          · omega
          · exact hrow j
        have hoff : ∀ j : Nat, j < ps.length → j ≠ k → gi (row0.set k 0) j = (T.rates.length : Int) := fun j hj hne => by
          rw [hg j, if_neg hne]
          exact haft j hj (by omega)
        have hbk : bef T br (row0.set k 0) k = (T.rates.length : Int) := by
          unfold bef
          split
          · rfl
          · rename_i hf
            have hk0 : k ≠ 0 := fun z => hf (Or.inl (by omega))
            rw [show (k : Int) - 1 = ((k - 1 : Nat) : Int) by omega]
            exact hoff (k - 1) (by omega) (by omega)
        refine ⟨?_, ?_, ?_, ?_, ?_, ?_⟩
        · rw [hu]
          exact hlen
        · rw [hu, hb]
        · intro j hj hlt
          rw [hb] at hlt
          rw [hu]
          have hlt2 : (k : Int) < j := hlt
          exact hoff j hj (by omega)
        · intro j hj
          rw [hu]
          refine stok_iff.mpr ⟨(hrg j).1, (hrg j).2, ?_⟩
          show bef T br (row0.set k 0) j ≤ gi (row0.set k 0) j ∨ gi (row0.set k 0) j = 0
          by_cases hjk : j = k
          · subst hjk
            right
            rw [hg, if_pos rfl]
          · left
            rw [hoff j hj hjk]
            exact (bef_range (T := T) (br := br) (row := row0.set k 0) (k := j) fun i _ => hrg i).2
        · intro j hj hn2
          rw [hu]
          show gi (row0.set k 0) j = 0
          rw [hg j]
          split
          · rfl
          · have := ihot j (by omega) hn2
            exact this
        · rw [hu, hb]
          show rowCostUp T ps br (row0.set k 0) ((k : Int) + 1).toNat = _
          rw [show ((k : Int) + 1).toNat = k + 1 by omega]
          show rowCostUp T ps br (row0.set k 0) k + T.rate (gi (row0.set k 0) k) * gi ps k + (T.step (bef T br (row0.set k 0) k) (gi (row0.set k 0) k)).getD 0 = _
          have e0 : rowCostUp T ps br (row0.set k 0) k = 0 := by
            have := cost_off (T := T) (ps := ps) (br := br) hrg 0 k fun j h3 h4 => hoff j (by omega) (by omega)
            rw [Nat.zero_add] at this
            exact this
          rw [e0, hbk, hg k, if_pos rfl]
          rw [if_pos (.inl (by omega)), hc]
          unfold Tar.step
          rw [if_neg (by omega), if_pos rfl]
          rfl
      | some l =>
        have hu := laneUp_go hw hlast
        have hlk := laneUp_last T ps ns br lane k l hlast
        have hl : (bestLane T ps ns br (lane - 1) k).2 = (l : Int) := by rw [I.lst, hlast]
        have hcost := I.cost
        have haft := I.aft
        rw [hl] at haft hcost
        rw [show ((l : Int) + 1).toNat = l + 1 by omega] at hcost
        have hrl : gi (laneUp T ps ns br lane k).1 l = 0 := laneUp_zero hlast (by omega)
        generalize hrow0 : (laneUp T ps ns br lane k).1 = row0 at *
        generalize hgs : gapState T ps br l k = s at hu
        have hsr : 0 ≤ s ∧ s ≤ (T.rates.length : Int) := by
          rw [← hgs]
          unfold gapState
          split
          · omega
          · exact idle_range T _
        have hlen0 : (row0.set k 0).length = ps.length := by rw [List.length_set]; exact ilen
        have hlen : (fill (row0.set k 0) (l + 1) k s).length = ps.length := by rw [fill_length]; exact hlen0
        have hg : ∀ j : Nat, j < ps.length → gi (fill (row0.set k 0) (l + 1) k s) j = if l + 1 ≤ j ∧ j < k then s else if j = k then 0 else gi row0 j := fun j hj => by
          rw [gi_fill (by omega), gi_set (by rw [ilen]; omega)]
        have hrg : ∀ j : Nat, 0 ≤ gi (fill (row0.set k 0) (l + 1) k s) j ∧ gi (fill (row0.set k 0) (l + 1) k s) j ≤ (T.rates.length : Int) := fun j => by
          by_cases hj : j < ps.length
          · rw [hg j hj]
            split
            · exact hsr
            · split
              · omega
              · exact hrow j
          · rw [gi_out (by omega)]
            omega
        have hlow : ∀ j : Nat, j < l + 1 → gi (fill (row0.set k 0) (l + 1) k s) j = gi row0 j := fun j hj => by
          rw [hg j (by omega), if_neg (by omega), if_neg (by omega)]
        have hmid : ∀ j : Nat, l < j → j < k → gi (fill (row0.set k 0) (l + 1) k s) j = s := fun j h1 h2 => by
          rw [hg j (by omega), if_pos (by omega)]
        have hk0 : gi (fill (row0.set k 0) (l + 1) k s) k = 0 := by
          rw [hg k (by omega), if_neg (by omega), if_pos rfl]
        have hup : ∀ j : Nat, j < ps.length → k < j → gi (fill (row0.set k 0) (l + 1) k s) j = (T.rates.length : Int) := fun j h1 h2 => by
          rw [hg j h1, if_neg (by omega), if_neg (by omega)]
          exact haft j h1 (by omega)
        have hgc := gap_cost (T := T) (ps := ps) (br := br) o hlk (by omega) hgs.symm hrg (by rw [hlow l (by omega)]; exact hrl) hmid hk0
        refine ⟨?_, ?_, ?_, ?_, ?_, ?_⟩
        · rw [hu]
          exact hlen
        · rw [hu, hb]
        · intro j hj hlt
          rw [hb] at hlt
          rw [hu]
          have hlt2 : (k : Int) < j := hlt
          exact hup j hj (by omega)
        · intro j hj
          rw [hu]
          refine stok_iff.mpr ⟨(hrg j).1, (hrg j).2, ?_⟩
          show bef T br (fill (row0.set k 0) (l + 1) k s) j ≤ gi (fill (row0.set k 0) (l + 1) k s) j ∨ gi (fill (row0.set k 0) (l + 1) k s) j = 0
          have hbr := (bef_range (T := T) (br := br) (row := fill (row0.set k 0) (l + 1) k s) (k := j) fun i _ => hrg i).2
          by_cases h1 : j < l + 1
          · have h2 := (stok_iff.mp (iok j hj)).2.2
            rw [hlow j h1, bef_congr fun i hi => hlow i (by omega)]
            exact h2
          · by_cases h2 : j < k
            · left
              rw [hmid j (by omega) h2]
              by_cases hbk : brk br l k = true
              · have es : s = (T.rates.length : Int) := by
                  rw [← hgs]
                  unfold gapState
                  rw [if_pos hbk]
                rw [es] at hbr ⊢
                exact hbr
              · unfold bef
                rw [if_neg]
                · rw [show (j : Int) - 1 = ((j - 1 : Nat) : Int) by omega]
                  by_cases h3 : j = l + 1
                  · rw [show j - 1 = l by omega, hlow l (by omega), hrl]
                    exact hsr.1
                  · rw [hmid (j - 1) (by omega) (by omega)]
                    exact Int.le_refl _
                · rintro (z | z)
                  · omega
                  · exact hbk (brk_iff.mpr ⟨_, z, by omega, by omega⟩)
            · by_cases h3 : j = k
              · subst h3
                exact .inr hk0
              · left
                rw [hup j hj (by omega)]
                exact hbr
        · intro j hj hn2
          rw [hu]
          show gi (fill (row0.set k 0) (l + 1) k s) j = 0
          by_cases h1 : j < l + 1
          · rw [hlow j h1]
            exact ihot j (by omega) hn2
          · by_cases h2 : j = k
            · subst h2
              exact hk0
            · have h3 := ihot j (by omega) hn2
              rw [haft j (by omega) (by omega)] at h3
              omega
        · rw [hu, hb]
          show rowCostUp T ps br (fill (row0.set k 0) (l + 1) k s) ((k : Int) + 1).toNat = _
          rw [show ((k : Int) + 1).toNat = k + 1 by omega, hgc, cost_congr (l + 1) fun j hj => hlow j hj, hcost, hl]
          congr 1
          by_cases hbk : brk br l k = true
          · rw [if_pos hbk, if_pos (.inr hbk)]
          · rw [if_neg hbk, if_neg]
            rintro (z | z)
            · omega
            · exact hbk z
    · have hu := laneUp_no (T := T) (ps := ps) (br := br) hw
      have hb : bestLane T ps ns br (lane - 1) (k + 1) = bestLane T ps ns br (lane - 1) k := by
        conv => lhs; unfold bestLane
        dsimp only
        rw [if_neg (by omega)]
      refine ⟨by rw [hu]; exact I.len, by rw [hu, hb]; exact I.lst, by rw [hu, hb]; exact I.aft, by rw [hu]; exact I.ok, fun j hj hn2 => ?_, by rw [hu, hb]; exact I.cost⟩
      rw [hu]
      by_cases h2 : j = k
      · subst h2
        exact absurd hn2 hw
      · exact I.hot j (by omega) hn2
where
  laneUp_zero {T : Tar} {ps ns br : List Int} {lane : Int} {k l : Nat} (h : (laneUp T ps ns br lane k).2 = some l) (hk : k ≤ ps.length) : gi (laneUp T ps ns br lane k).1 l = 0 := by
    induction k with
    | zero => simp [laneUp] at h
    | succ k ih =>
      by_cases hw : lane ≤ gi ns k
      · cases hlast : (laneUp T ps ns br lane k).2 with
        | none =>
          have hu := laneUp_new hw hlast
          rw [hu] at h ⊢
          obtain rfl := Option.some.inj h
          show gi ((laneUp T ps ns br lane k).1.set k 0) k = 0
          rw [gi_set (by rw [laneUp_length]; omega), if_pos rfl]
        | some l2 =>
          have hu := laneUp_go hw hlast
          rw [hu] at h ⊢
          obtain rfl := Option.some.inj h
          show gi (fill ((laneUp T ps ns br lane k).1.set k 0) (l2 + 1) k (gapState T ps br l2 k)) k = 0
          rw [gi_fill (by rw [List.length_set, laneUp_length]; omega), if_neg (by omega), gi_set (by rw [laneUp_length]; omega), if_pos rfl]
      · have hu := laneUp_no (T := T) (ps := ps) (br := br) hw
        rw [hu] at h ⊢
        exact ih h (by omega)
/-- a lane's row: it may be, it is hot where it is needed, its cost -/
theorem lane_row (o : T.Ok) (hn : ns.length = ps.length) (lane : Int) : RowOk T br (laneRow T ps ns br lane) ps.length ∧ rowCost T ps br (laneRow T ps ns br lane) = (bestLane T ps ns br (lane - 1) ps.length).1 ∧ ∀ k : Nat, k < ps.length → lane ≤ gi ns k → gi (laneRow T ps ns br lane) k = 0 := by
  have I := laneI (br := br) o hn lane ps.length (Nat.le_refl _)
  unfold laneRow
  rw [hn]
  have hl2 := bestLane_last T ps ns br (lane - 1) ps.length
  have hrow := range_of (T := T) (ps := ps) (br := br) I.ok I.len
  refine ⟨⟨I.len, I.ok⟩, ?_, I.hot⟩
  unfold rowCost
  rw [I.len, ← I.cost]
  have := cost_off (T := T) (ps := ps) (br := br) hrow ((bestLane T ps ns br (lane - 1) ps.length).2 + 1).toNat (ps.length - ((bestLane T ps ns br (lane - 1) ps.length).2 + 1).toNat) fun j h3 h4 => I.aft j (by omega) (by omega)
  rw [show ((bestLane T ps ns br (lane - 1) ps.length).2 + 1).toNat + (ps.length - ((bestLane T ps ns br (lane - 1) ps.length).2 + 1).toNat) = ps.length by omega] at this
  exact this
theorem best_plan (o : T.Ok) (hn : ns.length = ps.length) : ∀ N : Nat, planCost T ps br ((List.range N).map fun (l : Nat) => laneRow T ps ns br ((l : Int) + 1)) = bestUp T ps ns br N
  | 0 => rfl
  | N + 1 => by
    have ih := best_plan o hn N
    have h1 := (lane_row (br := br) o hn ((N : Int) + 1)).2.1
    rw [show (N : Int) + 1 - 1 = (N : Int) by omega] at h1
    unfold planCost at ih ⊢
    rw [List.range_succ, List.map_append, List.map_append, List.sum_append, ih]
    simp only [List.map_cons, List.map_nil, List.sum_cons, List.sum_nil, Int.add_zero]
    rw [h1]
    rfl
theorem best_is (o : T.Ok) (hn : ns.length = ps.length) : planCost T ps br (chPlan T ps ns br) = bestC T ps ns br := best_plan o hn _
theorem cnt_lt (c : Nat) : ∀ N : Nat, ((List.range N).filter fun l => decide (l < c)).length = min c N
  | 0 => by simp
  | N + 1 => by
    have ih := cnt_lt c N
    rw [List.range_succ, List.filter_append, List.length_append, ih]
    by_cases h : N < c
    · simp [h]
      omega
    · simp [h]
      omega
theorem ch_fits (o : T.Ok) (r : RunOk ps ns br) : Fits T ps.length ns br (chPlan T ps ns br) := by
  have hn := r.len
  refine ⟨fun row hm => ?_, fun k hk => ?_⟩
  · obtain ⟨l, _, rfl⟩ := List.mem_map.mp hm
    exact (lane_row o hn _).1
  · have hk0 := r.nb k (by omega) (by omega)
    have hmx := (maxN_le ns 0).2 _ (gi_mem (ns := ns) (i := (k : Int)) (by omega) (by omega))
    have h1 := cnt_lt (gi ns k).toNat (maxN ns).toNat
    have h2 : ((List.range (maxN ns).toNat).filter fun l => decide (l < (gi ns k).toNat)).length ≤ hotN (chPlan T ps ns br) k := by
      unfold hotN chPlan
      rw [List.filter_map, List.length_map]
      refine filt_mono (fun l hl => ?_) _
      have hl2 := of_decide_eq_true hl
      exact decide_eq_true ((lane_row o hn _).2.2 k (by omega) (by omega))
    unfold maxN at h1 h2
    omega
theorem ch_few (r : RunL ps ns br) : (chPlan T ps ns br).length ≤ 30 := by
  unfold chPlan
  rw [List.length_map, List.length_range]
  rcases maxN_mem ns 0 with e | e
  · unfold maxN
    rw [e]
    decide
  · have := r.nd _ e
    unfold maxN
    omega
end
end Eb
namespace Eb
/-! ### potentials of the net: what a plan costs, the paper -/
def cst (T : Tar) (ps : List Int) : Pl → Pl → Int
  | .ground, .inn _ => T.wake T.rates.length
  | .inn t, .out _ => T.rate 0 * gi ps t
  | .out _, .inn _ => T.wake 0
  | .asleep _ b, .inn _ => T.wake b
  | .out _, .asleep t s => T.rate s * gi ps t
  | .asleep _ _, .asleep t s => T.rate s * gi ps t
  | _, _ => 0
section
variable {T : Tar} {ps ns br gs row : List Int} {pl : List (List Int)} {C : Int} {kv : KV1} {π : Pl → Int}
theorem way_cases {x : Way} (h : x ∈ allWays T ps br) : ∃ t : Nat, t < ps.length ∧ (x = ⟨.ground, .inn t, T.wake T.rates.length⟩ ∨ x = ⟨.inn t, .out t, T.rate 0 * gi ps t⟩ ∨
    (¬ Fresh br t ∧ ∃ b, b ∈ statesIn T br ((t : Int) - 1) ∧ b ≠ (T.rates.length : Int) ∧ (x = ⟨plAfter T ((t : Int) - 1) b, .inn t, T.wake b⟩ ∨ ∃ s, b ≤ s ∧ 1 ≤ s ∧ s < (T.rates.length : Int) ∧ x = ⟨plAfter T ((t : Int) - 1) b, .asleep t s, T.rate s * gi ps t⟩)) ∨
    ∃ s, s ∈ statesIn T br t ∧ s ≠ (T.rates.length : Int) ∧ x = ⟨plAfter T t s, .ground, 0⟩) := by
  unfold allWays at h
  obtain ⟨t, ht, h⟩ := List.mem_flatMap.mp h
  refine ⟨t, List.mem_range.mp ht, ?_⟩
  unfold waysAt waysInto at h
  rcases List.mem_append.mp h with h | h
  · rcases List.mem_append.mp h with h | h
    · rcases List.mem_cons.mp h with h | h
      · exact .inl h
      · exact .inr (.inl (List.mem_singleton.mp h))
    · split at h
      · cases h
      · rename_i hf
        refine .inr (.inr (.inl ⟨hf, ?_⟩))
        obtain ⟨b, hb, h⟩ := List.mem_flatMap.mp h
        unfold rgI at hb
        obtain ⟨j, hj, rfl⟩ := List.mem_map.mp hb
        have hj2 := List.mem_range.mp hj
        unfold waysB at h
        split at h
        · rename_i hbs
          refine ⟨_, hbs, by omega, ?_⟩
          rcases List.mem_cons.mp h with h | h
          · exact .inl h
          · obtain ⟨s, hs, rfl⟩ := List.mem_map.mp h
            unfold rg2 mx1 at hs
            obtain ⟨i, hi, rfl⟩ := List.mem_map.mp hs
            have hi2 := List.mem_range.mp hi
            refine .inr ⟨_, ?_, ?_, ?_, rfl⟩
            · split <;> omega
            · split <;> omega
            · split at hi2 <;> split <;> omega
        · cases h
  · obtain ⟨s, hs, rfl⟩ := List.mem_map.mp h
    obtain ⟨h1, h2⟩ := List.mem_filter.mp hs
    exact .inr (.inr (.inr ⟨s, h1, of_decide_eq_true h2, rfl⟩))
theorem plAfter_n {t : Int} : plAfter T t T.rates.length = .ground := by unfold plAfter; rw [if_pos rfl]
theorem plAfter_0 (o : T.Ok) {t : Int} : plAfter T t 0 = .out t := by
  have := o.pos
  unfold plAfter
  rw [if_neg (by omega), if_pos rfl]
theorem plAfter_s {t s : Int} (h : s ≠ (T.rates.length : Int)) (h0 : s ≠ 0) : plAfter T t s = .asleep t s := by
  unfold plAfter
  rw [if_neg h, if_neg h0]
/-- a way's cost is told by its ends -/
theorem way_cst (o : T.Ok) {x : Way} (h : x ∈ allWays T ps br) : x.c = cst T ps x.s x.e ∧ x.s ≠ x.e ∧ ((∃ t : Nat, t < ps.length ∧ x.s = .inn t ∧ x.e = .out t) ∨ ∀ t, x.s ≠ .inn t) := by
  obtain ⟨t, ht, h⟩ := way_cases h
  rcases h with rfl | rfl | ⟨hf, b, hb, hbn, rfl | ⟨s, h1, h2, h3, rfl⟩⟩ | ⟨s, hs, hsn, rfl⟩
  · exact ⟨rfl, fun z => (nomatch z), .inr fun _ z => (nomatch z)⟩
  · exact ⟨rfl, fun z => (nomatch z), .inl ⟨t, ht, rfl, rfl⟩⟩
  · by_cases h0 : b = 0
    · subst h0
      rw [plAfter_0 o]
      exact ⟨rfl, fun z => (nomatch z), .inr fun _ z => (nomatch z)⟩
    · rw [plAfter_s hbn h0]
      exact ⟨rfl, fun z => (nomatch z), .inr fun _ z => (nomatch z)⟩
  · by_cases h0 : b = 0
    · subst h0
      rw [plAfter_0 o]
      exact ⟨rfl, fun z => (nomatch z), .inr fun _ z => (nomatch z)⟩
    · rw [plAfter_s hbn h0]
      refine ⟨rfl, fun z => ?_, .inr fun _ z => (nomatch z)⟩
      injection z with z1 z2
      omega
  · by_cases h0 : s = 0
    · subst h0
      rw [plAfter_0 o]
      exact ⟨rfl, fun z => (nomatch z), .inr fun _ z => (nomatch z)⟩
    · rw [plAfter_s hsn h0]
      exact ⟨rfl, fun z => (nomatch z), .inr fun _ z => (nomatch z)⟩
/-- what a way of a plan leaves over -/
def sl (T : Tar) (ps : List Int) (π : Pl → Int) : Pl × Pl → Int
  | (.inn _, .out _) => 0
  | (p, q) => π p + cst T ps p q - π q
def EvOk (T : Tar) (ps br : List Int) (e : Pl × Pl) : Prop := e = (.ground, .ground) ∨ (⟨e.1, e.2, cst T ps e.1 e.2⟩ : Way) ∈ allWays T ps br
def gainP (T : Tar) (ps : List Int) (π : Pl → Int) (k : Nat) : Int := T.rate 0 * gi ps k + π (.inn k) - π (.out k)
def gainsP (T : Tar) (ps : List Int) (π : Pl → Int) : List Int := (List.range ps.length).map (gainP T ps π)
theorem gainsP_get {k : Nat} (h : k < ps.length) : gi (gainsP T ps π) k = gainP T ps π k := by
  unfold gainsP
  refine gi_nat ?_
  rw [List.getElem?_map, List.getElem?_range h]
  rfl
theorem gainsP_len : (gainsP T ps π).length = ps.length := by unfold gainsP; rw [List.length_map, List.length_range]
theorem ev_place (o : T.Ok) : ∀ k : Nat, (evUp T br row k).1 = if k = 0 then .ground else plAfter T ((k : Int) - 1) (gi row ((k : Int) - 1))
  | 0 => rfl
  | k + 1 => by
    rw [if_neg (by omega)]
    show (evStep T br row k (evUp T br row k)).1 = _
    unfold evStep
    dsimp only
    rw [show ((k + 1 : Nat) : Int) - 1 = (k : Int) by omega]
/-- the ways of a step -/
def evNew (T : Tar) (br row : List Int) (k : Nat) (p : Pl) : List (Pl × Pl) :=
  (if bef T br row k = (T.rates.length : Int) then [(p, Pl.ground)] else []) ++
    (if gi row k = 0 then [((if bef T br row k = (T.rates.length : Int) then Pl.ground else p), Pl.inn k), (Pl.inn k, plAfter T k (gi row k))] else [((if bef T br row k = (T.rates.length : Int) then Pl.ground else p), plAfter T k (gi row k))])
theorem ev_new (k : Nat) : (evUp T br row (k + 1)).2 = (evUp T br row k).2 ++ evNew T br row k (evUp T br row k).1 := by
  show (evStep T br row k (evUp T br row k)).2 = _
  unfold evStep evNew
  dsimp only
  by_cases h1 : bef T br row k = (T.rates.length : Int)
  · rw [if_pos h1, if_pos h1, if_pos h1]
    by_cases h2 : gi row k = 0
    · rw [if_pos h2, if_pos h2]
      simp
    · rw [if_neg h2, if_neg h2]
      simp
  · rw [if_neg h1, if_neg h1, if_neg h1]
    by_cases h2 : gi row k = 0
    · rw [if_pos h2, if_pos h2]
      simp
    · rw [if_neg h2, if_neg h2]
      simp
theorem way_off' {t : Nat} {s : Int} (ht : t < ps.length) (hs : s ∈ statesIn T br t) (h : plAfter T t s ≠ .ground) (o : T.Ok) : EvOk T ps br (plAfter T t s, .ground) := by
  right
  have hn : s ≠ (T.rates.length : Int) := fun z => h (by rw [z]; exact plAfter_n)
  have hm := way_off (ps := ps) (T := T) (br := br) ht hs hn
  have hc := (way_cst o hm).1
  dsimp only at hc ⊢
  rw [← hc]
  exact hm
theorem ok_of {x : Way} (o : T.Ok) (h : x ∈ allWays T ps br) : EvOk T ps br (x.s, x.e) := by
  right
  have hc := (way_cst o h).1
  dsimp only
  rw [← hc]
  exact h
/-- a step of a row: what it costs -/
theorem ev_step (o : T.Ok) (g0 : π .ground = 0) (hr : RowOk T br row ps.length) {k : Nat} (hk : k < ps.length) :
    (∀ e, e ∈ evNew T br row k (evUp T br row k).1 → EvOk T ps br e) ∧
    T.rate (gi row k) * gi ps k + (T.step (bef T br row k) (gi row k)).getD 0 - (if gi row k = 0 then gainP T ps π k else 0) - π (plAfter T k (gi row k)) + π (evUp T br row k).1 = ((evNew T br row k (evUp T br row k).1).map (sl T ps π)).sum := by
  have hpos := o.pos
  have hst := stok_iff.mp (hr.2 k hk)
  have hin := st_in (hr.2 k hk)
  have hpl := ev_place (T := T) (br := br) (row := row) o k
  have w0 := wake_0 o
  -- the place ahead of the step
  have hpok : bef T br row k = (T.rates.length : Int) → EvOk T ps br ((evUp T br row k).1, .ground) := fun _ => by
    rw [hpl]
    by_cases h0 : k = 0
    · rw [if_pos h0]
      exact .inl rfl
    · rw [if_neg h0, show (k : Int) - 1 = ((k - 1 : Nat) : Int) by omega]
      by_cases hg : plAfter T ((k - 1 : Nat) : Int) (gi row ((k - 1 : Nat) : Int)) = .ground
      · rw [hg]
        exact .inl rfl
      · exact way_off' (by omega) (st_in (hr.2 (k - 1) (by omega))) hg o
  have hslg : sl T ps π ((evUp T br row k).1, .ground) = π (evUp T br row k).1 := by
    have hc : ∀ p : Pl, sl T ps π (p, .ground) = π p := fun p => by
      cases p <;> simp [sl, cst, g0]
    exact hc _
  have hnf : bef T br row k ≠ (T.rates.length : Int) → ¬ Fresh br k ∧ (evUp T br row k).1 = plAfter T ((k : Int) - 1) (bef T br row k) ∧ bef T br row k ∈ statesIn T br ((k : Int) - 1) := fun hne => by
    have hf : ¬ Fresh br k := fun z => hne (by unfold bef; rw [if_pos z])
    have hk0 : k ≠ 0 := fun z => hf (.inl (by omega))
    have hb : bef T br row k = gi row ((k : Int) - 1) := by unfold bef; rw [if_neg hf]
    refine ⟨hf, by rw [hpl, if_neg hk0, hb], ?_⟩
    rw [hb, show (k : Int) - 1 = ((k - 1 : Nat) : Int) by omega]
    exact st_in (hr.2 (k - 1) (by omega))
  unfold evNew
  by_cases hb : bef T br row k = (T.rates.length : Int)
  · rw [if_pos hb, if_pos hb]
    by_cases h0 : gi row k = 0
    · rw [if_pos h0, if_pos h0]
      constructor
      · intro e he
        simp only [List.cons_append, List.nil_append, List.mem_cons, List.not_mem_nil, or_false] at he
        rcases he with rfl | rfl | rfl
        · exact hpok hb
        · exact ok_of (x := ⟨.ground, .inn k, T.wake T.rates.length⟩) o (way_in T ps br hk)
        · rw [h0, plAfter_0 o]
          exact ok_of (x := ⟨.inn k, .out k, T.rate 0 * gi ps k⟩) o (way_out T ps br hk)
      · simp only [List.cons_append, List.nil_append, List.map_cons, List.map_nil, List.sum_cons, List.sum_nil]
        rw [hslg, h0, plAfter_0 o, hb]
        have e1 : T.step (T.rates.length : Int) 0 = some (T.wake T.rates.length) := by
          unfold Tar.step
          rw [if_neg (by omega), if_pos rfl]
        rw [e1]
        unfold gainP
        simp only [sl, cst, g0, Option.getD_some]
        omega
    · rw [if_neg h0, if_neg h0]
      have hn : gi row k = (T.rates.length : Int) := by
        have := hst.2.2.resolve_right h0
        have := hst.2.1
        omega
      constructor
      · intro e he
        simp only [List.cons_append, List.nil_append, List.mem_cons, List.not_mem_nil, or_false] at he
        rcases he with rfl | rfl
        · exact hpok hb
        · rw [hn, plAfter_n]
          exact .inl rfl
      · simp only [List.cons_append, List.nil_append, List.map_cons, List.map_nil, List.sum_cons, List.sum_nil]
        rw [hslg, hn, plAfter_n, rate_off, Int.zero_mul, hb, step_off (Int.le_refl _)]
        simp only [sl, cst, g0, Option.getD_some]
        omega
  · obtain ⟨hf, hp, hbs⟩ := hnf hb
    rw [if_neg hb, if_neg hb, hp]
    have hbr := statesIn_range hbs
    generalize bef T br row k = b at *
    by_cases h0 : gi row k = 0
    · rw [if_pos h0, if_pos h0]
      constructor
      · intro e he
        simp only [List.nil_append, List.mem_cons, List.not_mem_nil, or_false] at he
        rcases he with rfl | rfl
        · exact ok_of o (way_wake hk hf hbs hb)
        · rw [h0, plAfter_0 o]
          exact ok_of (x := ⟨.inn k, .out k, T.rate 0 * gi ps k⟩) o (way_out T ps br hk)
      · have hc := (way_cst o (way_wake (ps := ps) hk hf hbs hb)).1
        have e2 : sl T ps π (plAfter T ((k : Int) - 1) b, .inn k) = π (plAfter T ((k : Int) - 1) b) + T.wake b - π (.inn k) := by
          dsimp only at hc
          rw [hc]
          by_cases hz : b = 0
          · rw [hz, plAfter_0 o]
            rfl
          · rw [plAfter_s hb hz]
            rfl
        have e3 : (T.step b 0).getD 0 = T.wake b := by
          unfold Tar.step
          by_cases hz : b ≤ 0
          · have : b = 0 := by omega
            rw [if_pos hz, this]
            exact w0.symm
          · rw [if_neg hz, if_pos rfl]
            rfl
        simp only [List.nil_append, List.map_cons, List.map_nil, List.sum_cons, List.sum_nil]
        rw [e2, h0, plAfter_0 o, e3]
        unfold gainP
        simp only [sl]
        omega
    · rw [if_neg h0, if_neg h0]
      have hle := hst.2.2.resolve_right h0
      have e4 : T.step b (gi row k) = some 0 := by
        unfold Tar.step
        rw [if_pos hle]
      simp only [List.nil_append, List.mem_cons, List.not_mem_nil, or_false, List.map_cons, List.map_nil, List.sum_cons, List.sum_nil]
      rw [e4]
      by_cases hn : gi row k = (T.rates.length : Int)
      · constructor
        · rintro e rfl
          rw [hn, plAfter_n, show (k : Int) - 1 = ((k - 1 : Nat) : Int) from ?_]
          · have hg : plAfter T ((k - 1 : Nat) : Int) b ≠ .ground := by
              by_cases hz : b = 0
              · rw [hz, plAfter_0 o]
                exact fun z => nomatch z
              · rw [plAfter_s hb hz]
                exact fun z => nomatch z
            have hk0 : k ≠ 0 := fun z => hf (.inl (by omega))
            rw [show (k : Int) - 1 = ((k - 1 : Nat) : Int) by omega] at hbs
            exact way_off' (by omega) hbs hg o
          · have hk0 : k ≠ 0 := fun z => hf (.inl (by omega))
            omega
        · rw [hn, plAfter_n, rate_off, Int.zero_mul]
          have hc : ∀ p : Pl, sl T ps π (p, .ground) = π p := fun p => by
            cases p <;> simp [sl, cst, g0]
          rw [hc, g0]
          simp only [Option.getD_some]
          omega
      · have hm := way_doze (ps := ps) (T := T) (br := br) (t := k) (s := gi row k) hk hf hbs hle (by omega) (by omega)
        constructor
        · rintro e rfl
          rw [plAfter_s hn h0]
          exact ok_of o hm
        · rw [plAfter_s hn h0]
          have e2 : sl T ps π (plAfter T ((k : Int) - 1) b, .asleep k (gi row k)) = π (plAfter T ((k : Int) - 1) b) + T.rate (gi row k) * gi ps k - π (.asleep k (gi row k)) := by
            by_cases hz : b = 0
            · rw [hz, plAfter_0 o]
              rfl
            · rw [plAfter_s hb hz]
              rfl
          rw [e2]
          simp only [Option.getD_some]
          omega
theorem ev_up (o : T.Ok) (g0 : π .ground = 0) (hr : RowOk T br row ps.length) : ∀ k : Nat, k ≤ ps.length →
    (∀ e, e ∈ (evUp T br row k).2 → EvOk T ps br e) ∧ rowCostUp T ps br row k - gainUp (gainsP T ps π) row k - π (evUp T br row k).1 = (((evUp T br row k).2).map (sl T ps π)).sum
  | 0, _ => ⟨fun e he => (nomatch he), by show (0 : Int) - 0 - π .ground = 0; rw [g0]; rfl⟩
  | k + 1, hk => by
    obtain ⟨h1, h2⟩ := ev_up o g0 hr k (by omega)
    obtain ⟨h3, h4⟩ := ev_step (π := π) o g0 hr (k := k) (by omega)
    have hpl := ev_place (T := T) (br := br) (row := row) o (k + 1)
    rw [if_neg (by omega), show ((k + 1 : Nat) : Int) - 1 = (k : Int) by omega] at hpl
    rw [ev_new, List.map_append, List.sum_append, ← h2, ← h4, hpl]
    refine ⟨fun e he => ?_, ?_⟩
    · rcases List.mem_append.mp he with h | h
      · exact h1 e h
      · exact h3 e h
    · have e1 : rowCostUp T ps br row (k + 1) = rowCostUp T ps br row k + T.rate (gi row k) * gi ps k + (T.step (bef T br row k) (gi row k)).getD 0 := rfl
      have e2 : gainUp (gainsP T ps π) row (k + 1) = gainUp (gainsP T ps π) row k + (if gi row k = 0 then gi (gainsP T ps π) k else 0) := rfl
      rw [e1, e2, gainsP_get (by omega)]
      omega
theorem ev_row (o : T.Ok) (g0 : π .ground = 0) (hr : RowOk T br row ps.length) : (∀ e, e ∈ evRow T br row → EvOk T ps br e) ∧ rowCost T ps br row - gainUp (gainsP T ps π) row ps.length = ((evRow T br row).map (sl T ps π)).sum := by
  obtain ⟨h1, h2⟩ := ev_up o g0 hr ps.length (Nat.le_refl _)
  unfold evRow rowCost
  rw [hr.1, List.map_append, List.sum_append, ← h2]
  have hpl := ev_place (T := T) (br := br) (row := row) o ps.length
  have hc : ∀ p : Pl, sl T ps π (p, .ground) = π p := fun p => by
    cases p <;> simp [sl, cst, g0]
  refine ⟨fun e he => ?_, ?_⟩
  · rcases List.mem_append.mp he with h | h
    · exact h1 e h
    · rw [List.mem_singleton.mp h, hpl]
      by_cases h0 : ps.length = 0
      · rw [if_pos h0]
        exact .inl rfl
      · rw [if_neg h0, show (ps.length : Int) - 1 = ((ps.length - 1 : Nat) : Int) by omega]
        by_cases hg : plAfter T ((ps.length - 1 : Nat) : Int) (gi row ((ps.length - 1 : Nat) : Int)) = .ground
        · rw [hg]
          exact .inl rfl
        · exact way_off' (by omega) (st_in (hr.2 (ps.length - 1) (by omega))) hg o
  · simp only [List.map_cons, List.map_nil, List.sum_cons, List.sum_nil]
    rw [hc]
    omega
theorem ev_plan (o : T.Ok) (g0 : π .ground = 0) : ∀ pl : List (List Int), (∀ row, row ∈ pl → RowOk T br row ps.length) → (∀ e, e ∈ evPlan T br pl → EvOk T ps br e) ∧ planCost T ps br pl - hotSum (gainsP T ps π) pl ps.length = ((evPlan T br pl).map (sl T ps π)).sum
  | [], _ => ⟨fun e he => (nomatch he), by rw [hotSum_nil]; rfl⟩
  | row :: rest, h => by
    obtain ⟨h1, h2⟩ := ev_row (π := π) o g0 (h row (List.mem_cons_self ..))
    obtain ⟨h3, h4⟩ := ev_plan o g0 rest fun q hq => h q (List.mem_cons_of_mem _ hq)
    have e : evPlan T br (row :: rest) = evRow T br row ++ evPlan T br rest := rfl
    rw [e, List.map_append, List.sum_append, ← h2, ← h4, hotSum_cons]
    refine ⟨fun e he => ?_, ?_⟩
    · rcases List.mem_append.mp he with h | h
      · exact h1 e h
      · exact h3 e h
    · unfold planCost
      rw [List.map_cons, List.sum_cons]
      omega
/-! how often a way is gone -/
theorem cntE_app (a b : List (Pl × Pl)) (p q : Pl) : cntE (a ++ b) p q = cntE a p q + cntE b p q := by
  unfold cntE
  rw [List.filter_append, List.length_append]
theorem cnt_new (o : T.Ok) (k t : Nat) (p : Pl) : cntE (evNew T br row k p) (.inn t) (.out t) = if k = t ∧ gi row k = 0 then 1 else 0 := by
  have hpos := o.pos
  have e1 : ∀ p, cntE [(p, Pl.ground)] (.inn t) (.out t) = 0 := fun p => by simp [cntE]
  have e2 : ∀ p q : Pl, cntE [(p, Pl.inn k), (Pl.inn k, q)] (.inn t) (.out t) = if k = t ∧ q = .out t then 1 else 0 := fun p q => by
    unfold cntE
    by_cases h : k = t ∧ q = .out t
    · obtain ⟨rfl, rfl⟩ := h
      simp
    · rw [if_neg h]
      simp
      rintro h1 h2
      exact h ⟨by omega, h2⟩
  unfold evNew
  rw [cntE_app]
  have e0 : cntE (if bef T br row k = (T.rates.length : Int) then [(p, Pl.ground)] else []) (.inn t) (.out t) = 0 := by
    split
    · exact e1 p
    · rfl
  rw [e0, Nat.zero_add]
  by_cases h0 : gi row k = 0
  · rw [if_pos h0, e2, h0, plAfter_0 o]
    by_cases hkt : k = t
    · subst hkt
      simp
    · simp [hkt]
  · rw [if_neg h0]
    have : plAfter T k (gi row k) ≠ .out t := by
      by_cases hn : gi row k = (T.rates.length : Int)
      · rw [hn, plAfter_n]
        exact fun z => nomatch z
      · rw [plAfter_s hn h0]
        exact fun z => nomatch z
    simp [cntE, this, h0]
theorem cnt_up (o : T.Ok) (t : Nat) : ∀ k : Nat, cntE (evUp T br row k).2 (.inn t) (.out t) = if t < k ∧ gi row t = 0 then 1 else 0
  | 0 => by simp [evUp, cntE]
  | k + 1 => by
    rw [ev_new, cntE_app, cnt_up o t k, cnt_new o k t]
    by_cases hkt : k = t
    · subst hkt
      by_cases h : gi row k = 0 <;> simp [h]
    · by_cases h : gi row t = 0
      · have e : (t < k + 1) ↔ (t < k) := by omega
        simp [hkt, h, e]
      · simp [hkt, h]
theorem cnt_row (o : T.Ok) (hl : row.length = ps.length) {t : Nat} (ht : t < ps.length) : cntE (evRow T br row) (.inn t) (.out t) = if gi row t = 0 then 1 else 0 := by
  unfold evRow
  rw [cntE_app, cnt_up o t, hl]
  have : cntE [((evUp T br row ps.length).1, Pl.ground)] (.inn t) (.out t) = 0 := by simp [cntE]
  rw [this]
  simp [ht]
theorem cnt_plan (o : T.Ok) {t : Nat} (ht : t < ps.length) : ∀ pl : List (List Int), (∀ row, row ∈ pl → row.length = ps.length) → cntE (evPlan T br pl) (.inn t) (.out t) = hotN pl t
  | [], _ => rfl
  | row :: rest, h => by
    have e : evPlan T br (row :: rest) = evRow T br row ++ evPlan T br rest := rfl
    have h1 := cnt_row (br := br) o (h row (List.mem_cons_self ..)) ht
    have h2 := cnt_plan o ht rest fun q hq => h q (List.mem_cons_of_mem _ hq)
    have h3 := hot_cons row rest (t : Int)
    rw [e, cntE_app, h1, h2]
    split at h3
    · rw [if_pos (by assumption)]
      omega
    · rw [if_neg (by assumption)]
      omega
theorem cnt_pos {es : List (Pl × Pl)} {p q : Pl} (h : (p, q) ∈ es) : 0 < cntE es p q := by
  unfold cntE
  exact List.length_pos_of_mem (List.mem_filter.mpr ⟨h, decide_eq_true rfl⟩)
theorem of_cnt {es : List (Pl × Pl)} {p q : Pl} (h : 0 < cntE es p q) : (p, q) ∈ es := by
  unfold cntE at h
  obtain ⟨e, he⟩ := List.exists_mem_of_length_pos h
  obtain ⟨h1, h2⟩ := List.mem_filter.mp he
  rw [← of_decide_eq_true h2]
  exact h1
end
end Eb
namespace Eb
/-! ### potentials that no way gainsays: the paper is sound and worth the plan -/
structure Fwd (T : Tar) (ps br : List Int) (π : Pl → Int) : Prop where
  g0 : π .ground = 0
  le : ∀ x, x ∈ allWays T ps br → π x.e ≤ π x.s + x.c
section
variable {T : Tar} {ps ns br gs row : List Int} {pl : List (List Int)} {C : Int} {kv : KV1} {π : Pl → Int}
theorem Feas.fwd (f : Feas (leftWays T ps ns br pl) π C) : Fwd T ps br π := ⟨f.g0, fun x hx => f.le x (left_of_all hx)⟩
theorem sl_of {p q : Pl} (h : ∀ t, p ≠ .inn t) : sl T ps π (p, q) = π p + cst T ps p q - π q := by
  cases p with
  | inn t => exact absurd rfl (h t)
  | ground => rfl
  | out t => rfl
  | asleep t s => rfl
theorem sl_nn (o : T.Ok) (f : Fwd T ps br π) {e : Pl × Pl} (h : EvOk T ps br e) : 0 ≤ sl T ps π e := by
  rcases h with rfl | h
  · simp [sl, cst]
  · obtain ⟨p, q⟩ := e
    have h1 := f.le _ h
    have h2 := (way_cst o h).2.2
    dsimp only at h1 h2
    rcases h2 with ⟨t, _, rfl, rfl⟩ | h2
    · exact Int.le_refl _
    · rw [sl_of h2]
      omega
theorem gain_nn (f : Fwd T ps br π) {k : Nat} (hk : k < ps.length) : 0 ≤ gainP T ps π k := by
  have := f.le _ (way_out T ps br hk)
  dsimp only at this
  unfold gainP
  omega
theorem gains_nn (f : Fwd T ps br π) : ∀ g, g ∈ gainsP T ps π → 0 ≤ g := fun g hg => by
  obtain ⟨k, hk, rfl⟩ := List.mem_map.mp hg
  exact gain_nn f (List.mem_range.mp hk)
theorem back_in {x : Way} (o : T.Ok) (hx : x ∈ allWays T ps br) (h : leastOf ns x.s < (cntE (evPlan T br pl) x.s x.e : Int)) : (⟨x.e, x.s, -x.c⟩ : Way) ∈ leftWays T ps ns br pl := by
  unfold leftWays
  refine List.mem_flatMap.mpr ⟨x, hx, ?_⟩
  unfold backW
  rw [usedKv_count T br pl _ _ (way_cst o hx).2.1, if_pos h]
  simp
theorem left_cases {y : Way} (o : T.Ok) (h : y ∈ leftWays T ps ns br pl) : y ∈ allWays T ps br ∨ ∃ x, x ∈ allWays T ps br ∧ leastOf ns x.s < (cntE (evPlan T br pl) x.s x.e : Int) ∧ y = ⟨x.e, x.s, -x.c⟩ := by
  unfold leftWays at h
  obtain ⟨x, hx, h⟩ := List.mem_flatMap.mp h
  unfold backW at h
  rw [usedKv_count T br pl _ _ (way_cst o hx).2.1] at h
  split at h
  · rename_i hc
    rcases List.mem_cons.mp h with rfl | h
    · exact .inl hx
    · exact .inr ⟨x, hx, hc, List.mem_singleton.mp h⟩
  · rw [List.mem_singleton.mp h]
    exact .inl hx
theorem least_0 {p : Pl} (h : ∀ t, p ≠ .inn t) : leastOf ns p = 0 := by
  cases p with
  | inn t => exact absurd rfl (h t)
  | ground => rfl
  | out t => rfl
  | asleep t s => rfl
theorem tight (o : T.Ok) (f : Feas (leftWays T ps ns br pl) π C) (hr : ∀ row, row ∈ pl → RowOk T br row ps.length) : ∀ e, e ∈ evPlan T br pl → sl T ps π e = 0 := fun e he => by
  rcases (ev_plan (π := π) o f.g0 pl hr).1 e he with rfl | h
  · simp [sl, cst]
  · obtain ⟨p, q⟩ := e
    have h1 := f.fwd.le _ h
    have h2 := (way_cst o h).2.2
    dsimp only at h1 h2
    rcases h2 with ⟨t, _, rfl, rfl⟩ | h2
    · rfl
    · have hc := cnt_pos he
      have h3 := f.le _ (back_in (ns := ns) (pl := pl) o h (by dsimp only; rw [least_0 h2]; omega))
      dsimp only at h3
      rw [sl_of h2]
      omega
theorem sum_zero {α : Type} {g : α → Int} : ∀ xs : List α, (∀ x, x ∈ xs → g x = 0) → (xs.map g).sum = 0
  | [], _ => rfl
  | x :: r, h => by
    rw [List.map_cons, List.sum_cons, h x (List.mem_cons_self ..), sum_zero r fun y hy => h y (List.mem_cons_of_mem _ hy)]
    rfl
theorem zero_sum {α : Type} {g : α → Int} : ∀ xs : List α, (∀ x, x ∈ xs → 0 ≤ g x) → 0 ≤ (xs.map g).sum ∧ ((xs.map g).sum ≤ 0 → ∀ x, x ∈ xs → g x = 0)
  | [], _ => ⟨Int.le_refl _, fun _ _ h => (nomatch h)⟩
  | x :: r, h => by
    obtain ⟨h1, h2⟩ := zero_sum r fun y hy => h y (List.mem_cons_of_mem _ hy)
    have h3 := h x (List.mem_cons_self ..)
    rw [List.map_cons, List.sum_cons]
    refine ⟨by omega, fun hs y hy => ?_⟩
    rcases List.mem_cons.mp hy with rfl | hy
    · omega
    · exact h2 (by omega) y hy
theorem hot_tight (o : T.Ok) (f : Feas (leftWays T ps ns br pl) π C) (hr : ∀ row, row ∈ pl → RowOk T br row ps.length) {k : Nat} (hk : k < ps.length) (h : gi ns k < hotN pl k) : gainP T ps π k = 0 := by
  have h1 := gain_nn f.fwd hk
  have h2 := f.le _ (back_in (ns := ns) (pl := pl) (x := ⟨.inn k, .out k, T.rate 0 * gi ps k⟩) o (way_out T ps br hk) (by
    dsimp only
    rw [cnt_plan o hk pl fun row hm => (hr row hm).1]
    exact h))
  dsimp only at h2
  unfold gainP at h1 ⊢
  omega
theorem pap_sum (o : T.Ok) (hn : ns.length = ps.length) (f : Feas (leftWays T ps ns br pl) π C) (hf : Fits T ps.length ns br pl) : pSum ns (gainsP T ps π) = planCost T ps br pl := by
  have h1 := (ev_plan (π := π) o f.g0 pl hf.1).2
  rw [sum_zero _ (tight o f hf.1)] at h1
  rw [pSum_is (by rw [gainsP_len, hn]), hn]
  have key : ∀ k, k ≤ ps.length → pUp ns (gainsP T ps π) k = hotSum (gainsP T ps π) pl k := fun k => by
    induction k with
    | zero => exact fun _ => rfl
    | succ k ih =>
      intro hk
      have h2 := ih (by omega)
      have h3 := hf.2 k (by omega)
      show pUp ns (gainsP T ps π) k + gi ns k * gi (gainsP T ps π) k = hotSum (gainsP T ps π) pl k + (hotN pl k : Int) * gi (gainsP T ps π) k
      rw [h2, gainsP_get (by omega)]
      by_cases h : gi ns k < hotN pl k
      · rw [hot_tight o f hf.1 (by omega) h, Int.mul_zero, Int.mul_zero]
      · have : gi ns k = (hotN pl k : Int) := by omega
        rw [this]
  have := key ps.length (Nat.le_refl _)
  omega
/-! the heads -/
theorem rowAt_app {hs : List (List Int)} {r : List Int} {k : Nat} : rowAt (hs ++ [r]) k = if k < hs.length then rowAt hs k else if k = hs.length then r else [] := by
  unfold rowAt
  rw [Int.toNat_natCast, List.getD_eq_getElem?_getD, List.getD_eq_getElem?_getD]
  by_cases h : k < hs.length
  · rw [List.getElem?_append_left h, if_pos h]
  · rw [List.getElem?_append_right (by omega), if_neg h]
    by_cases h2 : k = hs.length
    · rw [if_pos h2, h2]
      simp
    · rw [if_neg h2, List.getElem?_eq_none (by simp; omega)]
      rfl
theorem rowAt_up (gs : List Int) {k : Nat} : ∀ j : Nat, k < j → rowAt (headsUp T ps br gs j) k = rowOf T ps br gs (headsUp T ps br gs k) k
  | 0, h => absurd h (Nat.not_lt_zero k)
  | j + 1, h => by
    show rowAt (headsUp T ps br gs j ++ [rowOf T ps br gs (headsUp T ps br gs j) j]) k = _
    rw [rowAt_app, headsUp_length]
    by_cases hk : k < j
    · rw [if_pos hk]
      exact rowAt_up gs j hk
    · have : k = j := by omega
      subst this
      rw [if_neg hk, if_pos rfl]
theorem before_up (gs : List Int) {k j : Nat} (h : k ≤ j) : hBefore T br (headsUp T ps br gs j) k = hBefore T br (headsUp T ps br gs k) k := by
  unfold hBefore
  by_cases h0 : (k : Int) = 0
  · rw [if_pos h0, if_pos h0]
  · have e : rowAt (headsUp T ps br gs j) ((k : Int) - 1) = rowAt (headsUp T ps br gs k) ((k : Int) - 1) := by
      rw [show (k : Int) - 1 = ((k - 1 : Nat) : Int) by omega, rowAt_up gs j (by omega), rowAt_up gs k (by omega)]
    rw [if_neg h0, if_neg h0, e]
theorem gi_row {gs : List Int} {hs : List (List Int)} {k s : Int} (h0 : 0 ≤ s) (h1 : s ≤ (T.rates.length : Int)) : gi (rowOf T ps br gs hs k) s = if s ∈ statesIn T br k then leastAt T ps br gs hs k s else 0 := by
  unfold rowOf rowPart
  have e : s = ((s.toNat : Nat) : Int) := by omega
  rw [e]
  refine gi_nat ?_
  rw [List.getElem?_map, List.getElem?_range (by omega)]
  rfl
theorem place_nn (f : Fwd T ps br π) {t : Nat} {s : Int} (ht : t < ps.length) (hs : s ∈ statesIn T br t) : 0 ≤ π (plAfter T t s) := by
  by_cases hn : s = (T.rates.length : Int)
  · rw [hn, plAfter_n, f.g0]
    exact Int.le_refl _
  · have := f.le _ (way_off ht hs hn)
    dsimp only at this
    rw [f.g0] at this
    omega
theorem head_ge (o : T.Ok) (f : Fwd T ps br π) : ∀ k : Nat, k < ps.length → ∀ s, s ∈ statesIn T br k → π (plAfter T k s) ≤ leastAt T ps br (gainsP T ps π) (headsUp T ps br (gainsP T ps π) k) k s := fun k => by
  induction k using Nat.strongRecOn with
  | ind k ih =>
    intro hk s hs
    have hpos := o.pos
    have hr := statesIn_range hs
    have hmem := minL_mem (cands_ne (T := T) (br := br) (hs := headsUp T ps br (gainsP T ps π) k) (own := netC T ps (gainsP T ps π) k s) hs)
    show π (plAfter T k s) ≤ minL _
    generalize minL (cands T (hBefore T br (headsUp T ps br (gainsP T ps π) k) k) (netC T ps (gainsP T ps π) k s) s) = c at hmem ⊢
    unfold cands at hmem
    obtain ⟨q, hq, hc⟩ := List.mem_filterMap.mp hmem
    obtain ⟨cc, hcc, rfl⟩ := Option.map_eq_some_iff.mp hc
    have win := f.le _ (way_in T ps br hk)
    dsimp only at win
    rw [f.g0] at win
    have own0 : netC T ps (gainsP T ps π) k 0 = π (.out k) - π (.inn k) := by
      unfold netC
      rw [if_pos rfl, gainsP_get hk]
      unfold gainP
      omega
    have ownn : netC T ps (gainsP T ps π) k T.rates.length = 0 := by
      unfold netC
      rw [if_neg (by omega), rate_off, Int.zero_mul]
    -- from off
    have off_case : ∀ h : Int, 0 ≤ h → T.step (T.rates.length : Int) s = some cc → π (plAfter T k s) ≤ h + cc + netC T ps (gainsP T ps π) k s := fun h hh hst => by
      by_cases hn : s = (T.rates.length : Int)
      · rw [hn, plAfter_n, f.g0, ownn]
        rw [hn, step_off (Int.le_refl _)] at hst
        have := Option.some.inj hst
        omega
      · have h0 : s = 0 := by
          unfold Tar.step at hst
          rw [if_neg (by omega)] at hst
          by_cases z : s = 0
          · exact z
          · rw [if_neg z] at hst
            cases hst
        subst h0
        have : cc = T.wake T.rates.length := by
          unfold Tar.step at hst
          rw [if_neg (by omega), if_pos rfl] at hst
          exact (Option.some.inj hst).symm
        rw [plAfter_0 o, own0]
        omega
    unfold hBefore at hq
    by_cases h0 : (k : Int) = 0
    · rw [if_pos h0] at hq
      rw [List.mem_singleton.mp hq] at hcc ⊢
      exact off_case 0 (Int.le_refl _) hcc
    · rw [if_neg h0] at hq
      obtain ⟨b, hb, rfl⟩ := List.mem_map.mp hq
      dsimp only at hcc ⊢
      have hbr := statesIn_range hb
      have e1 : (k : Int) - 1 = ((k - 1 : Nat) : Int) := by omega
      have hb' := hb
      rw [e1] at hb'
      have hh : π (plAfter T ((k - 1 : Nat) : Int) b) ≤ gi (rowAt (headsUp T ps br (gainsP T ps π) k) ((k : Int) - 1)) b := by
        rw [e1, rowAt_up _ k (by omega), gi_row hbr.1 hbr.2, if_pos hb']
        exact ih (k - 1) (by omega) (by omega) b hb'
      have hpn := place_nn f (by omega) hb'
      generalize gi (rowAt (headsUp T ps br (gainsP T ps π) k) ((k : Int) - 1)) b = h at hh ⊢
      by_cases hf : Fresh br k
      · rw [if_pos hf] at hcc
        exact off_case h (by omega) hcc
      · rw [if_neg hf] at hcc
        by_cases hbn : b = (T.rates.length : Int)
        · rw [hbn] at hcc
          exact off_case h (by omega) hcc
        · rw [← e1] at hh hpn
          by_cases hs0 : s = 0
          · subst hs0
            have hw := f.le _ (way_wake (ps := ps) hk hf hb hbn)
            dsimp only at hw
            have hcw : cc = T.wake b := by
              unfold Tar.step at hcc
              by_cases z : b ≤ 0
              · have hb0 : b = 0 := by omega
                rw [if_pos z] at hcc
                have := Option.some.inj hcc
                rw [hb0, wake_0 o]
                omega
              · rw [if_neg z, if_pos rfl] at hcc
                exact (Option.some.inj hcc).symm
            rw [plAfter_0 o, own0]
            omega
          · have hle : b ≤ s ∧ cc = 0 := by
              unfold Tar.step at hcc
              by_cases z : b ≤ s
              · rw [if_pos z] at hcc
                exact ⟨z, (Option.some.inj hcc).symm⟩
              · rw [if_neg z, if_neg hs0] at hcc
                cases hcc
            by_cases hsn : s = (T.rates.length : Int)
            · rw [hsn, plAfter_n, f.g0, ownn]
              omega
            · have hw := f.le _ (way_doze (ps := ps) (T := T) (br := br) hk hf hb hle.1 (by omega) (by omega))
              dsimp only at hw
              rw [plAfter_s hsn hs0]
              have : netC T ps (gainsP T ps π) k s = T.rate s * gi ps k := by
                unfold netC
                rw [if_neg hs0]
              omega
theorem pap_sound (o : T.Ok) (f : Fwd T ps br π) : PSound T ps br (gainsP T ps π) (headsUp T ps br (gainsP T ps π) ps.length) := by
  refine ⟨⟨gainsP_len, headsUp_length .., fun r hr => headsUp_row T ps br _ _ r hr⟩, gains_nn f, fun k hk s h0 h1 => ?_⟩
  unfold CellOk
  rw [before_up _ (Nat.le_of_lt hk), rowAt_up _ _ hk, gi_row h0 h1]
  by_cases hs : s ∈ statesIn T br k
  · rw [if_pos hs, if_pos hs]
    refine ⟨fun c hc => minL_le hc, fun _ => ?_⟩
    exact Int.le_trans (place_nn f hk hs) (head_ge o f k hk s hs)
  · rw [if_neg hs, if_neg hs]
theorem head_le (o : T.Ok) (r : RunOk ps ns br) (f : Fwd T ps br π) : ∀ k : Nat, k < ps.length → ∀ s, s ∈ statesIn T br k → leastAt T ps br (gainsP T ps π) (headsUp T ps br (gainsP T ps π) k) k s ≤ ((k : Int) + 1) * 1000000000 := fun k => by
  induction k using Nat.strongRecOn with
  | ind k ih =>
    intro hk s hs
    have hr := statesIn_range hs
    have hmem := minL_mem (cands_ne (T := T) (br := br) (hs := headsUp T ps br (gainsP T ps π) k) (own := netC T ps (gainsP T ps π) k s) hs)
    show minL _ ≤ _
    generalize minL (cands T (hBefore T br (headsUp T ps br (gainsP T ps π) k) k) (netC T ps (gainsP T ps π) k s) s) = c at hmem ⊢
    unfold cands at hmem
    obtain ⟨q, hq, hc⟩ := List.mem_filterMap.mp hmem
    obtain ⟨cc, hcc, rfl⟩ := Option.map_eq_some_iff.mp hc
    have hqr := hBefore_off hq
    have hcw : cc ≤ 100000 := by
      unfold Tar.step at hcc
      split at hcc
      · have := Option.some.inj hcc
        omega
      · split at hcc
        · have h1 := Option.some.inj hcc
          have h2 := (o.wake hqr.2 hqr.1).2
          omega
        · cases hcc
    have hown : netC T ps (gainsP T ps π) k s ≤ 100000000 := by
      have h1 := o.rate hr.1 hr.2
      have h2 := r.pb k (by omega) (by omega)
      have h3 : T.rate s * gi ps k ≤ 100000 * 1000 := Int.le_trans (Int.mul_le_mul_of_nonneg_right h1.2 h2.1) (Int.mul_le_mul_of_nonneg_left h2.2 (by decide))
      unfold netC
      split
      · rw [gainsP_get hk]
        have := gain_nn f hk
        omega
      · omega
    have hq2 : q.2 ≤ (k : Int) * 1000000000 := by
      unfold hBefore at hq
      by_cases h0 : (k : Int) = 0
      · rw [if_pos h0] at hq
        rw [List.mem_singleton.mp hq, h0]
        show (0 : Int) ≤ 0 * 1000000000
        decide
      · rw [if_neg h0] at hq
        obtain ⟨b, hb, rfl⟩ := List.mem_map.mp hq
        have hbr := statesIn_range hb
        have e1 : (k : Int) - 1 = ((k - 1 : Nat) : Int) := by omega
        dsimp only
        rw [e1] at hb ⊢
        rw [rowAt_up _ k (by omega), gi_row hbr.1 hbr.2, if_pos hb]
        have := ih (k - 1) (by omega) (by omega) b hb
        rw [show ((k - 1 : Nat) : Int) + 1 = (k : Int) by omega] at this
        exact this
    rw [Int.add_mul]
    omega
theorem pap_bound (o : T.Ok) (r : RunL ps ns br) (f : Fwd T ps br π) : PapB (10 ^ 20) (gainsP T ps π) (headsUp T ps br (gainsP T ps π) ps.length) := by
  have hl := r.len
  have hle := o.le
  refine ⟨by rw [gainsP_len]; omega, by rw [headsUp_length]; omega, fun g hg => ?_, fun x hx => by rw [headsUp_row T ps br _ _ x hx]; omega, fun q hq x hx => ?_⟩
  · have h0 := gains_nn f g hg
    obtain ⟨k, hk, rfl⟩ := List.mem_map.mp hg
    have hk := List.mem_range.mp hk
    have h1 := o.rate (s := 0) (by omega) (by omega)
    have h2 := r.ok.pb k (by omega) (by omega)
    have h3 : T.rate 0 * gi ps k ≤ 100000 * 1000 := Int.le_trans (Int.mul_le_mul_of_nonneg_right h1.2 h2.1) (Int.mul_le_mul_of_nonneg_left h2.2 (by decide))
    have h4 := f.le _ (way_in T ps br hk)
    have h5 := (o.wake (s := (T.rates.length : Int)) (by omega) (by omega)).2
    have h6 := place_nn (s := 0) f hk (by unfold statesIn; split <;> simp [rgI])
    rw [plAfter_0 o] at h6
    dsimp only at h4
    rw [f.g0] at h4
    unfold gainP at h0 ⊢
    omega
  · obtain ⟨k, hk, rfl⟩ := List.mem_iff_getElem.mp hq
    have hk2 : k < ps.length := by rw [headsUp_length] at hk; exact hk
    have hrow : (headsUp T ps br (gainsP T ps π) ps.length)[k] = rowOf T ps br (gainsP T ps π) (headsUp T ps br (gainsP T ps π) k) k := by
      rw [← rowAt_up (T := T) (ps := ps) (br := br) (gainsP T ps π) ps.length hk2]
      unfold rowAt
      rw [Int.toNat_natCast, List.getD_eq_getElem?_getD, List.getElem?_eq_getElem hk]
      rfl
    rw [hrow] at hx
    obtain ⟨s, hs0, hs1, rfl⟩ := mem_gi hx
    have hs2 : s ≤ (T.rates.length : Int) := by
      unfold rowOf at hs1
      rw [rowPart_length] at hs1
      omega
    rw [gi_row hs0 hs2]
    split
    · rename_i hs
      have h1 := head_ge o f k hk2 s hs
      have h2 := place_nn f hk2 hs
      have h3 := head_le o r.ok f k hk2 s hs
      have h4 : ((k : Int) + 1) * 1000000000 ≤ 11 * 1000000000 := Int.mul_le_mul_of_nonneg_right (by omega) (by decide)
      omega
    · omega
/-! from what relaxing found -/
theorem reach_s {L : List Way} (o : T.Ok) (hL : ∀ x, x ∈ allWays T ps br → x ∈ L) (d : Dist L C kv) : ∀ x, x ∈ allWays T ps br → (gv kv x.s).isSome = true := fun x hx => by
  have hin : ∀ k : Nat, k < ps.length → (gv kv (.inn k)).isSome = true := fun k hk => here_key d (hL _ (way_in T ps br hk)) (by rw [d.g0]; rfl)
  have hout : ∀ k : Nat, k < ps.length → (gv kv (.out k)).isSome = true := fun k hk => here_key d (hL _ (way_out T ps br hk)) (hin k hk)
  have hpl : ∀ (k : Nat) (b : Int), k < ps.length → b ∈ statesIn T br k → (gv kv (plAfter T k b)).isSome = true := fun k b hk hb => by
    have hbr := statesIn_range hb
    by_cases hn : b = (T.rates.length : Int)
    · rw [hn, plAfter_n, d.g0]
      rfl
    · by_cases h0 : b = 0
      · rw [h0, plAfter_0 o]
        exact hout k hk
      · have hf : ¬ Fresh br k := fun z => by
          unfold statesIn at hb
          rw [if_pos z] at hb
          simp at hb
          omega
        have hk0 : k ≠ 0 := fun z => hf (.inl (by omega))
        have hz : (0 : Int) ∈ statesIn T br ((k : Int) - 1) := by
          unfold statesIn
          split
          · simp
          · unfold rgI
            exact List.mem_map.mpr ⟨0, List.mem_range.mpr (by omega), rfl⟩
        have hpos := o.pos
        have hm := way_doze (ps := ps) (T := T) (br := br) hk hf hz hbr.1 (by omega) (by omega)
        rw [plAfter_0 o, show (k : Int) - 1 = ((k - 1 : Nat) : Int) by omega] at hm
        rw [plAfter_s hn h0]
        exact here_key d (hL _ hm) (hout (k - 1) (by omega))
  obtain ⟨t, ht, h⟩ := way_cases hx
  rcases h with rfl | rfl | ⟨hf, b, hb, hbn, rfl | ⟨s, h1, h2, h3, rfl⟩⟩ | ⟨s, hs, hsn, rfl⟩
  · show (gv kv .ground).isSome = true
    rw [d.g0]
    rfl
  · exact hin t ht
  · have hk0 : t ≠ 0 := fun z => hf (.inl (by omega))
    show (gv kv (plAfter T ((t : Int) - 1) b)).isSome = true
    rw [show (t : Int) - 1 = ((t - 1 : Nat) : Int) by omega] at hb ⊢
    exact hpl (t - 1) b (by omega) hb
  · have hk0 : t ≠ 0 := fun z => hf (.inl (by omega))
    show (gv kv (plAfter T ((t : Int) - 1) b)).isSome = true
    rw [show (t : Int) - 1 = ((t - 1 : Nat) : Int) by omega] at hb ⊢
    exact hpl (t - 1) b (by omega) hb
  · exact hpl t s ht hs
theorem dist_feas (o : T.Ok) {π0 : Pl → Int} (f0 : Feas (leftWays T ps ns br pl) π0 C) (d : Dist (leftWays T ps ns br pl) C kv) : Feas (leftWays T ps ns br pl) (fv kv) C := by
  have hs := reach_s (ps := ps) (T := T) (br := br) (L := leftWays T ps ns br pl) o (fun x hx => left_of_all hx) d
  refine ⟨by unfold fv; rw [d.g0]; rfl, fun y hy => ?_, f0.c0, f0.cC⟩
  have hst : (gv kv y.s).isSome = true := by
    rcases left_cases o hy with h | ⟨x, hx, _, rfl⟩
    · exact hs y h
    · exact (rlx_le d (left_of_all hx) (hs x hx)).1
  exact (rlx_le d hy hst).2
end
end Eb
namespace Eb
open PySem PySem.Spec PyProof.Rows L2
/-- what is known of a run's cheapest plan and its paper -/
structure Good (T : Tar) (ps ns br : List Int) : Prop where
  fit : Fits T ps.length ns br (chPlan T ps ns br)
  few : (chPlan T ps ns br).length ≤ 30
  cost : planCost T ps br (chPlan T ps ns br) = bestC T ps ns br
  pap : ∃ C, (∃ π, Feas (leftWays T ps ns br (chPlan T ps ns br)) π C) ∧ ∀ kv, Dist (leftWays T ps ns br (chPlan T ps ns br)) C kv →
    PSound T ps br (gainsOf T ps kv) (headsUp T ps br (gainsOf T ps kv) ps.length) ∧ pSum ns (gainsOf T ps kv) = bestC T ps ns br ∧ PapB (10 ^ 20) (gainsOf T ps kv) (headsUp T ps br (gainsOf T ps kv) ps.length)
  weak : ∀ gs hs pl, PSound T ps br gs hs → Fits T ps.length ns br pl → pSum ns gs ≤ planCost T ps br pl
noncomputable def sb (T : Tar) (ps br : List Int) (q : List Int × List (List Int)) : Bool := @decide (PSound T ps br q.1 q.2) (Classical.propDecidable _)
theorem sb_iff {T : Tar} {ps br : List Int} {q : List Int × List (List Int)} : sb T ps br q = true ↔ PSound T ps br q.1 q.2 := by
  unfold sb
  exact @decide_eq_true_iff _ (Classical.propDecidable _)
theorem lcost_of {K : PySem.W.Frag} {A : List Rp → Prop} {S : Rp → Prop} (h : ∃ T ps ns br pl, A [TF K T, runR K ps ns br, ILL pl] ∧ T.Ok ∧ RunOk ps ns br ∧ pl.length ≤ 1000 ∧ (∀ row, row ∈ pl → row.length ≤ 1000) ∧
    ∀ c : Int, (0 ≤ c ↔ Fits T ps.length ns br pl) → (Fits T ps.length ns br pl → c = planCost T ps br pl) → S (vI c)) : spLCost K A S := by
  obtain ⟨T, ps, ns, br, pl, hA, ok, rok, h1, h2, k⟩ := h
  refine ⟨T, ps, ns, br, pl, hA, ok, rok, h1, h2, fun hf => ?_, fun hf => ?_⟩
  · have := planCost_nonneg ok rok pl hf.1
    exact k _ ⟨fun _ => hf, fun _ => this⟩ fun _ => rfl
  · exact k _ ⟨fun z => absurd z (by decide), fun z => absurd z hf⟩ fun z => absurd z hf
theorem bool_iff {a b : Bool} {P : Prop} (h1 : a = true ↔ P) (h2 : b = true ↔ P) : a = b := by
  cases a <;> cases b <;> simp_all
theorem start_law {K : PySem.W.Frag} {H : Hp} {a : Addr} {ns : List Int} {N : List Str} {ts : TS} (hN : N.length = 15) (hS : SqL K H a (ns.map V.int))
    (hb : ∀ (F : Fr) (l : Addr), F.dv = some (l, obDr K) → TSv F [.no, .dv, .no, .no, .no, .no, .no, .no, .no, .no, .no, .no, .no, .no, .no] [] ts { nx := fun _ _ => False, rt := fun P => P = vB true }) :
    tSeq (tAsg (tCall (spStart K) [] E0 (tCons (tVar 0) tNil)) (gName 1)) ts { nx := fun _ H' => (V.non : V) = V.bl true, rt := fun v _ => v = V.bl true } (L2.start N [.ref a]) H := by
  have e : L2.start N [.ref a] = [some (.ref a), none, none, none, none, none, none, none, none, none, none, none, none, none, none] := by
    unfold L2.start
    rw [hN]
    rfl
  rw [e]
  refine ⟨.ref a, rfl, a, ns, rfl, hS, fun l l' hl hl' => ?_⟩
  have hne : l' ≠ l := fun z => by
    rw [z, upd_same] at hl'
    cases hl'
  have w := wd_startD (H := upd (upd H l (.lst (ns.map V.int))) l' (.lst [.ref l, .int 0, .int 0, .int 0, .int 0])) (Z := upd (fun _ => none) l (.lst (ns.map V.int))) (Zd := upd (fun _ => none) l (.lst (ns.map V.int))) (ld := l') (ob := obDr K)
    (fun b o q => by
      by_cases hb : b = l
      · rw [hb, upd_same] at q
        rw [upd_ne (show b ≠ l' by rw [hb]; exact hne.symm), hb, upd_same]
        exact q
      · rw [upd_ne hb] at q
        cases q)
    (by rw [upd_ne hne]) (Same.refl _) ⟨_, upd_same, l, ns, 0, 0, 0, 0, rfl, upd_same, Int.le_refl _, Int.le_refl _⟩
  refine hb _ l' rfl [some (.ref a), some (.ref l'), none, none, none, none, none, none, none, none, none, none, none, none, none] _ _ w ⟨trivial, ⟨_, rfl, rfl⟩, trivial, trivial, trivial, trivial, trivial, trivial, trivial, trivial, trivial, trivial, trivial, trivial, trivial, trivial⟩ _ ⟨?_, ?_, ?_, ?_⟩
  · exact fun _ _ _ _ _ q => q.elim
  · intro P v μ Z1 H1 q w1 z p
    subst q
    exact p
  · exact fun _ _ _ _ _ q => q.elim
  · exact fun _ _ _ _ _ q => q.elim
local macro_rules | `(tactic| lsm_bools) => `(tactic| with_reducible first
  | exact SqTs.q st_b
  | exact SqLs.q sl_b
  | exact SqTs.q st_z
  | exact SqLs.q sl_z
  | (refine' SqLs.q (sl_o ?h); (case h => with_unfolding_all rfl))
  | exact sq_b
  | exact sq_z
  | exact sq_lb
  | exact SqLs.q sl_o0
  | exact SqLs.q sl_o1
  | exact SqLs.q sl_o2
  | exact SqLs.q sl_vL
  | exact SqLs.q sl_atL)
local macro_rules | `(tactic| l_intsC) => `(tactic| with_reducible first
  | exact sl_b
  | exact sl_z
  | (refine' sl_o ?h; (case h => with_unfolding_all rfl))
  | exact sl_o0
  | exact sl_o1
  | exact sl_o2)
local macro_rules | `(tactic| leaf_len) => `(tactic| first
  | assumption
  | omega
  | (simp only [List.length_map, List.length_append, List.length_cons, List.length_nil, List.length_replicate] at *; omega))
local macro_rules | `(tactic| pre_facts) => `(tactic| first
  | exact trivial
  | (refine ⟨?_, ?_⟩; (with_reducible first
    | exact cv_z Rp.Le.rfl
    | exact cv_b Rp.Le.rfl
    | (refine' cv_o ?h Rp.Le.rfl; (case h => with_unfolding_all rfl))
    | exact cv_z le_ls
    | exact cv_b le_ls
    | exact cv_z le_ts
    | exact cv_b le_ts
    | (refine' cv_o ?h le_ls; (case h => with_unfolding_all rfl))); pre_facts))
local macro_rules | `(tactic| o_readsAll) => `(tactic| with_reducible first
  | (refine' te_at ?h ?_; (case h => with_unfolding_all rfl))
  | refine ent_boE ?_
  | refine ent_lbE ?_
  | refine ent_rp ?_
  | refine ent_bo ?_
  | refine ent_rz ?_
  | refine ent_rb ?_
  | refine ent_lz ?_
  | refine ent_lb ?_
  | refine ent_ow ?_
  | refine ent_dv ?_
  | (refine' te_ground ?h ?_; (case h => assumption))
  | refine te_c ?_
  | refine te_op ?_
  | refine te_call ?_
  | (refine' te_callE ?h ?_; (case h => assumption))
  | refine te_cb ?_
  | refine te_ckw ?_
  | refine te_if ?_
  | refine te_andV ?_
  | refine te_orV ?_
  | refine te_notV ?_
  | refine te_chain ?_
  | (refine' te_tup (K := ?hK) ?_; (case hK => assumption))
  | refine te_new (tn_lst ?_)
  | refine tn_lst ?_
  | refine hl3 ?_
  | refine hl2 ?_
  | refine hl1 ?_
  | refine hl0 ?_
  | refine hl_z ?_
  | refine te_new (tn_lrg ?_)
  | refine to_none ?_
  | refine to_some ?_
  | refine rc_intB ?_
  | refine rc_intI ?_
  | refine rc_max2 ?_
  | refine rc_min2 ?_
  | refine te_unI ?_
  | refine ta_nil ?_
  | refine ta_cons ?_
  | refine tt_test ?_
  | refine tt_B ?_
  | refine tt_not ?_
  | refine tt_and ?_
  | refine tt_or ?_
  | refine tt_yes ?_
  | refine rop_0 ?_
  | refine rop_eqI ?_
  | refine rop_neI ?_
  | refine rop_isN ?_
  | refine rop_notN ?_
  | (refine' rop_ixE ?h ?k ?_; (case h => lsm_bools); (case k => (refine at_gi ?_ ?_; leaf_len; leaf_len)))
  | (refine' rop_ixE ?h ?k ?_; (case h => lsm_bools); (case k => exact at_nat (by decide) (by with_unfolding_all rfl)))
  | (refine' rop_ix ?h ?k ?_; (case h => lsm_bools); (case k => exact at_nat (by decide) (by with_unfolding_all rfl)))
  | (refine' rop_ix ?h ?k ?_; (case h => lsm_bools); (case k => (refine at_row ?_ ?_; leaf_len; leaf_len)))
  | (refine' rop_ix ?h ?k ?_; (case h => lsm_bools); (case k => (refine at_rowG ?_ ?_; leaf_len; leaf_len)))
  | (refine' rc_lenI ?h ?_; (case h => lsm_bools))
  | (refine' rc_len ?h ?_; (case h => lsm_bools))
  | (refine' rc_sum ?h ?_; (case h => l_intsC))
  | (refine' rc_tuple ?h ?_; (case h => l_intsC))
  | (refine' rop_inI ?h ?_; (case h => lsm_bools))
  | (refine' rop_niI ?h ?_; (case h => lsm_bools))
  | (refine rop_mulL ?_ ?_ ?_; leaf_len; leaf_len)
  | (refine rop_mulR ?_ ?_ ?_; leaf_len; leaf_len)
  | (refine rop_mod ?_ ?_; leaf_len)
  | (refine rop_fdiv ?_ ?_ ?_; leaf_len; leaf_len)
  | refine Exists.intro _ (And.intro rfl ?_))
local macro_rules | `(tactic| nest_cls) => `(tactic| with_reducible first
  | refine ts_seq ?_
  | refine ts_next ?_
  | refine ts_ret ?_
  | refine ts_set ?_
  | refine ts_if ?_
  | (refine' ts_aug ?h ?_; (case h => with_unfolding_all rfl))
  | (refine' te_at ?h ?_; (case h => with_unfolding_all rfl))
  | refine ent_boE ?_
  | refine ent_lbE ?_
  | refine ent_rp ?_
  | refine ent_bo ?_
  | refine ent_rz ?_
  | refine ent_rb ?_
  | refine ent_lz ?_
  | refine ent_lb ?_
  | refine ent_ow ?_
  | refine ent_dv ?_
  | (refine' te_ground ?h ?_; (case h => assumption))
  | refine te_c ?_
  | refine te_op ?_
  | refine te_call ?_
  | (refine' te_callE ?h ?_; (case h => assumption))
  | refine te_cb ?_
  | refine te_ckw ?_
  | refine te_if ?_
  | refine te_andV ?_
  | refine te_orV ?_
  | refine te_notV ?_
  | refine te_chain ?_
  | (refine' te_tup (K := ?hK) ?_; (case hK => assumption))
  | refine te_new (tn_lst ?_)
  | refine tn_lst ?_
  | refine hl3 ?_
  | refine hl2 ?_
  | refine hl1 ?_
  | refine hl0 ?_
  | refine hl_z ?_
  | refine te_new (tn_lrg ?_)
  | refine to_none ?_
  | refine to_some ?_
  | refine rc_intB ?_
  | refine rc_intI ?_
  | refine rc_max2 ?_
  | refine rc_min2 ?_
  | refine te_unI ?_
  | refine ta_nil ?_
  | refine ta_cons ?_
  | refine tt_test ?_
  | refine tt_B ?_
  | refine tt_not ?_
  | refine tt_and ?_
  | refine tt_or ?_
  | refine tt_yes ?_
  | refine rop_0 ?_
  | refine rop_eqI ?_
  | refine rop_neI ?_
  | refine rop_isN ?_
  | refine rop_notN ?_
  | (refine' rop_ixE ?h ?k ?_; (case h => lsm_bools); (case k => (refine at_gi ?_ ?_; leaf_len; leaf_len)))
  | (refine' rop_ixE ?h ?k ?_; (case h => lsm_bools); (case k => exact at_nat (by decide) (by with_unfolding_all rfl)))
  | (refine' rop_ix ?h ?k ?_; (case h => lsm_bools); (case k => exact at_nat (by decide) (by with_unfolding_all rfl)))
  | (refine' rop_ix ?h ?k ?_; (case h => lsm_bools); (case k => (refine at_row ?_ ?_; leaf_len; leaf_len)))
  | (refine' rop_ix ?h ?k ?_; (case h => lsm_bools); (case k => (refine at_rowG ?_ ?_; leaf_len; leaf_len)))
  | (refine' rc_lenI ?h ?_; (case h => lsm_bools))
  | (refine' rc_len ?h ?_; (case h => lsm_bools))
  | (refine' rc_sum ?h ?_; (case h => l_intsC))
  | (refine' rc_tuple ?h ?_; (case h => l_intsC))
  | (refine' rop_inI ?h ?_; (case h => lsm_bools))
  | (refine' rop_niI ?h ?_; (case h => lsm_bools))
  | (refine rop_mulL ?_ ?_ ?_; leaf_len; leaf_len)
  | (refine rop_mulR ?_ ?_ ?_; leaf_len; leaf_len)
  | (refine rop_mod ?_ ?_; leaf_len)
  | (refine rop_fdiv ?_ ?_ ?_; leaf_len; leaf_len)
  | refine Exists.intro _ (And.intro rfl ?_))
section
variable {P : Program} {w : World} {K : PySem.W.Frag} {mg : Str → Option Value} {base : Heap}

abbrev nLaw : List Str := ["_law_script", "_law_d", "_law_tariff_here", "_law_run_here", "_law_best_here", "_law_first", "_law_paper", "_law_papers", "_law_sound_here", "_law_plan", "_law_cost_here", "_law_k", "_law_one", "_law_due", "_law_kept"]
theorem scLaw : FnScope nLaw ["_law_script"] (defScope sLaw) := ⟨rfl, rfl, rfl, by decide +kernel, rfl, by decide +kernel, by decide +kernel⟩
theorem law_body (C : Ctx K mg) (hm : ∀ T ps ns br, T.Ok → RunL ps ns br → Good T ps ns br) (g_law_start : OkLstart P w K mg base) (g_law_tariff : OkLtariff P w K mg base) (g_law_run : OkLrun P w K mg base) (g_law_best : OkLbest P w K mg base) (g_cheapest : OkPcheapest P w K mg base) (g_make : OkPmake P w K mg base) (g_law_plans : OkLplans P w K mg base) (g_law_spoiled_paper : OkLspoiledpaper P w K mg base) (g_law_changed_size : OkLchangedsize P w K mg base) (g_law_followed : OkLfollowed P w K mg base) (g_law_slack : OkLslack P w K mg base) (g_law_sound : OkLsound P w K mg base) (g_law_cost : OkLcost P w K mg base) (g_law_is_paper : OkLispaper P w K mg base) (g_law_sum : OkLsum P w K mg base) (g_law_draw : OkLdraw P w K mg base) (g_law_same : OkLsame P w K mg base) (g_accepts : OkPaccepts P w K mg base)
    (cdv : Value) (A : Around) (outer : List Env) (s : Shared) (H : Hp) (a : Addr) (ns : List Int) (E : XK) (hS : SqL K H a (ns.map V.int)) (hr : Room 12 (A.deeper (envOfC "law" (defScope sLaw) s.heap.objs.size (He.ga K "law") cdv)))
    (hgd : A.guards = some []) : ∃ t, PSs (cxOf CX0 P w K mg base nLaw "law" (defScope sLaw) (He.ga K "law") cdv A outer s H E).nox (defBody sLaw) t ∧ t { nx := fun _ H' => (V.non : V) = V.bl true, rt := fun v _ => v = V.bl true } (L2.start nLaw [.ref a]) H := by
  have sc := scLaw
  refine ⟨_, (pss_cons (ps_set (i := 1) sc.nd rfl (Or.inl rfl) (pe_fn g_law_start (hr.mono (by decide)) rfl (pa_cons (pv 0) pa_nil))) (pss_cons (ps_set (i := 2) sc.nd rfl (Or.inr rfl) (pe_fn g_law_tariff (hr.mono (by decide)) rfl (pa_cons (pv 1) pa_nil))) (pss_cons (ps_set (i := 3) sc.nd rfl (Or.inr rfl) (pe_fn g_law_run (hr.mono (by decide)) rfl (pa_cons (pv 1) (pa_cons pe_int (pa_cons pe_int pa_nil))))) (pss_cons (ps_set (i := 4) sc.nd rfl (Or.inl rfl) (pe_fn g_law_best (hr.mono (by decide)) rfl (pa_cons (pv 2) (pa_cons (pe_ix ix_seq (pv 3) pe_int (fun _ _ => rfl)) (pa_cons (pe_ix ix_seq (pv 3) pe_int (fun _ _ => rfl)) (pa_cons (pe_ix ix_seq (pv 3) pe_int (fun _ _ => rfl)) pa_nil)))))) (pss_cons (ps_set (i := 5) sc.nd rfl (Or.inl rfl) (pe_fn g_cheapest (hr.mono (by decide)) rfl (pa_cons (pv 2) (pa_cons (pe_ix ix_seq (pv 3) pe_int (fun _ _ => rfl)) (pa_cons (pe_ix ix_seq (pv 3) pe_int (fun _ _ => rfl)) (pa_cons (pe_ix ix_seq (pv 3) pe_int (fun _ _ => rfl)) pa_nil)))))) (pss_cons (ps_set (i := 6) sc.nd rfl (Or.inl rfl) (pe_fn g_make (hr.mono (by decide)) rfl (pa_cons (pv 2) (pa_cons (pe_ix ix_seq (pv 3) pe_int (fun _ _ => rfl)) (pa_cons (pe_ix ix_seq (pv 3) pe_int (fun _ _ => rfl)) (pa_cons (pe_ix ix_seq (pv 3) pe_int (fun _ _ => rfl)) pa_nil)))))) (pss_cons (ps_if (PW.pt (pw_or (pt_not (pt_val (pe_callB call_isi (by rfl) (C.f 68) (by decide +kernel) (pa_cons (pv 5) (pa_cons (pe_bltn (v := .ty "list") rfl (C.f 70) (by decide +kernel) rfl) pa_nil))))) (pw_or (pt_not (pt_val (pe_fn g_law_is_paper (hr.mono (by decide)) rfl (pa_cons (pv 6) pa_nil)))) (pw_or1 (pt_cmpR op_ne (pe_fn g_law_cost (hr.mono (by decide)) rfl (pa_cons (pv 2) (pa_cons (pv 3) (pa_cons (pv 5) pa_nil)))) (pv 4) (nomark _)))))) (pss_one (ps_ret pe_bl)) pss_nil) (pss_cons (ps_if (PW.pt (pw_or (pt_not (pt_val (pe_fn g_law_sound (hr.mono (by decide)) rfl (pa_cons (pv 2) (pa_cons (pe_ix ix_seq (pv 3) pe_int (fun _ _ => rfl)) (pa_cons (pe_ix ix_seq (pv 3) pe_int (fun _ _ => rfl)) (pa_cons (pv 6) pa_nil))))))) (pw_or1 (pt_cmpR op_ne (pe_fn g_law_sum (hr.mono (by decide)) rfl (pa_cons (pe_ix ix_seq (pv 3) pe_int (fun _ _ => rfl)) (pa_cons (pv 6) pa_nil))) (pv 4) (nomark _))))) (pss_one (ps_ret pe_bl)) pss_nil) (pss_cons (ps_set (i := 7) sc.nd rfl (Or.inl rfl) (pe_lst (pa_cons (pv 6) (pa_cons (pe_fn g_law_spoiled_paper (hr.mono (by decide)) rfl (pa_cons (pv 1) (pa_cons (pv 6) pa_nil))) (pa_cons (pe_fn g_law_changed_size (hr.mono (by decide)) rfl (pa_cons (pv 1) (pa_cons (pv 6) pa_nil))) pa_nil))))) (pss_cons (ps_expr (pe_bm PySem.F.plainAttrs_list PySem.F.slot_list_append PySem.F.type_list_append mt_append (pv 7) (pa_cons (pe_fn g_law_followed (hr.mono (by decide)) rfl (pa_cons (pv 1) (pa_cons (pv 2) (pa_cons (pe_ix ix_seq (pv 3) pe_int (fun _ _ => rfl)) (pa_cons (pe_ix ix_seq (pv 3) pe_int (fun _ _ => rfl)) (pa_cons (pv 6) pa_nil)))))) pa_nil))) (pss_cons (ps_expr (pe_bm PySem.F.plainAttrs_list PySem.F.slot_list_append PySem.F.type_list_append mt_append (pv 7) (pa_cons (pe_fn g_law_slack (hr.mono (by decide)) rfl (pa_cons (pv 1) (pa_cons (pv 2) (pa_cons (pe_ix ix_seq (pv 3) pe_int (fun _ _ => rfl)) (pa_cons (pe_ix ix_seq (pv 3) pe_int (fun _ _ => rfl)) (pa_cons (pe_ix ix_seq (pv 3) pe_int (fun _ _ => rfl)) (pa_cons (pv 6) pa_nil))))))) pa_nil))) (pss_cons (ps_setLc (i := 8) (own := [("_law_one", 12)]) rfl sc.nd rfl rfl (sw_true rfl rfl rfl (by decide +kernel)) (pi_list (pv 7)) (blkOk_by (own := [("_law_one", 12)]) (N := nLaw) (sc := defScope sLaw) (by decide +kernel)) (fun _ _ _ _ _ => pg_name (i := 12) sc.nd rfl (Or.inl rfl)) (fun _ _ _ _ _ => pts_nil) (fun _ _ _ _ _ => (pe_fn g_law_sound (hr.mono (by decide)) rfl (pa_cons (pv 2) (pa_cons (pe_ix (show IxR _ (rIx K) from ix_seq) (pv 3) pe_int (fun _ _ => rfl)) (pa_cons (pe_ix (show IxR _ (rIx K) from ix_seq) (pv 3) pe_int (fun _ _ => rfl)) (pa_cons (pv 12) pa_nil))))))) (pss_cons (ps_for PassesOwn.never rfl (pi_list (pe_fn g_law_plans (hr.mono (by decide)) rfl (pa_cons (pv 1) (pa_cons (pv 2) (pa_cons (pv 3) (pa_cons (pv 5) pa_nil)))))) (pg_name (i := 9) sc.nd rfl (Or.inl rfl)) (pss_cons (ps_set (i := 10) sc.nd rfl (Or.inl rfl) (pe_fn g_law_cost (hr.mono (by decide)) rfl (pa_cons (pv 2) (pa_cons (pv 3) (pa_cons (pv 9) pa_nil))))) (pss_one (ps_for PassesOwn.never rfl (pi_list (pe_lst (pa_cons pe_int (pa_cons (pe_op op_add pe_int (pe_fn g_law_draw (hr.mono (by decide)) rfl (pa_cons (pv 1) (pa_cons pe_int pa_nil)))) pa_nil)))) (pg_name (i := 11) sc.nd rfl (Or.inl rfl)) (pss_cons (ps_set (i := 12) sc.nd rfl (Or.inl rfl) (pe_ix ix_seq (pv 7) (pv 11) (fun _ _ => rfl))) (pss_cons (ps_set (i := 13) sc.nd rfl (Or.inl rfl) (pe_and (pe_cmpR op_ge (pv 10) pe_int (nomark _)) (pe_and (pe_ix ix_seq (pv 8) (pv 11) (fun _ _ => rfl)) (pe_one (pe_cmpR op_eq (pe_fn g_law_sum (hr.mono (by decide)) rfl (pa_cons (pe_ix ix_seq (pv 3) pe_int (fun _ _ => rfl)) (pa_cons (pv 12) pa_nil))) (pv 10) (nomark _)))))) (pss_cons (ps_set (i := 14) sc.nd rfl (Or.inl rfl) (pe_callB (cr_reprD hgd hr.units) (by rfl) (C.f 74) (by decide +kernel) (pa_cons (pe_lst (pa_cons (pv 3) (pa_cons (pv 9) (pa_cons (pv 12) pa_nil)))) pa_nil))) (pss_cons (ps_if (PW.pt (pw_or (PW.pt (pw_and (pt_val (pv 13)) (pw_and1 (pt_cmpR op_ne (pv 10) (pv 4) (nomark _))))) (pw_or1 (pt_not (pt_val (pe_fn g_law_same (hr.mono (by decide)) rfl (pa_cons (pe_fn g_accepts (hr.mono (by decide)) rfl (pa_cons (pv 2) (pa_cons (pe_ix ix_seq (pv 3) pe_int (fun _ _ => rfl)) (pa_cons (pe_ix ix_seq (pv 3) pe_int (fun _ _ => rfl)) (pa_cons (pe_ix ix_seq (pv 3) pe_int (fun _ _ => rfl)) (pa_cons (pv 9) (pa_cons (pv 12) pa_nil))))))) (pa_cons (pv 13) pa_nil)))))))) (pss_one (ps_ret pe_bl)) pss_nil) (pss_one (ps_if (pt_cmpR op_ne (pe_callB (cr_reprD hgd hr.units) (by rfl) (C.f 74) (by decide +kernel) (pa_cons (pe_lst (pa_cons (pv 3) (pa_cons (pv 9) (pa_cons (pv 12) pa_nil)))) pa_nil)) (pv 14) (nomark _)) (pss_one (ps_ret pe_bl)) pss_nil)))))))))) (pss_one (ps_ret pe_bl))))))))))))))), ?body⟩
  case body =>
    refine start_law rfl hS fun F dl hF => ?_
    try simp only [cx_K, cx_K2, cx_P, cx_w, cx_P2, cx_w2]
    repeat nest_cls
    refine ⟨trivial, fun T ok => ?_⟩
    repeat nest_cls
    refine ⟨⟨cv_z Rp.Le.rfl, cv_z Rp.Le.rfl, trivial⟩, fun ps ns br rl => ?_⟩
    have good := hm T ps ns br ok rl
    have rok := rl.ok
    have hlen := rl.len
    repeat nest_cls
    refine ⟨T, ps, ns, br, ⟨cv_z Rp.Le.rfl, cv_lz, cv_lz, cv_lz, trivial⟩, ok, rok, ?_⟩
    repeat nest_cls
    refine ⟨T, ps, ns, br, ⟨cv_z Rp.Le.rfl, cv_lz, cv_lz, cv_lz, trivial⟩, ok, rok, ?_⟩
    repeat nest_cls
    have hfew := good.few
    obtain ⟨CC, hfe, hdist⟩ := good.pap
    refine ⟨T, ps, ns, br, ⟨cv_z Rp.Le.rfl, cv_lz, cv_lz, cv_lz, trivial⟩, ok, rok, by omega, CC, hfe, fun kv hkv => ?_⟩
    obtain ⟨hps, hsum, hpb⟩ := hdist kv hkv
    generalize gainsOf T ps kv = gs at hps hsum hpb ⊢
    generalize headsUp T ps br gs ps.length = hs at hps hsum hpb ⊢
    have hsz := hps.sz
    have hfit := good.fit
    have hcost := good.cost
    have hweak := good.weak
    clear hdist hfe hkv
    generalize chPlan T ps ns br = pl0 at hfew hfit hcost ⊢
    generalize bestC T ps ns br = best at hcost hsum ⊢
    repeat nest_cls
    refine rc_isiL sl_z ?_
    repeat nest_cls
    refine ⟨fun z => (nomatch z), fun _ => ?_⟩
    repeat nest_cls
    refine ⟨gs, hs, (by pre_facts), by have := hpb.hl; omega, ?_⟩
    repeat nest_cls
    refine ⟨fun z => (nomatch z), fun _ => ?_⟩
    repeat nest_cls
    have hrl : ∀ row, row ∈ pl0 → row.length = ps.length := fun row hm => (hfit.1 row hm).1
    refine ⟨T, ps, ns, br, pl0, (by pre_facts), ok, rok, by omega, fun row hm => by have := hrl row hm; omega, fun _ => ?_, fun z => absurd hfit z⟩
    rw [hcost]
    repeat nest_cls
    refine ⟨fun z => absurd z (by simp), fun _ => ?_⟩
    repeat nest_cls
    refine ⟨T, ps, br, gs, hs, ⟨cv_z Rp.Le.rfl, cv_lz, cv_lz, cv_z le_pp, trivial⟩, ok, by omega, by have := hpb.gl; omega, by have := hpb.hl; omega, fun b hb => ?_⟩
    obtain rfl : b = true := hb.mpr hps
    repeat nest_cls
    refine ⟨fun z => (nomatch z), fun _ => ?_⟩
    repeat nest_cls
    refine ⟨ns, gs, hs, ⟨cv_lz, cv_z le_pp, trivial⟩, by have := hsz.1; have := rok.len; omega, by have := rok.len; omega, fun n hn => ⟨rok.nn n hn, by have := rl.nd n hn; omega⟩, ?_⟩
    rw [hsum]
    repeat nest_cls
    refine ⟨fun z => absurd z (by simp), fun _ => ?_⟩
    refine ts_next ?_
    refine ts_seq (ts_setN (tn_lst ?_))
    repeat o_readsAll
    have hl1 := hpb.gl
    have hl2 := hpb.hl
    have hs1 := hsz.1
    have hs2 := hsz.2.1
    have hle := ok.le
    refine ⟨10 ^ 20, gs, hs, (by pre_facts), by decide, hpb, by omega, by omega, fun r hr => by have := hsz.2.2 r hr; omega, fun g1 h1 hb1 => ?_⟩
    repeat o_readsAll
    refine ⟨10 ^ 20, gs, hs, (by pre_facts), by decide, hpb, by omega, by omega, fun g2 h2 hb2 => ?_⟩
    repeat o_readsAll
    intro l
    refine ts_seq (ts_app (i := 7) (j := 0) (by with_unfolding_all rfl) (by with_unfolding_all rfl) (by simp) ?_)
    refine te_callEZ hF ?_
    repeat o_readsAll
    refine ⟨10 ^ 20, T, ps, ns, br, gs, hs, ⟨Rp.Le.rfl, Rp.Le.rfl, Rp.Le.rfl, Rp.Le.rfl, trivial⟩, ok, rl, by decide, hpb, hsz, fun g3 h3 hb3 => ?_⟩
    repeat o_readsAll
    refine ts_seq (ts_app (i := 7) (j := 0) (by with_unfolding_all rfl) (by with_unfolding_all rfl) (by simp) ?_)
    refine te_callEZ hF ?_
    repeat o_readsAll
    refine ⟨10 ^ 20, T, ps, ns, br, gs, hs, ⟨Rp.Le.rfl, Rp.Le.rfl, Rp.Le.rfl, Rp.Le.rfl, Rp.Le.rfl, trivial⟩, ok, rl, by decide, hpb, hsz, fun g4 h4 hb4 => ?_⟩
    repeat o_readsAll
    have pm : ∀ {M : Int} {g : List Int} {h : List (List Int)}, PapB M g h → M ≤ 10 ^ 25 → PapB (10 ^ 25) g h := fun {M g h} b hM =>
      ⟨b.gl, b.hl, fun x hx => by have := b.gb x hx; omega, b.rl, fun r hr x hx => by have := b.rb r hr x hx; omega⟩
    have hpp : ∀ q, q ∈ [(gs, hs), (g1, h1), (g2, h2), (g3, h3), (g4, h4)] → PapB (10 ^ 25) q.1 q.2 := fun q hq => by
      simp only [List.mem_cons, List.not_mem_nil, or_false] at hq
      rcases hq with rfl | rfl | rfl | rfl | rfl
      · exact pm hpb (by decide)
      · exact pm hb1 (by decide)
      · exact pm hb2 (by decide)
      · exact pm hb3 (by decide)
      · exact pm hb4 (by decide)
    refine ts_free (i := 7) (Ps := [(gs, hs), (g1, h1), (g2, h2), (g3, h3), (g4, h4)].map fun q : List Int × List (List Int) => papR K q.1 q.2) (by with_unfolding_all rfl) (List.Perm.refl _) ?_
    have hpl5 : [(gs, hs), (g1, h1), (g2, h2), (g3, h3), (g4, h4)].length = 5 := rfl
    generalize [(gs, hs), (g1, h1), (g2, h2), (g3, h3), (g4, h4)] = pps at hpp hpl5 ⊢
    refine ts_seq (ts_set (te_new (tn_fmL (α := List Int × List (List Int)) ?_)))
    repeat o_readsAll
    refine ⟨_, pps, fun q => papR K q.1 q.2, fun _ => true, fun q => vB (sb T ps br q), IsL.z _, by omega, fun q hq L acc => ?_, ?_⟩
    · repeat o_readsAll
      refine ⟨rfl, fun _ => ?_⟩
      repeat o_readsAll
      have hb := hpp q hq
      refine ⟨T, ps, br, q.1, q.2, ⟨cv_z Rp.Le.rfl, cv_lz, cv_lz, cv_z le_pp, trivial⟩, ok, by omega, by have := hb.gl; omega, by have := hb.hl; omega, fun b hbb => ?_⟩
      obtain rfl : b = sb T ps br q := bool_iff hbb sb_iff
      exact ⟨rfl, trivial⟩
    rw [filt_all]
    have hplb : PlanB pl0 := ⟨by omega, fun row hm => ⟨by have := hrl row hm; omega, fun x hx => by
      obtain ⟨k, h0, h1, rfl⟩ := mem_gi hx
      have := (hfit.1 row hm).2 k.toNat (by have := hrl row hm; omega)
      have e : ((k.toNat : Nat) : Int) = k := by omega
      rw [e] at this
      obtain ⟨q1, q2, _⟩ := this
      omega⟩⟩
    refine ts_seq (ts_forL ?_)
    refine te_callEZ hF ?_
    repeat o_readsAll
    refine ⟨T, ps, ns, br, pl0, ⟨Rp.Le.rfl, Rp.Le.rfl, Rp.Le.rfl, trivial⟩, ok, rl, hfew, hplb, hrl, fun pls hpl20 hpls => ?_⟩
    refine ⟨_, _, IsL.z _, fun n Γ1 μ1 => ∃ e9 e10 e11 e12 e13 e14, Γ1 = [.no, .dv, .rp (TF K T), .rp (runR K ps ns br), .rp (vI best), .rp (ILL pl0), .rp (papR K gs hs), .rp (LS (pps.map fun q => papR K q.1 q.2)), .rp (LS (pps.map fun q => vB (sb T ps br q))), e9, e10, e11, e12, e13, e14] ∧ μ1 = [], ⟨_, _, _, _, _, _, rfl, rfl⟩, ?_, ?_⟩
    · rintro n Γ1 μ1 P hP ⟨e9, e10, e11, e12, e13, e14, rfl, rfl⟩
      obtain ⟨pl, hpl, rfl⟩ := at_mapF hP
      have hplB := hpls pl (List.mem_of_getElem? hpl)
      refine tg_name ?_
      refine ts_seq (ts_set ?_)
      repeat o_readsAll
      refine lcost_of ⟨T, ps, ns, br, pl, ⟨cv_z Rp.Le.rfl, cv_z Rp.Le.rfl, cv_lz, trivial⟩, ok, rok, by have := hplB.1; omega, fun row hm => by have := (hplB.2 row hm).1; omega, fun c hc1 hc2 => ?_⟩
      refine ts_forL ?_
      repeat o_readsAll
      refine ⟨4, (by pre_facts), by decide, by decide, fun r hr0 hr1 => ?_⟩
      repeat o_readsAll
      refine ⟨_, _, IsL.z _, fun n Γ1 μ1 => ∃ e11 e12 e13 e14, Γ1 = [.no, .dv, .rp (TF K T), .rp (runR K ps ns br), .rp (vI best), .rp (ILL pl0), .rp (papR K gs hs), .rp (LS (pps.map fun q => papR K q.1 q.2)), .rp (LS (pps.map fun q => vB (sb T ps br q))), .rp (ILL pl), .rp (vI c), e11, e12, e13, e14] ∧ μ1 = [], ⟨_, _, _, _, rfl, rfl⟩, ?_, ?_⟩
      · rintro j Γ1 μ1 P hPj ⟨e11, e12, e13, e14, rfl, rfl⟩
        obtain ⟨k, hk, rfl⟩ : ∃ k : Nat, k < 5 ∧ P = vI (k : Nat) := by
          match j, hPj with
          | 0, hPj =>
            simp only [List.getElem?_cons_zero, Option.some.injEq] at hPj
            exact ⟨0, by decide, hPj.symm⟩
          | 1, hPj =>
            simp only [List.getElem?_cons_succ, List.getElem?_cons_zero, Option.some.injEq] at hPj
            refine ⟨(1 + r).toNat, by omega, ?_⟩
            rw [← hPj, show (((1 + r).toNat : Nat) : Int) = 1 + r by omega]
          | j + 2, hPj => simp at hPj
        obtain ⟨q, hq⟩ : ∃ q, pps[k]? = some q := ⟨pps[k]'(by omega), List.getElem?_eq_getElem (by omega)⟩
        have hqB := hpp q (List.mem_of_getElem? hq)
        refine tg_name ?_
        refine ts_seq (ts_set ?_)
        repeat o_readsAll
        refine rop_ix (SqLs.q sl_z) (P := papR K q.1 q.2) (at_nat (by omega) (by rw [Int.toNat_natCast, List.getElem?_map, hq]; rfl)) ?_
        show TSv F [.no, .dv, .rp (TF K T), .rp (runR K ps ns br), .rp (vI best), .rp (ILL pl0), .rp (papR K gs hs), .rp (LS (pps.map fun q => papR K q.1 q.2)), .rp (LS (pps.map fun q => vB (sb T ps br q))), .rp (ILL pl), .rp (vI c), .rp (vI (k : Nat)), .rp (papR K q.1 q.2), e13, e14] [] _ _
        refine ts_seq (ts_set (te_imp (S := fun x => ∃ d, x = .z (vB d) ∧ (d = true ↔ 0 ≤ c ∧ PSound T ps br q.1 q.2 ∧ pSum ns q.1 = c)) ?_ ?_))
        · repeat o_readsAll
          refine ⟨fun h1 => ?_, fun h1 => ?_⟩
          · have h1 := of_decide_eq_true h1
            repeat o_readsAll
            refine rop_ixE (u := .bl (sb T ps br q)) (SqLs.q sl_z) (at_nat (by omega) (by rw [Int.toNat_natCast, List.getElem?_map, hq]; rfl)) ?_
            repeat o_readsAll
            refine ⟨fun h2 => ?_, fun h2 => ?_⟩
            · have hsd := sb_iff.mp h2
              repeat o_readsAll
              refine ⟨ns, q.1, q.2, ⟨cv_lz, cv_z le_pp, trivial⟩, by have := hsd.sz.1; have := rok.len; omega, by have := rok.len; omega, fun n hn => ⟨rok.nn n hn, by have := rl.nd n hn; omega⟩, ?_⟩
              repeat o_readsAll
              exact ⟨fun h3 => ⟨h1, hsd, of_decide_eq_true h3⟩, fun h3 => decide_eq_true h3.2.2⟩
            · exact ⟨_, rfl, fun z => (nomatch z), fun z => absurd (sb_iff.mpr z.2.1) (by rw [h2]; decide)⟩
          · have h1 := of_decide_eq_false h1
            exact ⟨_, rfl, fun z => (nomatch z), fun z => absurd z.1 h1⟩
        rintro x ⟨d, rfl, hd⟩
        have hkb : KeptB ps ns br pl q.1 q.2 := by
          refine ⟨by omega, fun x hx => ?_, by have := rok.len; omega, fun x hx => ?_, by have := rl.bl; omega, fun x hx => ?_, hplB.1, fun r hr => (hplB.2 r hr).1, fun r hr x hx => ?_, hqB.gl, fun x hx => ?_, hqB.hl, hqB.rl, fun r hr x hx => ?_⟩
          · obtain ⟨i, h0, h1, rfl⟩ := mem_gi hx
            have := rok.pb i h0 h1
            omega
          · have := rok.nn x hx
            have := rl.nd x hx
            omega
          · have := rl.bb x hx
            omega
          · have := (hplB.2 r hr).2 x hx
            omega
          · have := hqB.gb x hx
            omega
          · have := hqB.rb r hr x hx
            omega
        refine ts_seq (ts_set ?_)
        repeat o_readsAll
        refine rc_repr hkb ?_
        show TSv F [.no, .dv, .rp (TF K T), .rp (runR K ps ns br), .rp (vI best), .rp (ILL pl0), .rp (papR K gs hs), .rp (LS (pps.map fun q => papR K q.1 q.2)), .rp (LS (pps.map fun q => vB (sb T ps br q))), .rp (ILL pl), .rp (vI c), .rp (vI (k : Nat)), .rp (papR K q.1 q.2), .rp (vB d), .rp (vS _)] [] _ _
        generalize hkt : (PyData.list (keptD ps ns br pl q.1 q.2)).shown = kt
        have fin : ∀ D : TD, D.nx [.no, .dv, .rp (TF K T), .rp (runR K ps ns br), .rp (vI best), .rp (ILL pl0), .rp (papR K gs hs), .rp (LS (pps.map fun q => papR K q.1 q.2)), .rp (LS (pps.map fun q => vB (sb T ps br q))), .rp (ILL pl), .rp (vI c), .rp (vI (k : Nat)), .rp (papR K q.1 q.2), .rp (vB d), .rp (vS kt)] [] → TSv F [.no, .dv, .rp (TF K T), .rp (runR K ps ns br), .rp (vI best), .rp (ILL pl0), .rp (papR K gs hs), .rp (LS (pps.map fun q => papR K q.1 q.2)), .rp (LS (pps.map fun q => vB (sb T ps br q))), .rp (ILL pl), .rp (vI c), .rp (vI (k : Nat)), .rp (papR K q.1 q.2), .rp (vB d), .rp (vS kt)] [] (tIfS (tTest (tOp rNe (tCB (rReprD K) (tCons (tLst (tCons (tVar 3) (tCons (tVar 9) (tCons (tVar 12) tNil)))) tNil)) (tVar 14))) (tRet (tC (V.bl false))) tNext) D := by
          intro D hD
          refine ts_if ?_
          repeat o_readsAll
          refine rc_repr hkb ?_
          rw [hkt]
          repeat o_readsAll
          refine rop_ne rfl ?_
          repeat o_readsAll
          refine ⟨fun z => absurd z (by simp), fun _ => ?_⟩
          refine ts_next ?_
          exact hD
        have hacc : ∀ SB : Bool → Prop, SB false → TTv F [.no, .dv, .rp (TF K T), .rp (runR K ps ns br), .rp (vI best), .rp (ILL pl0), .rp (papR K gs hs), .rp (LS (pps.map fun q => papR K q.1 q.2)), .rp (LS (pps.map fun q => vB (sb T ps br q))), .rp (ILL pl), .rp (vI c), .rp (vI (k : Nat)), .rp (papR K q.1 q.2), .rp (vB d), .rp (vS kt)] [] (tNot (tB (tCall (toSp spLSame) [] E0 (tCons (tCall (toSp (spAccepts K)) [] E0 (tCons (tVar 2) (tCons (tOp (rIx K) (tVar 3) (tC (V.int 0))) (tCons (tOp (rIx K) (tVar 3) (tC (V.int 1))) (tCons (tOp (rIx K) (tVar 3) (tC (V.int 2))) (tCons (tVar 9) (tCons (tVar 12) tNil))))))) (tCons (tVar 13) tNil))))) SB := by
          intro SB hSB
          repeat o_readsAll
          refine ⟨T, ps, ns, br, pl, q.1, q.2, ⟨cv_z Rp.Le.rfl, cv_lz, cv_lz, cv_lz, cv_z Rp.Le.rfl, cv_z Rp.Le.rfl, trivial⟩, ok, rok, by have := hplB.1; omega, by have := hqB.gl; omega, by have := hqB.hl; omega, fun b hb => ?_⟩
          have hbd : b = d := bool_iff hb (hd.trans ⟨fun ⟨h1, h2, h3⟩ => ⟨hc1.mp h1, h2, by have := hc2 (hc1.mp h1); omega⟩, fun ⟨h1, h2, h3⟩ => ⟨hc1.mpr h1, h2, by have := hc2 h1; omega⟩⟩)
          subst hbd
          repeat o_readsAll
          refine ⟨b, b, (by pre_facts), ?_⟩
          repeat o_readsAll
          simpa using hSB
        refine ts_seq (ts_if ?_)
        repeat o_readsAll
        have hgo : ∀ D : TD, D.nx [.no, .dv, .rp (TF K T), .rp (runR K ps ns br), .rp (vI best), .rp (ILL pl0), .rp (papR K gs hs), .rp (LS (pps.map fun q => papR K q.1 q.2)), .rp (LS (pps.map fun q => vB (sb T ps br q))), .rp (ILL pl), .rp (vI c), .rp (vI (k : Nat)), .rp (papR K q.1 q.2), .rp (vB d), .rp (vS kt)] [] → TSv F [.no, .dv, .rp (TF K T), .rp (runR K ps ns br), .rp (vI best), .rp (ILL pl0), .rp (papR K gs hs), .rp (LS (pps.map fun q => papR K q.1 q.2)), .rp (LS (pps.map fun q => vB (sb T ps br q))), .rp (ILL pl), .rp (vI c), .rp (vI (k : Nat)), .rp (papR K q.1 q.2), .rp (vB d), .rp (vS kt)] [] tNext D := fun D h => ts_next h
        refine ⟨fun h1 => ?_, fun h1 => ?_⟩
        · obtain ⟨q1, q2, q3⟩ := hd.mp h1
          have hf := hc1.mp q1
          have e1 := hc2 hf
          have e2 := hweak q.1 q.2 pl0 q2 hfit
          have e3 := hweak gs hs pl hps hf
          have e4 : c = best := by omega
          repeat o_readsAll
          refine ⟨fun z => absurd z (by rw [e4]; simp), fun _ => ?_⟩
          refine hacc _ ?_
          refine ⟨fun z => (nomatch z), fun _ => hgo _ ?_⟩
          exact fin _ ⟨_, _, _, _, rfl, rfl⟩
        · refine ⟨fun z => (nomatch z), fun _ => ?_⟩
          refine hacc _ ?_
          refine ⟨fun z => (nomatch z), fun _ => hgo _ ?_⟩
          exact fin _ ⟨_, _, _, _, rfl, rfl⟩
      · rintro Γ1 μ1 ⟨e11, e12, e13, e14, rfl, rfl⟩
        exact ⟨_, _, _, _, _, _, rfl, rfl⟩
    · rintro Γ1 μ1 ⟨e9, e10, e11, e12, e13, e14, rfl, rfl⟩
      refine ts_ret ?_
      repeat o_readsAll
      rfl
end
end Eb
namespace Eb
/-! ### the cheapest plan has potentials -/
def fz (T : Tar) (ps br : List Int) (e : Int → Int) (s : Int) : Nat → Int
  | 0 => 0
  | t + 1 => T.rate s * gi ps ((t + 1 : Nat) : Int) + (if Fresh br (t : Int) then e (t : Int) else min (e (t : Int)) (fz T ps br e s t))
def potP (T : Tar) (ps br : List Int) (e u : Int → Int) : Pl → Int
  | .ground => 0
  | .inn t => u t
  | .out t => e t
  | .asleep t s => fz T ps br e s t.toNat
section
variable {T : Tar} {ps ns br : List Int} {e u : Int → Int}
theorem fz_le (s : Int) (p : Nat) : ∀ d : Nat, p + d + 1 < ps.length → (∀ j : Nat, p < j → j ≤ p + d → ¬ Fresh br (j : Int)) → fz T ps br e s (p + d + 1) ≤ e (p : Int) + T.rate s * psum ps ((p : Int) + 1) ((p : Int) + (d : Int) + 2)
  | 0, hl, _ => by
    have e1 : psum ps ((p : Int) + 1) ((p : Int) + ((0 : Nat) : Int) + 2) = gi ps ((p + 1 : Nat) : Int) := by
      rw [show (p : Int) + ((0 : Nat) : Int) + 2 = ((p : Int) + 1) + 1 by omega, psum_one (by omega) (by omega)]
      rfl
    rw [e1]
    show T.rate s * gi ps ((p + 1 : Nat) : Int) + (if Fresh br (p : Int) then e (p : Int) else min (e (p : Int)) (fz T ps br e s p)) ≤ _
    split
    · omega
    · have : min (e (p : Int)) (fz T ps br e s p) ≤ e (p : Int) := Int.min_le_left ..
      omega
  | d + 1, hl, hf => by
    have ih := fz_le s p d (by omega) fun j h1 h2 => hf j h1 (by omega)
    have e1 : psum ps ((p : Int) + 1) ((p : Int) + ((d + 1 : Nat) : Int) + 2) = psum ps ((p : Int) + 1) ((p : Int) + (d : Int) + 2) + gi ps ((p + (d + 1) + 1 : Nat) : Int) := by
      rw [psum_add (c := (p : Int) + (d : Int) + 2) (by omega) (by omega) (by omega) (by omega), show (p : Int) + ((d + 1 : Nat) : Int) + 2 = ((p : Int) + (d : Int) + 2) + 1 by omega, psum_one (by omega) (by omega), show (p : Int) + (d : Int) + 2 = ((p + (d + 1) + 1 : Nat) : Int) by omega]
    rw [e1, Int.mul_add]
    show T.rate s * gi ps ((p + (d + 1) + 1 : Nat) : Int) + (if Fresh br ((p + (d + 1) : Nat) : Int) then e ((p + (d + 1) : Nat) : Int) else min (e ((p + (d + 1) : Nat) : Int)) (fz T ps br e s (p + d + 1))) ≤ _
    rw [if_neg (hf (p + (d + 1)) (by omega) (by omega))]
    have : min (e ((p + (d + 1) : Nat) : Int)) (fz T ps br e s (p + d + 1)) ≤ fz T ps br e s (p + d + 1) := Int.min_le_right ..
    omega
theorem fz_at (s : Int) : ∀ t : Nat, t + 1 < ps.length → ∃ p d : Nat, p + d = t ∧ (∀ j : Nat, p < j → j ≤ t → ¬ Fresh br (j : Int)) ∧ fz T ps br e s (t + 1) = e (p : Int) + T.rate s * psum ps ((p : Int) + 1) ((t : Int) + 2) := fun t => by
  induction t with
  | zero =>
    intro hl
    refine ⟨0, 0, rfl, fun j h1 h2 => by omega, ?_⟩
    rw [show ((0 : Nat) : Int) + 2 = (((0 : Nat) : Int) + 1) + 1 by omega, psum_one (by omega) (by omega)]
    show T.rate s * gi ps ((0 + 1 : Nat) : Int) + (if Fresh br ((0 : Nat) : Int) then e ((0 : Nat) : Int) else _) = _
    rw [if_pos (.inl rfl), Int.add_comm]
    rfl
  | succ t ih =>
    intro hl
    have here : fz T ps br e s (t + 1 + 1) = T.rate s * gi ps ((t + 1 + 1 : Nat) : Int) + e ((t + 1 : Nat) : Int) → ∃ p d : Nat, p + d = t + 1 ∧ (∀ j : Nat, p < j → j ≤ t + 1 → ¬ Fresh br (j : Int)) ∧ fz T ps br e s (t + 1 + 1) = e (p : Int) + T.rate s * psum ps ((p : Int) + 1) (((t + 1 : Nat) : Int) + 2) := fun h => by
      refine ⟨t + 1, 0, rfl, fun j h1 h2 => by omega, ?_⟩
      rw [show ((t + 1 : Nat) : Int) + 2 = (((t + 1 : Nat) : Int) + 1) + 1 by omega, psum_one (by omega) (by omega), h, Int.add_comm]
      rfl
    have ed : fz T ps br e s (t + 1 + 1) = T.rate s * gi ps ((t + 1 + 1 : Nat) : Int) + (if Fresh br ((t + 1 : Nat) : Int) then e ((t + 1 : Nat) : Int) else min (e ((t + 1 : Nat) : Int)) (fz T ps br e s (t + 1))) := rfl
    by_cases hf : Fresh br ((t + 1 : Nat) : Int)
    · rw [if_pos hf] at ed
      exact here ed
    · rw [if_neg hf] at ed
      rcases Int.le_total (e ((t + 1 : Nat) : Int)) (fz T ps br e s (t + 1)) with h | h
      · rw [Int.min_eq_left h] at ed
        exact here ed
      · rw [Int.min_eq_right h] at ed
        obtain ⟨p, d, hpd, hfr, hv⟩ := ih (by omega)
        refine ⟨p, d + 1, by omega, fun j h1 h2 => ?_, ?_⟩
        · by_cases hj : j = t + 1
          · subst hj
            exact hf
          · exact hfr j h1 (by omega)
        · rw [ed, hv, psum_add (a := (p : Int) + 1) (b := ((t + 1 : Nat) : Int) + 2) (c := (t : Int) + 2) (by omega) (by omega) (by omega) (by omega), show ((t + 1 : Nat) : Int) + 2 = ((t : Int) + 2) + 1 by omega, psum_one (by omega) (by omega), Int.mul_add, show ((t + 1 + 1 : Nat) : Int) = (t : Int) + 2 by omega]
          omega
abbrev AllM (m : Nat) : Int → Prop := fun t => 0 ≤ t ∧ t < (m : Int)
theorem e_nn (P : Pot (gapC T ps br) (fun t => T.rate 0 * gi ps t) ps.length (AllM ps.length) e u) {t : Nat} (ht : t < ps.length) : 0 ≤ e t := by
  have := P.le t ps.length (by omega) (.inr ⟨by omega, by omega⟩) (.inl rfl)
  rw [P.um, gapC_end] at this
  omega
theorem no_brk {p t : Nat} (h : ∀ j : Nat, p < j → j ≤ t → ¬ Fresh br (j : Int)) : ¬ brk br (p : Int) (t : Int) = true := fun z => by
  obtain ⟨m, hm, h1, h2⟩ := brk_iff.mp z
  refine h (m + 1).toNat (by omega) (by omega) (.inr ?_)
  rw [show (((m + 1).toNat : Nat) : Int) - 1 = m by omega]
  exact hm
theorem fresh_of {k : Nat} {b : Int} (hb : b ∈ statesIn T br k) (h0 : b ≠ 0) (hn : b ≠ (T.rates.length : Int)) : ¬ Fresh br k := fun z => by
  unfold statesIn at hb
  rw [if_pos z] at hb
  simp at hb
  omega
theorem pot_fwd (o : T.Ok) (hp : Nn ps) (P : Pot (gapC T ps br) (fun t => T.rate 0 * gi ps t) ps.length (AllM ps.length) e u) : Fwd T ps br (potP T ps br e u) := by
  refine ⟨rfl, fun x hx => ?_⟩
  have hpos := o.pos
  obtain ⟨t, ht, h⟩ := way_cases hx
  have pu : ∀ p : Nat, p < t → u t ≤ e p + gapC T ps br p t := fun p hpt => P.le p t (by omega) (.inr ⟨by omega, by omega⟩) (.inr ⟨by omega, by omega⟩)
  rcases h with rfl | rfl | ⟨hf, b, hb, hbn, rfl | ⟨s, h1, h2, h3, rfl⟩⟩ | ⟨s, hs, hsn, rfl⟩
  · show u t ≤ 0 + T.wake T.rates.length
    have := P.le (-1) t (by omega) (.inl rfl) (.inr ⟨by omega, by omega⟩)
    rw [P.e0, gapC_W (by omega) (.inl (by decide))] at this
    exact this
  · show e t ≤ u t + T.rate 0 * gi ps t
    exact P.pos t ⟨by omega, by omega⟩
  · have ht0 : t ≠ 0 := fun z => hf (.inl (by omega))
    by_cases h0 : b = 0
    · subst h0
      rw [plAfter_0 o]
      show u t ≤ e ((t : Int) - 1) + T.wake 0
      have h1 := pu (t - 1) (by omega)
      rw [gapC_idle (by omega) (by omega) (no_brk fun j h1 h2 => by
        have : j = t := by omega
        subst this
        exact hf), show ((t - 1 : Nat) : Int) + 1 = (t : Int) by omega, psum_nil (by omega) (by omega), idleC_0 o] at h1
      rw [wake_0 o, show (t : Int) - 1 = ((t - 1 : Nat) : Int) by omega]
      exact h1
    · rw [plAfter_s hbn h0]
      rw [show (t : Int) - 1 = ((t - 1 : Nat) : Int) by omega] at hb ⊢
      have hf2 := fresh_of hb h0 hbn
      have hbr := statesIn_range hb
      have ht2 : t - 1 ≠ 0 := fun z => hf2 (.inl (by omega))
      show u t ≤ fz T ps br e b (((t - 1 : Nat) : Int)).toNat + T.wake b
      rw [Int.toNat_natCast, show t - 1 = (t - 2) + 1 by omega]
      obtain ⟨p, d, hpd, hfr, hv⟩ := fz_at (T := T) (ps := ps) (br := br) (e := e) b (t - 2) (by omega)
      rw [hv, show ((t - 2 : Nat) : Int) + 2 = (t : Int) by omega]
      have h1 := pu p (by omega)
      rw [gapC_idle (by omega) (by omega) (no_brk fun j h1 h2 => by
        by_cases hj : j ≤ t - 2
        · exact hfr j h1 hj
        · by_cases hj2 : j = t - 1
          · subst hj2
            exact hf2
          · have : j = t := by omega
            subst this
            exact hf)] at h1
      have h2 := idleC_le (T := T) (t := psum ps ((p : Int) + 1) t) (s := b.toNat) (by omega)
      rw [show ((b.toNat : Nat) : Int) = b by omega] at h2
      unfold Tar.cost at h2
      omega
  · have ht0 : t ≠ 0 := fun z => hf (.inl (by omega))
    by_cases h0 : b = 0
    · subst h0
      rw [plAfter_0 o]
      show fz T ps br e s ((t : Int)).toNat ≤ e ((t : Int) - 1) + T.rate s * gi ps t
      have h4 := fz_le (T := T) (ps := ps) (br := br) (e := e) s (t - 1) 0 (by omega) fun j h5 h6 => by omega
      rw [show t - 1 + 0 + 1 = t by omega, show ((t - 1 : Nat) : Int) + 1 = (t : Int) by omega, show ((t - 1 : Nat) : Int) + ((0 : Nat) : Int) + 2 = (t : Int) + 1 by omega, psum_one (by omega) (by omega), show ((t - 1 : Nat) : Int) = (t : Int) - 1 by omega] at h4
      rw [Int.toNat_natCast]
      exact h4
    · rw [plAfter_s hbn h0]
      rw [show (t : Int) - 1 = ((t - 1 : Nat) : Int) by omega] at hb ⊢
      have hf2 := fresh_of hb h0 hbn
      have hbr := statesIn_range hb
      have ht2 : t - 1 ≠ 0 := fun z => hf2 (.inl (by omega))
      show fz T ps br e s ((t : Int)).toNat ≤ fz T ps br e b (((t - 1 : Nat) : Int)).toNat + T.rate s * gi ps t
      rw [Int.toNat_natCast, Int.toNat_natCast, show t - 1 = (t - 2) + 1 by omega]
      obtain ⟨p, d, hpd, hfr, hv⟩ := fz_at (T := T) (ps := ps) (br := br) (e := e) b (t - 2) (by omega)
      have h4 := fz_le (T := T) (ps := ps) (br := br) (e := e) s p (d + 1) (by omega) fun j h5 h6 => by
        by_cases hj : j ≤ t - 2
        · exact hfr j h5 hj
        · have : j = t - 1 := by omega
          subst this
          exact hf2
      rw [show p + (d + 1) + 1 = t by omega, show (p : Int) + ((d + 1 : Nat) : Int) + 2 = (t : Int) + 1 by omega, psum_add (c := (t : Int)) (by omega) (by omega) (by omega) (by omega), psum_one (by omega) (by omega), Int.mul_add] at h4
      rw [hv, show ((t - 2 : Nat) : Int) + 2 = (t : Int) by omega]
      have h5 := Int.mul_le_mul_of_nonneg_right (rate_mono o hbr.1 h1 (by omega)) (psum_nn hp (a := (p : Int) + 1) (b := (t : Int)) (by omega) (by omega) (by omega))
      omega
  · by_cases h0 : s = 0
    · subst h0
      rw [plAfter_0 o]
      have := e_nn P ht
      show 0 ≤ e t + 0
      omega
    · rw [plAfter_s hsn h0]
      have hf2 := fresh_of hs h0 hsn
      have hsr := statesIn_range hs
      have ht2 : t ≠ 0 := fun z => hf2 (.inl (by omega))
      show 0 ≤ fz T ps br e s ((t : Int)).toNat + 0
      rw [Int.toNat_natCast, show t = (t - 1) + 1 by omega]
      obtain ⟨p, d, hpd, hfr, hv⟩ := fz_at (T := T) (ps := ps) (br := br) (e := e) s (t - 1) (by omega)
      rw [hv]
      have h1 := e_nn P (t := p) (by omega)
      have h2 := Int.mul_nonneg (o.rate hsr.1 hsr.2).1 (psum_nn hp (a := (p : Int) + 1) (b := ((t - 1 : Nat) : Int) + 2) (by omega) (by omega) (by omega))
      omega
/-! a lane's gains are its cost -/
def laneGain (ns : List Int) (g : Nat → Int) (l : Int) : Nat → Int
  | 0 => 0
  | k + 1 => laneGain ns g l k + (if l < gi ns k then g k else 0)
theorem lane_gain (P : Pot (gapC T ps br) (fun t => T.rate 0 * gi ps t) ps.length (AllM ps.length) e u) (l : Int) (ti : Tgh (gapC T ps br) ps.length (Lev (gi ns) ps.length (l + 1)) e u) : ∀ k : Nat, k ≤ ps.length →
    (bestLane T ps ns br l k).1 = laneGain ns (gainP T ps (potP T ps br e u)) l k + e (bestLane T ps ns br l k).2 ∧ ((bestLane T ps ns br l k).2 = -1 ∨ Lev (gi ns) ps.length (l + 1) (bestLane T ps ns br l k).2) ∧ ∀ c : Int, (bestLane T ps ns br l k).2 < c → c < k → ¬ Lev (gi ns) ps.length (l + 1) c
  | 0, _ => ⟨by
      show (0 : Int) = 0 + e (-1)
      rw [P.e0]
      rfl, .inl rfl, fun c h1 h2 => by
      have h1 : (-1 : Int) < c := h1
      have h2 : c < 0 := h2
      omega⟩
  | k + 1, hk => by
    obtain ⟨h1, h2, h3⟩ := lane_gain P l ti k (by omega)
    have hlst := bestLane_last T ps ns br l k
    by_cases hw : l < gi ns k
    · have hb : bestLane T ps ns br l (k + 1) = ((bestLane T ps ns br l k).1 + T.rate 0 * gi ps k + (if (bestLane T ps ns br l k).2 < 0 ∨ brk br (bestLane T ps ns br l k).2 k = true then T.wake T.rates.length else idleC T (psum ps ((bestLane T ps ns br l k).2 + 1) k)), (k : Int)) := by
        conv => lhs; unfold bestLane
        dsimp only
        rw [if_pos hw]
      have hlev : Lev (gi ns) ps.length (l + 1) k := ⟨by omega, by omega, by omega⟩
      have ht := ti _ k hlst.2 h2 (.inr hlev) h3
      have hg : (if (bestLane T ps ns br l k).2 < 0 ∨ brk br (bestLane T ps ns br l k).2 k = true then T.wake T.rates.length else idleC T (psum ps ((bestLane T ps ns br l k).2 + 1) k)) = gapC T ps br (bestLane T ps ns br l k).2 k := by
        unfold gapC
        rw [if_neg (show ¬ (k : Int) = (ps.length : Int) by omega)]
      rw [hb]
      refine ⟨?_, .inr hlev, fun c h4 h5 => ?_⟩
      · show (bestLane T ps ns br l k).1 + T.rate 0 * gi ps k + (if (bestLane T ps ns br l k).2 < 0 ∨ brk br (bestLane T ps ns br l k).2 k = true then T.wake T.rates.length else idleC T (psum ps ((bestLane T ps ns br l k).2 + 1) k)) = laneGain ns (gainP T ps (potP T ps br e u)) l k + (if l < gi ns k then gainP T ps (potP T ps br e u) k else 0) + e k
        rw [hg, h1, if_pos hw]
        show _ = laneGain ns (gainP T ps (potP T ps br e u)) l k + (T.rate 0 * gi ps k + u k - e k) + e k
        omega
      · have h4 : (k : Int) < c := h4
        omega
    · have hb : bestLane T ps ns br l (k + 1) = bestLane T ps ns br l k := by
        conv => lhs; unfold bestLane
        dsimp only
        rw [if_neg hw]
      rw [hb]
      refine ⟨?_, h2, fun c h4 h5 => ?_⟩
      · show _ = laneGain ns (gainP T ps (potP T ps br e u)) l k + (if l < gi ns k then gainP T ps (potP T ps br e u) k else 0) + _
        rw [if_neg hw, Int.add_zero]
        exact h1
      · by_cases hck : c = k
        · subst hck
          exact fun z => hw (by have := z.2.2; omega)
        · exact h3 c h4 (by omega)
theorem lane_total (P : Pot (gapC T ps br) (fun t => T.rate 0 * gi ps t) ps.length (AllM ps.length) e u) (l : Int) (ti : Tgh (gapC T ps br) ps.length (Lev (gi ns) ps.length (l + 1)) e u) : (bestLane T ps ns br l ps.length).1 = laneGain ns (gainP T ps (potP T ps br e u)) l ps.length := by
  obtain ⟨h1, h2, h3⟩ := lane_gain P l ti ps.length (Nat.le_refl _)
  have ht := ti _ ps.length (bestLane_last T ps ns br l ps.length).2 h2 (.inl rfl) h3
  rw [P.um, gapC_end] at ht
  omega
def capSum (ns : List Int) (g : Nat → Int) (N : Int) : Nat → Int
  | 0 => 0
  | k + 1 => capSum ns g N k + min N (gi ns k) * g k
theorem cap_succ (g : Nat → Int) (N : Int) : ∀ k, capSum ns g (N + 1) k = capSum ns g N k + laneGain ns g N k
  | 0 => rfl
  | k + 1 => by
    have ih := cap_succ g N k
    show capSum ns g (N + 1) k + min (N + 1) (gi ns k) * g k = capSum ns g N k + min N (gi ns k) * g k + (laneGain ns g N k + (if N < gi ns k then g k else 0))
    rw [ih]
    by_cases h : N < gi ns k
    · rw [if_pos h, Int.min_eq_left (by omega), Int.min_eq_left (by omega), Int.add_mul, Int.one_mul]
      omega
    · rw [if_neg h, Int.min_eq_right (by omega), Int.min_eq_right (by omega)]
      omega
theorem cap_zero (g : Nat → Int) (hn : ∀ t : Nat, 0 ≤ gi ns t) : ∀ k, capSum ns g 0 k = 0
  | 0 => rfl
  | k + 1 => by
    show capSum ns g 0 k + min 0 (gi ns k) * g k = 0
    rw [cap_zero g hn k, Int.min_eq_left (hn k), Int.zero_mul]
    rfl
theorem cap_all {N : Int} {g : Nat → Int} (hg : ∀ k : Nat, k < ps.length → g k = gi gs k) (hN : ∀ t : Nat, gi ns t ≤ N) : ∀ k, k ≤ ps.length → capSum ns g N k = pUp ns gs k
  | 0, _ => rfl
  | k + 1, hk => by
    show capSum ns g N k + min N (gi ns k) * g k = pUp ns gs k + gi ns k * gi gs k
    rw [cap_all hg hN k (by omega), Int.min_eq_right (hN k), hg k (by omega)]
theorem best_cap (P : Pot (gapC T ps br) (fun t => T.rate 0 * gi ps t) ps.length (AllM ps.length) e u) (hn : ∀ t : Nat, 0 ≤ gi ns t) (ti : ∀ l : Int, 0 ≤ l → Tgh (gapC T ps br) ps.length (Lev (gi ns) ps.length l) e u) : ∀ N : Nat, bestUp T ps ns br N = capSum ns (gainP T ps (potP T ps br e u)) N ps.length
  | 0 => (cap_zero _ hn _).symm
  | N + 1 => by
    show bestUp T ps ns br N + (bestLane T ps ns br N ps.length).1 = capSum ns _ ((N : Int) + 1) ps.length
    rw [cap_succ, best_cap P hn ti N, lane_total P N (ti ((N : Int) + 1) (by omega))]
theorem gi_nn (r : RunOk ps ns br) (t : Nat) : 0 ≤ gi ns t := by
  by_cases h : t < ns.length
  · exact (r.nb t (by omega) (by omega)).1
  · rw [gi_out (by omega)]
    exact Int.le_refl _
theorem gi_mx (t : Nat) : gi ns t ≤ maxN ns := by
  by_cases h : t < ns.length
  · exact (maxN_le ns 0).2 _ (gi_mem (ns := ns) (i := (t : Int)) (by omega) (by omega))
  · rw [gi_out (by omega)]
    exact (maxN_le ns 0).1
/-- the sum over the moments, term by term -/
theorem hot_terms {gs : List Int} {pl : List (List Int)} (hf : ∀ k : Nat, k < ps.length → gi ns k ≤ hotN pl k) (hg : ∀ k : Nat, k < ps.length → 0 ≤ gi gs k) : ∀ k, k ≤ ps.length → pUp ns gs k ≤ hotSum gs pl k ∧ (hotSum gs pl k ≤ pUp ns gs k → ∀ j : Nat, j < k → gi ns j < hotN pl j → gi gs j = 0)
  | 0, _ => ⟨Int.le_refl _, fun _ j hj => absurd hj (Nat.not_lt_zero j)⟩
  | k + 1, hk => by
    obtain ⟨h1, h2⟩ := hot_terms hf hg k (by omega)
    have h3 := Int.mul_le_mul_of_nonneg_right (hf k (by omega)) (hg k (by omega))
    have e1 : pUp ns gs (k + 1) = pUp ns gs k + gi ns k * gi gs k := rfl
    have e2 : hotSum gs pl (k + 1) = hotSum gs pl k + (hotN pl k : Int) * gi gs k := rfl
    rw [e1, e2]
    refine ⟨by omega, fun h4 j hj hlt => ?_⟩
    by_cases hjk : j = k
    · subst hjk
      have h5 : (gi ns j + 1) * gi gs j ≤ (hotN pl j : Int) * gi gs j := Int.mul_le_mul_of_nonneg_right (by omega) (hg j (by omega))
      rw [Int.add_mul, Int.one_mul] at h5
      have := hg j (by omega)
      omega
    · exact h2 (by omega) j (by omega) hlt
theorem way_cost (o : T.Ok) (r : RunOk ps ns br) {x : Way} (hx : x ∈ allWays T ps br) : 0 ≤ x.c ∧ x.c ≤ 1000000000 := by
  have hpos := o.pos
  obtain ⟨t, ht, h⟩ := way_cases hx
  have hw : ∀ s : Int, 0 ≤ s → s ≤ (T.rates.length : Int) → 0 ≤ T.wake s ∧ T.wake s ≤ 1000000000 := fun s h0 h1 => by
    have := o.wake h0 h1
    omega
  have hc : ∀ s : Int, 0 ≤ s → s ≤ (T.rates.length : Int) → 0 ≤ T.rate s * gi ps t ∧ T.rate s * gi ps t ≤ 1000000000 := fun s h0 h1 => by
    have h2 := o.rate h0 h1
    have h3 := r.pb t (by omega) (by omega)
    have h4 := Int.mul_nonneg h2.1 h3.1
    have h5 : T.rate s * gi ps t ≤ 100000 * 1000 := Int.le_trans (Int.mul_le_mul_of_nonneg_right h2.2 h3.1) (Int.mul_le_mul_of_nonneg_left h3.2 (by decide))
    omega
  rcases h with rfl | rfl | ⟨hf, b, hb, hbn, rfl | ⟨s, h1, h2, h3, rfl⟩⟩ | ⟨s, hs, hsn, rfl⟩
  · exact hw _ (by omega) (by omega)
  · exact hc 0 (by omega) (by omega)
  · have := statesIn_range hb
    exact hw b this.1 this.2
  · exact hc s (by omega) (by omega)
  · exact ⟨Int.le_refl _, by show (0 : Int) ≤ 1000000000; decide⟩
theorem ch_feas (o : T.Ok) (r : RunOk ps ns br) : ∃ π, Feas (leftWays T ps ns br (chPlan T ps ns br)) π 1000000000 := by
  have hp : Nn ps := fun i h0 h1 => (r.pb i h0 h1).1
  obtain ⟨e, u, P, ti⟩ := pot_run (ns := ns) (br := br) o hp fun t h0 h1 => (r.nb t h0 (by have := r.len; omega)).1
  have F : Fwd T ps br (potP T ps br e u) := pot_fwd o hp P
  have hfit := ch_fits o r
  have hbest := best_is (br := br) o r.len
  have hsum : bestC T ps ns br = pUp ns (gainsP T ps (potP T ps br e u)) ps.length := by
    unfold bestC
    rw [best_cap P (gi_nn r) ti]
    have h0 := (maxN_le ns 0).1
    refine cap_all (fun k hk => (gainsP_get hk).symm) (fun t => ?_) _ (Nat.le_refl _)
    have := gi_mx (ns := ns) t
    unfold maxN at this ⊢
    omega
  obtain ⟨hev, hpc⟩ := ev_plan (π := potP T ps br e u) o F.g0 _ hfit.1
  obtain ⟨hz1, hz2⟩ := zero_sum (g := sl T ps (potP T ps br e u)) (evPlan T br (chPlan T ps ns br)) fun x hx => sl_nn o F (hev x hx)
  obtain ⟨ht1, ht2⟩ := hot_terms (ps := ps) (ns := ns) (gs := gainsP T ps (potP T ps br e u)) (pl := chPlan T ps ns br) (fun k hk => hfit.2 k (by have := r.len; omega)) (fun k hk => by
    rw [gainsP_get hk]
    exact gain_nn F hk) ps.length (Nat.le_refl _)
  have hsl := hz2 (by omega)
  have hhot := ht2 (by omega)
  refine ⟨potP T ps br e u, F.g0, fun y hy => ?_, by decide, fun y hy => ?_⟩
  · rcases left_cases o hy with h | ⟨x, hx, hc, rfl⟩
    · exact F.le y h
    · obtain ⟨c1, c2, c3⟩ := way_cst o hx
      dsimp only
      rcases c3 with ⟨t, ht, c3, c4⟩ | c3
      · rw [c3, c4] at hc
        rw [cnt_plan o ht _ fun row hm => (hfit.1 row hm).1] at hc
        have h5 := hhot t ht hc
        rw [gainsP_get ht] at h5
        unfold gainP at h5
        have h6 : x.c = T.rate 0 * gi ps t := by rw [c1, c3, c4]; rfl
        rw [c3, c4, h6]
        omega
      · rw [least_0 c3] at hc
        have h5 := hsl _ (of_cnt (p := x.s) (q := x.e) (by omega))
        rw [sl_of c3] at h5
        rw [c1]
        omega
  · rcases left_cases o hy with h | ⟨x, hx, hc, rfl⟩
    · exact (way_cost o r h).2
    · have := (way_cost o r hx).1
      dsimp only
      omega
theorem good_run (o : T.Ok) (r : RunL ps ns br) : Good T ps ns br := by
  have hfit := ch_fits o r.ok
  obtain ⟨π0, f0⟩ := ch_feas o r.ok
  have hbest := best_is (br := br) o r.ok.len
  refine ⟨hfit, ch_few r, hbest, ⟨1000000000, ⟨π0, f0⟩, fun kv d => ?_⟩, fun gs hs pl h1 h2 => weak r.ok.len h1 h2⟩
  have f := dist_feas o f0 d
  have h1 := pap_sound o f.fwd
  have h2 := pap_sum o r.ok.len f hfit
  have h3 := pap_bound o r f.fwd
  rw [hbest] at h2
  exact ⟨h1, h2, h3⟩
end
end Eb
namespace Eb
open PySem PySem.Spec PyProof.Rows L2
/-! ### the law's def is entered where nothing is being told yet (so that repr may be walked) -/
section
variable {P : Program} {w : World} {K : PySem.W.Frag} {mg : Str → Option Value} {base : Heap}
theorem enter_at {st : Stmt} {x : Str} {f : Addr} {fd : FuncData} {N ps : List Str} {A : Around} {outer : List Env} {s : Shared} {H : Hp} {us : List Value} {vs : List V} {Q : VK} {E : XK}
    (G : FunD K x x (defArgs st) (defBody st) (defScope st) [] [] f fd) (sc : FnScope N ps (defScope st)) (ahd : A.handled = none) (adp : A.depth < recursionLimit) (e0 : Env0 P w K mg base A outer s H) (hb : BindsTo s fd ⟨us, []⟩ (ps.zip us))
    (hl : vs.length = ps.length) (hv : Vals vs us)
    (body : ∀ cdv : Value, ∃ t, PSs (cxOf CX0 P w K mg base N x (defScope st) f cdv A outer s H E).nox (defBody st) t ∧ t { nx := fun _ H' => Q .non H', rt := Q } (L2.start N vs) H) :
    codeAny (model P w) A (.call (.ref f) ⟨us, []⟩) (CR CX0 outer P w H s Q E) s := by
  obtain ⟨_, _, _, _, _, _, _, cv, _, _, hfd, atf, atc, _, _⟩ := G.ex
  subst hfd
  have inK : K.In s.heap := e0.mod.kin.keeps fun b o q => (e0.bs b o q).1
  have noL : s.heap.NoLimit := e0.mod.nolimit.keeps fun b o q => (e0.bs b o q).1
  obtain ⟨t, h1, h2⟩ := body cv
  refine Att.call_fn inK noL atf atc adp hb ?kinds (fun s2 y => ?runs) sc.co sc.gen sc.kind
  case kinds =>
    refine List.all_eq_true.mpr fun y hy => ?_
    rcases sc.par y.1 (List.of_mem_zip hy).1 with q | q
    · simp [q]
    · simp [q]
  case runs =>
    have J0 := inv_start (CX := CX0) (E := E) sc ahd e0 hl hv y
    refine wpAny_mono (h1.nox.run [] s2 _ H _ J0 h2) (fun z s3 hz => ?_) fun _ _ hz => hz
    cases z with
    | ret u =>
      obtain ⟨v2, _, H2, J2, rv2, hq2⟩ := hz
      exact ⟨v2, H2, J2.os, J2.bare, J2.base, J2.hok, rv2, hq2⟩
    | next =>
      obtain ⟨_, H2, J2, hq2⟩ := hz
      exact ⟨V.non, H2, J2.os, J2.bare, J2.base, J2.hok, rfl, hq2⟩
    | brk => exact hz.choose_spec.choose_spec.2.elim
    | cont => exact hz.choose_spec.choose_spec.2.elim
/-- what was there stays where at most the script, known to the object, was tracked -/
theorem old_of {H H' : Hp} {s s' : Shared} (hO : Only H) (u : Un (frs []) [] H H' s.heap s'.heap) (ok : HOk P w H s.heap) (ok' : HOk P w H' s'.heap) : OldK s.heap s'.heap := OldK.of_keep fun b o e => by
  rcases hO b with z | ⟨ob, xs, z⟩
  · exact u.keep b o e z (fun q => nomatch q) (fun q => nomatch q)
  · have c1 := (ok b _ z).1
    have c2 := (ok' b _ (u.frzs b ob _ z)).1
    rw [c1] at e
    cases e
    exact c2
theorem law_at {fa a : Addr} {mb : Str → Option Value} {s₁ : Shared} {vs : List Value} {ns : List Int}
    (KX : K.In s₁.heap) (hns : s₁.heap.Ns mainGlobals mg) (hb : s₁.heap.Ns builtinsNs mb) (hbb : ∀ x : Str, x ≠ "__name__" → mb x = bootBuiltins x) (hlim : s₁.heap.NoLimit) (hg : s₁.gens = #[])
    (ha : s₁.heap.get? a = some { cls := .type "list", data := .seq vs.toArray }) (hi : IntsAre vs ns) (hl : ns.length ≤ sizeLine)
    (F : ∀ (base : Heap) (H : Hp), K.In base → base.Ns mainGlobals mg → SqL K H a (ns.map V.int) → Env0 P w K mg base callerA [] s₁ H →
      codeAny (model P w) callerA (.call (.ref fa) ⟨[.ref a], []⟩) (CR CX0 [] P w H s₁ (fun v _ => v = .bl true) E0) s₁) :
    codeAny (model P w) callerA (.call (.ref fa) ⟨[.ref a], []⟩) (fun r s' => r = .ok (.ret (.bool true)) ∧ OldK s₁.heap s'.heap ∧ s'.os = s₁.os ∧ AllBare s'.gens) s₁ := by
  have rv := vals_ints hi
  have hlen := hi.length
  have key : ∀ H : Hp, Only H → SqL K H a (ns.map V.int) → HOk P w H s₁.heap → (∀ b, H b ≠ none → b = a) → (H a ≠ none → K.lookup a = none) →
      codeAny (model P w) callerA (.call (.ref fa) ⟨[.ref a], []⟩) (fun r s' => r = .ok (.ret (.bool true)) ∧ OldK s₁.heap s'.heap ∧ s'.os = s₁.os ∧ AllBare s'.gens) s₁ := fun H hO hS hok hA hK => by
    have stay : ∀ {b : Addr} {o : Obj}, s₁.heap.get? b = some o → (b = a → H b = none) → (hidT s₁.heap H).get? b = some o := fun {b o} e n => hidT_get e (by
      by_cases hba : b = a
      · exact n hba
      · by_cases hn : H b = none
        · exact hn
        · exact absurd (hA b hn) hba)
    have nsk : ∀ {b : Addr} {m : Str → Option Value}, s₁.heap.Ns b m → (hidT s₁.heap H).Ns b m := fun {b m} ⟨o, es, ep, e, d, r⟩ => ⟨o, es, ep, stay e (fun z => by
      subst z
      rw [ha] at e
      cases e
      exact absurd d (fun q => nomatch q)), d, r⟩
    have kb : K.In (hidT s₁.heap H) := fun b o e => stay (KX b o e) fun z => by
      subst z
      by_cases hn : H b = none
      · exact hn
      · rw [hK hn] at e
        cases e
    have md : Mod K mg (hidT s₁.heap H) := ⟨kb, nsk hns, ⟨mb, nsk hb, hbb⟩, by
      obtain ⟨mc, q1, q2⟩ := hlim
      exact ⟨mc, nsk q1, q2⟩⟩
    refine codeAny_mono (F _ H kb (nsk hns) hS ⟨rfl, md, fun b o e => of_hidT e, Nat.le_of_eq (hidT_size _ _), trivial, fun b hb => (nomatch hb), hok, .of_eq hg⟩) fun r s' hr => ?_
    match r, hr with
    | .ok (.ret u), hr =>
      obtain ⟨v, H', h1, h2, h3, h4, h5, h6⟩ := hr
      subst h6
      exact ⟨by rw [show u = Value.bool true from h5], old_of hO h3 hok h4, h1, h2⟩
  by_cases hk : ∃ o, K.lookup a = some o
  · obtain ⟨o, hk⟩ := hk
    have e := KX a o hk
    rw [ha] at e
    obtain rfl := Option.some.inj e
    exact key (fun _ => none) (fun _ => .inl rfl) (.inr ⟨_, vs.toArray, _, hk, rfl, rfl, rfl, by rw [List.size_toArray, hlen]; exact hl, by simpa using rv⟩) (fun _ _ z => nomatch z) (fun _ z => absurd rfl z) fun z => absurd rfl z
  · have hk2 : K.lookup a = none := by
      cases q : K.lookup a with
      | none => rfl
      | some o => exact absurd ⟨o, q⟩ hk
    have at_a : ∀ {b : Addr} {u : HO}, upd (fun _ => none) a (.frz { cls := .type "list", data := .seq vs.toArray } (.lst (ns.map V.int))) b = some u → b = a ∧ u = .frz { cls := .type "list", data := .seq vs.toArray } (.lst (ns.map V.int)) := fun {b u} z => by
      by_cases hb : b = a
      · subst hb
        rw [upd_same] at z
        exact ⟨rfl, (Option.some.inj z).symm⟩
      · rw [upd_ne hb] at z
        cases z
    refine key (upd (fun _ => none) a (.frz { cls := .type "list", data := .seq vs.toArray } (.lst (ns.map V.int)))) (fun b => ?_) (.inl (.inr ⟨_, upd_same⟩)) (fun b u z => ?_) (fun b z => ?_) fun _ => hk2
    · by_cases hb : b = a
      · subst hb
        exact .inr ⟨_, _, upd_same⟩
      · exact .inl (upd_ne hb)
    · obtain ⟨rfl, rfl⟩ := at_a z
      exact ⟨ha, by rw [List.length_map]; exact hl, vs, _, rv, ha⟩
    · cases q : upd (fun _ => none) a (.frz { cls := .type "list", data := .seq vs.toArray } (.lst (ns.map V.int))) b with
      | none => exact absurd q z
      | some u => exact (at_a q).1
end
end Eb
namespace Eb
open PySem PySem.Spec PyProof.Rows L2
section
variable {P : Program} {w : World} {K : PySem.W.Frag} {mg : Str → Option Value} {base : Heap}
theorem law_all (C : Ctx K mg) (cdv : Value) (A : Around) (outer : List Env) (s : Shared) (H : Hp) (a : Addr) (ns : List Int) (E : XK) (hS : SqL K H a (ns.map V.int)) (hr : Room 12 (A.deeper (envOfC "law" (defScope sLaw) s.heap.objs.size (He.ga K "law") cdv)))
    (hgd : A.guards = some []) : ∃ t, PSs (cxOf CX0 P w K mg base nLaw "law" (defScope sLaw) (He.ga K "law") cdv A outer s H E).nox (defBody sLaw) t ∧ t { nx := fun _ H' => (V.non : V) = V.bl true, rt := fun v _ => v = V.bl true } (L2.start nLaw [.ref a]) H := by
  have g_law_start : OkLstart P w K mg base := ok_law_start C 
  have g_law_mix : OkLmix P w K mg base := ok_law_mix C 
  have g_law_draw : OkLdraw P w K mg base := ok_law_draw C g_law_mix
  have g_law_tariff : OkLtariff P w K mg base := ok_law_tariff C g_law_draw
  have g_law_price : OkLprice P w K mg base := ok_law_price C g_law_draw
  have g_law_run : OkLrun P w K mg base := ok_law_run C g_law_draw g_law_price
  have g_law_rate : OkLrate P w K mg base := ok_law_rate C 
  have g_law_idle_cost : OkLidlecost P w K mg base := ok_law_idle_cost C g_law_rate
  have g_law_best : OkLbest P w K mg base := ok_law_best C g_law_idle_cost
  have g_off : OkPoff P w K mg base := ok_off C 
  have g_is_broken : OkPisbroken P w K mg base := ok_is_broken C 
  have g_wake : OkPwake P w K mg base := ok_wake C 
  have g_rate : OkPrate P w K mg base := ok_rate C g_off
  have g_state_cost : OkPstatecost P w K mg base := ok_state_cost C g_wake g_rate
  have g_idle_state : OkPidlestate P w K mg base := ok_idle_state C g_off g_state_cost
  have g_gap_state : OkPgapstate P w K mg base := ok_gap_state C g_is_broken g_idle_state g_off
  have g_lane_row : OkPlanerow P w K mg base := ok_lane_row C g_off g_gap_state
  have g_cheapest : OkPcheapest P w K mg base := ok_cheapest C g_lane_row
  have g_distances : OkPdistances P w K mg base := ok_distances C 
  have g_count_way : OkPcountway P w K mg base := ok_count_way C 
  have g_place_after : OkPplaceafter P w K mg base := ok_place_after C g_off
  have g_before_of : OkPbeforeof P w K mg base := ok_before_of C g_off
  have g_used_ways : OkPusedways P w K mg base := ok_used_ways C g_count_way g_place_after g_before_of g_off
  have g_is_fresh : OkPisfresh P w K mg base := ok_is_fresh C 
  have g_states_in : OkPstatesin P w K mg base := ok_states_in C g_is_fresh g_off
  have g_ways_into : OkPwaysinto P w K mg base := ok_ways_into C g_is_fresh g_off g_place_after g_wake g_states_in g_rate
  have g_all_ways : OkPallways P w K mg base := ok_all_ways C g_states_in g_ways_into g_off g_place_after
  have g_left_ways : OkPleftways P w K mg base := ok_left_ways C g_used_ways g_all_ways
  have g_heads_before : OkPheadsbefore P w K mg base := ok_heads_before C g_states_in g_is_fresh g_off
  have g_net_cost : OkPnetcost P w K mg base := ok_net_cost C g_rate
  have g_step_cost : OkPstepcost P w K mg base := ok_step_cost C g_wake
  have g_least_head : OkPleasthead P w K mg base := ok_least_head C g_net_cost g_step_cost
  have g_make : OkPmake P w K mg base := ok_make C g_cheapest g_distances g_left_ways g_heads_before g_states_in g_least_head g_off g_rate
  have g_law_changed : OkLchanged P w K mg base := ok_law_changed C g_law_draw
  have g_law_before : OkLbefore P w K mg base := ok_law_before C 
  have g_law_any_row : OkLanyrow P w K mg base := ok_law_any_row C g_law_before g_law_draw
  have g_law_any_plan : OkLanyplan P w K mg base := ok_law_any_plan C g_law_draw g_law_any_row
  have g_law_plans : OkLplans P w K mg base := ok_law_plans C g_law_changed g_law_any_plan
  have g_law_spoiled_paper : OkLspoiledpaper P w K mg base := ok_law_spoiled_paper C g_law_draw
  have g_law_changed_size : OkLchangedsize P w K mg base := ok_law_changed_size C g_law_draw
  have g_law_states : OkLstates P w K mg base := ok_law_states C 
  have g_law_step : OkLstep P w K mg base := ok_law_step C 
  have g_law_head : OkLhead P w K mg base := ok_law_head C g_law_states g_law_rate g_law_step
  have g_law_followed : OkLfollowed P w K mg base := ok_law_followed C g_law_draw g_law_states g_law_head
  have g_law_sound : OkLsound P w K mg base := ok_law_sound C g_law_states g_law_head
  have g_law_slack : OkLslack P w K mg base := ok_law_slack C g_law_draw g_law_states g_law_sound
  have g_law_row_cost : OkLrowcost P w K mg base := ok_law_row_cost C g_law_before g_law_rate
  have g_law_plan_cost : OkLplancost P w K mg base := ok_law_plan_cost C g_law_row_cost
  have g_law_cost : OkLcost P w K mg base := ok_law_cost C g_law_plan_cost
  have g_law_is_paper : OkLispaper P w K mg base := ok_law_is_paper C 
  have g_law_sum : OkLsum P w K mg base := ok_law_sum C 
  have g_law_same : OkLsame P w K mg base := ok_law_same C 
  have g_row_cost : OkProwcost P w K mg base := ok_row_cost C g_step_cost g_rate g_before_of
  have g_plan_cost : OkPplancost P w K mg base := ok_plan_cost C g_row_cost
  have g_paper_sum : OkPpapersum P w K mg base := ok_paper_sum C 
  have g_is_row : OkPisrow P w K mg base := ok_is_row C g_step_cost g_off g_before_of
  have g_fits : OkPfits P w K mg base := ok_fits C g_is_row
  have g_has_sizes : OkPhassizes P w K mg base := ok_has_sizes C g_off
  have g_is_row_sound : OkPisrowsound P w K mg base := ok_is_row_sound C g_states_in g_heads_before g_least_head
  have g_is_sound : OkPissound P w K mg base := ok_is_sound C g_has_sizes g_is_row_sound
  have g_accepts : OkPaccepts P w K mg base := ok_accepts C g_plan_cost g_paper_sum g_fits g_is_sound
  exact law_body C (fun T ps ns br ok rl => good_run ok rl) g_law_start g_law_tariff g_law_run g_law_best g_cheapest g_make g_law_plans g_law_spoiled_paper g_law_changed_size g_law_followed g_law_slack g_law_sound g_law_cost g_law_is_paper g_law_sum g_law_draw g_law_same g_accepts cdv A outer s H a ns E hS hr hgd
end
theorem law_walks : PySem.W.WalkO (PySem.W.view R.prog [67]) lo (PySem.W.XL (PySem.W.view R.prog [67]) []) hk.says R.toRowW (HandSHeadRun.topDef R.prog 67) [] (fun f vs => PySem.call f vs) := by
  refine Att.attach_call (l := PySem.Challenge.rw_ebbkeep_k45_whole_papers_for_cheapest_pl) (n := 63) rfl (by kernel_rfl) fun w s₀ s₁ mg mb fad o pm cd doc a vs ns G Y ho hd hcd hmg0 hobj hints hlen hg => ?_
  obtain ⟨K, KX, c⟩ := Y
  have hmg : mg ("law" : PySem.Str) = some (.ref fad) := by
    have e : (HandSHeadRun.topDef R.prog 67).name = ("law" : PySem.Str) := by kernel_rfl
    rw [← e]
    exact hmg0
  have hfa : mg ("law" : PySem.Str) = some (.ref (He.ga K "law")) := He.glo_ok KX G.T.g (c.t.d.fact 61 (f := .glo "law") rfl)
  obtain rfl : fad = He.ga K "law" := by
    rw [hmg] at hfa
    exact Value.ref.inj (Option.some.inj hfa)
  obtain ⟨fd, GD⟩ := c.t.d.def_ 61 (d := mkD "law" sLaw) rfl
  have hbind : ∀ (s : Shared) (v : Value), BindsTo s fd ⟨[v], []⟩ [("_law_script", v)] := by
    have b := FunD.bindsA (ps := ["_law_script"]) GD fun _ _ _ _ _ _ us hl => match us, hl with | [_], _ => rfl
    exact fun s v => b s [v] rfl
  have C : Ctx K mg := ⟨c.t.d, fun x hx => He.glo_ok KX G.T.g (c.t.d.facts hx), fun x hx => He.free_ok KX G.T.g (c.t.d.facts hx), fun H => He.tupB_ok c.more H⟩
  refine law_at (a := a) (ns := ns) KX G.T.g G.T.b G.T.builtins G.T.nolimit hg hobj hints (Nat.le_trans hlen (by decide)) fun base H kb hb hS e0 => ?_
  refine enter_at (us := [.ref a]) (vs := [.ref a]) GD scLaw rfl (by decide) e0 (hbind s₁ (.ref a)) rfl (.cons rfl .nil) fun cdv => ?_
  exact law_all C cdv callerA [] s₁ H a ns E0 hS (Room.deeper (k := 12) (A := callerA) ⟨rfl, by decide, by decide⟩ _) rfl
end Eb
open PySem PySem.W PySem.Calls PyProof.Rows
set_option maxRecDepth 100000 in
set_option maxHeartbeats 0 in
theorem PySem.Challenge.cw_ebbkeep_k45_whole_papers_for_cheapest_pl_holds : PySem.Challenge.rw_ebbkeep_k45_whole_papers_for_cheapest_pl.Holds := by
  exact Eb.holds_of Eb.law_walks
