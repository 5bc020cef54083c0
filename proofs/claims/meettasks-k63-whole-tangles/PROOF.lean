import PyProof.Rows.All
import Wide.All
import OpenK.AllK
import Wide.FinOn
import HandS.Conv
import HandS.DeepEq
import HandS.DictComp
import HandS.Evl
import HandS.Exc
import HandS.ForMost
import HandS.Head2
import HandS.HeadHook4
import HandS.HeadNt
import HandS.HeadWalk
import HandS.IsInst
import HandS.Lambda
import HandS.ListItems
import HandS.More
import HandS.Set
import HandS.SetFor
import HandS.Small
import HandS.SortInts
import HandS.Strs
import HandS.Style
import HandS.TryOnly
import HandS.TupAny
import HandS.Walk
import HandS.WordsExc
import HandS.Zip
import KE.DatumOrd
import KE.GoesEnum
import PySem.Challenge.RW_meettasks_k63_whole_tangles
set_option Elab.async false
set_option linter.all false
set_option maxRecDepth 100000
set_option maxHeartbeats 4000000
namespace DL
open PySem PySem.Spec PyProof.Rows L2
open Evl (Ex)
/-! ## H1 -/
namespace EndL
/-! ### the facts of the top by names, and the run of the top -/
def topQ (i : Nat) : Stmt := PySem.Challenge.pw_meettasks_k63_whole_tangles.main.body.getD i (.Pass ⟨0, 0, 0, 0⟩)
def clsQ (i j : Nat) : Stmt := match topQ i with
  | .ClassDef _ _ _ body _ _ _ _ _ _ _ => body.getD j (.Pass ⟨0, 0, 0, 0⟩)
  | _ => .Pass ⟨0, 0, 0, 0⟩
def d0 : He.DefD := ⟨("BadCeiling", some "__init__"), "__init__", "BadCeiling.__init__", defArgs (clsQ 13 0), defBody (clsQ 13 0), defScope (clsQ 13 0), [], []⟩
def d1 : He.DefD := ⟨("Jobs", some "__init__"), "__init__", "Jobs.__init__", defArgs (clsQ 19 0), defBody (clsQ 19 0), defScope (clsQ 19 0), [], []⟩
def d2 : He.DefD := ⟨("Jobs", some "ceiling"), "ceiling", "Jobs.ceiling", defArgs (clsQ 19 3), defBody (clsQ 19 3), defScope (clsQ 19 3), [], []⟩
def d3 : He.DefD := ⟨("NoThing", some "__init__"), "__init__", "NoThing.__init__", defArgs (clsQ 11 0), defBody (clsQ 11 0), defScope (clsQ 11 0), [], []⟩
def d4 : He.DefD := ⟨("_law_are_comings", none), "_law_are_comings", "_law_are_comings", defArgs (topQ 46), defBody (topQ 46), defScope (topQ 46), [], []⟩
def d5 : He.DefD := ⟨("_law_body", none), "_law_body", "_law_body", defArgs (topQ 32), defBody (topQ 32), defScope (topQ 32), [], []⟩
def d6 : He.DefD := ⟨("_law_can_tangle", none), "_law_can_tangle", "_law_can_tangle", defArgs (topQ 44), defBody (topQ 44), defScope (topQ 44), [], []⟩
def d7 : He.DefD := ⟨("_law_ceilings", none), "_law_ceilings", "_law_ceilings", defArgs (topQ 37), defBody (topQ 37), defScope (topQ 37), [], []⟩
def d8 : He.DefD := ⟨("_law_comings", none), "_law_comings", "_law_comings", defArgs (topQ 40), defBody (topQ 40), defScope (topQ 40), [], []⟩
def d9 : He.DefD := ⟨("_law_handed", none), "_law_handed", "_law_handed", defArgs (topQ 35), defBody (topQ 35), defScope (topQ 35), [], []⟩
def d10 : He.DefD := ⟨("_law_inside", none), "_law_inside", "_law_inside", defArgs (topQ 38), defBody (topQ 38), defScope (topQ 38), [], []⟩
def d11 : He.DefD := ⟨("_law_is_tangled", none), "_law_is_tangled", "_law_is_tangled", defArgs (topQ 41), defBody (topQ 41), defScope (topQ 41), [], []⟩
def d12 : He.DefD := ⟨("_law_jobs", none), "_law_jobs", "_law_jobs", defArgs (topQ 33), defBody (topQ 33), defScope (topQ 33), [], []⟩
def d13 : He.DefD := ⟨("_law_made", none), "_law_made", "_law_made", defArgs (topQ 36), defBody (topQ 36), defScope (topQ 36), [], []⟩
def d14 : He.DefD := ⟨("_law_met", none), "_law_met", "_law_met", defArgs (topQ 45), defBody (topQ 45), defScope (topQ 45), [], []⟩
def d15 : He.DefD := ⟨("_law_mixed", none), "_law_mixed", "_law_mixed", defArgs (topQ 30), defBody (topQ 30), defScope (topQ 30), [], []⟩
def d16 : He.DefD := ⟨("_law_one", none), "_law_one", "_law_one", defArgs (topQ 29), defBody (topQ 29), defScope (topQ 29), [], []⟩
def d17 : He.DefD := ⟨("_law_pool", none), "_law_pool", "_law_pool", defArgs (topQ 27), defBody (topQ 27), defScope (topQ 27), [], []⟩
def d18 : He.DefD := ⟨("_law_run", none), "_law_run", "_law_run", defArgs (topQ 39), defBody (topQ 39), defScope (topQ 39), [], []⟩
def d19 : He.DefD := ⟨("_law_same", none), "_law_same", "_law_same", defArgs (topQ 31), defBody (topQ 31), defScope (topQ 31), [], []⟩
def d20 : He.DefD := ⟨("_law_spots", none), "_law_spots", "_law_spots", defArgs (topQ 43), defBody (topQ 43), defScope (topQ 43), [], []⟩
def d21 : He.DefD := ⟨("_law_take", none), "_law_take", "_law_take", defArgs (topQ 28), defBody (topQ 28), defScope (topQ 28), [], []⟩
def d22 : He.DefD := ⟨("_law_thing_right", none), "_law_thing_right", "_law_thing_right", defArgs (topQ 47), defBody (topQ 47), defScope (topQ 47), [], []⟩
def d23 : He.DefD := ⟨("_law_units", none), "_law_units", "_law_units", defArgs (topQ 34), defBody (topQ 34), defScope (topQ 34), [], []⟩
def d24 : He.DefD := ⟨("_law_users", none), "_law_users", "_law_users", defArgs (topQ 42), defBody (topQ 42), defScope (topQ 42), [], []⟩
def d25 : He.DefD := ⟨("body_kept", none), "body_kept", "body_kept", defArgs (topQ 17), defBody (topQ 17), defScope (topQ 17), [], []⟩
def d26 : He.DefD := ⟨("inside_at", none), "inside_at", "inside_at", defArgs (topQ 20), defBody (topQ 20), defScope (topQ 20), [], []⟩
def d27 : He.DefD := ⟨("is_integer", none), "is_integer", "is_integer", defArgs (topQ 3), defBody (topQ 3), defScope (topQ 3), [], []⟩
def d28 : He.DefD := ⟨("is_job", none), "is_job", "is_job", defArgs (topQ 16), defBody (topQ 16), defScope (topQ 16), [], []⟩
def d29 : He.DefD := ⟨("is_job_body", none), "is_job_body", "is_job_body", defArgs (topQ 15), defBody (topQ 15), defScope (topQ 15), [], []⟩
def d30 : He.DefD := ⟨("is_list", none), "is_list", "is_list", defArgs (topQ 6), defBody (topQ 6), defScope (topQ 6), [], []⟩
def d31 : He.DefD := ⟨("is_natural", none), "is_natural", "is_natural", defArgs (topQ 4), defBody (topQ 4), defScope (topQ 4), [], []⟩
def d32 : He.DefD := ⟨("is_pair", none), "is_pair", "is_pair", defArgs (topQ 7), defBody (topQ 7), defScope (topQ 7), [], []⟩
def d33 : He.DefD := ⟨("is_positive", none), "is_positive", "is_positive", defArgs (topQ 5), defBody (topQ 5), defScope (topQ 5), [], []⟩
def d34 : He.DefD := ⟨("is_word", none), "is_word", "is_word", defArgs (topQ 8), defBody (topQ 8), defScope (topQ 8), [], []⟩
def d35 : He.DefD := ⟨("law", none), "law", "law", defArgs (topQ 48), defBody (topQ 48), defScope (topQ 48), [], []⟩
def d36 : He.DefD := ⟨("least_ceiling", none), "least_ceiling", "least_ceiling", defArgs (topQ 25), defBody (topQ 25), defScope (topQ 25), [], []⟩
def d37 : He.DefD := ⟨("open_spots", none), "open_spots", "open_spots", defArgs (topQ 22), defBody (topQ 22), defScope (topQ 22), [], []⟩
def d38 : He.DefD := ⟨("spans_of", none), "spans_of", "spans_of", defArgs (topQ 18), defBody (topQ 18), defScope (topQ 18), [], []⟩
def d39 : He.DefD := ⟨("tangle", none), "tangle", "tangle", defArgs (topQ 24), defBody (topQ 24), defScope (topQ 24), [], []⟩
def d40 : He.DefD := ⟨("users_of", none), "users_of", "users_of", defArgs (topQ 23), defBody (topQ 23), defScope (topQ 23), [], []⟩
def fn0 : List He.DefD := [d0, d1, d2, d3, d4, d5, d6, d7, d8, d9, d10, d11, d12, d13, d14, d15, d16, d17, d18, d19, d20, d21, d22, d23, d24, d25, d26, d27, d28, d29]
def fn1 : List He.DefD := [d30, d31, d32, d33, d34, d35, d36, d37, d38, d39, d40]
def fn : List He.DefD := (fn0 : List He.DefD) ++ fn1
def fa0 : List He.Fa := [.glo "_law_are_comings", .glo "_law_body", .glo "_law_can_tangle", .glo "_law_ceilings", .glo "_law_comings", .glo "_law_handed", .glo "_law_inside", .glo "_law_is_tangled", .glo "_law_jobs", .glo "_law_made", .glo "_law_met", .glo "_law_mixed", .glo "_law_one", .glo "_law_pool", .glo "_law_run", .glo "_law_same", .glo "_law_spots", .glo "_law_take", .glo "_law_thing_right", .glo "_law_units", .glo "_law_users", .glo "body_kept", .glo "inside_at", .glo "is_integer", .glo "is_job", .glo "is_job_body", .glo "is_list", .glo "is_natural", .glo "is_pair", .glo "is_positive"]
def fa1 : List He.Fa := [.glo "is_word", .glo "law", .glo "least_ceiling", .glo "open_spots", .glo "spans_of", .glo "tangle", .glo "users_of", .glo "Jobs", .glo "NoThing", .glo "BadCeiling", .free "abs", .free "all", .free "any", .free "bool", .free "dict", .free "enumerate", .free "int", .free "isinstance", .free "len", .free "list", .free "max", .free "range", .free "set", .free "sorted", .free "str", .free "sum", .free "tuple", .free "zip", .str "LETTERS" "abcdefghijklmnopqrstuvwxyz", .cls "Jobs"]
def fa2 : List He.Fa := [.meth "Jobs" "ceiling", .mkr "Jobs", .exm "BadCeiling" "NoThing" false, .noat "Jobs" "kept_ceilings", .noat "Jobs" "kept_costs", .noat "Jobs" "kept_jobs", .noat "Jobs" "kept_spans"]
def fa : List He.Fa := (fa0 : List He.Fa) ++ fa1 ++ fa2
def lo0 : List PySem.Str := ["_wall", "LETTERS", "is_integer", "is_natural", "is_positive", "is_list", "is_pair", "is_word", "TaskError", "NoThing", "BadJobs", "BadCeiling", "is_job_body", "is_job", "body_kept", "spans_of", "Jobs", "inside_at", "open_spots", "users_of", "tangle", "least_ceiling", "_law_pool", "_law_take", "_law_one", "_law_mixed", "_law_same", "_law_body", "_law_jobs", "_law_units"]
def lo1 : List PySem.Str := ["_law_handed", "_law_made", "_law_ceilings", "_law_inside", "_law_run", "_law_comings", "_law_is_tangled", "_law_users", "_law_spots", "_law_can_tangle", "_law_met", "_law_are_comings", "_law_thing_right"]
def lo : List PySem.Str := (lo0 : List PySem.Str) ++ lo1
/-- an error's class with its own __init__ -/
def lowB (K : PySem.W.Frag) (x fld : Str) : Bool :=
  (match K.lookup (He.ga K x) with
    | some ⟨.type t, _, .cls cd, sl⟩ => (match cd.mro, sl.toList with
      | .ref C' :: bm, [_, _, _, _, some (.builtin n), _] => decide (t = "type") && (decide (C' = He.ga K x) && (decide (n = "ValueError.__new__") && (!cd.hasDel && (cd.hasDict && PySem.HandSPX.refsVE bm))))
      | _, _ => false)
    | _ => false) &&
  (decide (PySem.W.findIn K (.ref (He.ga K x)) "__setattr__" = some (some (.builtin "object.__setattr__"))) && (decide (PySem.W.findIn K (.ref (He.ga K x)) "__getattribute__" = some (some (.builtin "BaseException.__getattribute__"))) &&
  (decide (PySem.W.findIn K (.ref (He.ga K x)) "__getattr__" = some none) && (decide (PySem.W.findIn K (.ref (He.ga K x)) fld = some none) && (decide (PySem.W.findIn K (.ref (He.ga K x)) "__init__" = some (some (.ref (He.ma K (He.ga K x) "__init__")))) &&
  (decide (PySem.W.typeIn K (.ref (He.ma K (He.ga K x) "__init__")) = some (.type "function")) && (PySem.W.keepIn K (.ref (He.ga K x)) && (decide (PySem.W.subIn K (.ref (He.ga K x)) (.type "BaseException") = some true) &&
  (decide (PySem.W.typeIn K (.ref (He.ga K x)) = some (.type "type")) && decide (PySem.W.exmOne K (.ref (He.ga K x)) (.ref (He.ga K x)) = some true))))))))))
def exB (K : PySem.W.Frag) : Bool := lowB K "NoThing" "thing" && lowB K "BadCeiling" "ceiling"
def tf : List He.Defn := [("law", none)]
abbrev R : PySem.W.OpenRow := PySem.W.OpenLaw.row PySem.Challenge.rw_meettasks_k63_whole_tangles
abbrev hk : PySem.W.Hook := He.hookX 6 fa fn [] tf exB
def ob (s : PySem.W.SharedT) : He.AlX := He.obsX 6 fa fn [] tf exB (HandSHeadRun.getT s)
theorem ob_eq (s : PySem.W.SharedT) : ob s = hk.obs s.abs := He.obsX_eq (HandSHeadRun.getT_eq s)
set_option maxHeartbeats 0 in
theorem run (w : World) : HandSHeadRun.RunEq R (PySem.W.view R.prog [48]) hk ob 3000 lo w := by
  intro os
  kernel_rfl
open PySem.W PySem.Calls in
theorem headL (call : PySem.W.WalkO (PySem.W.view R.prog [48]) lo (PySem.W.XL (PySem.W.view R.prog [48]) []) hk.says R.toRowW (HandSHeadRun.topDef R.prog 48) [] fun f vs => PySem.call f vs) : R.Holds := by
  refine HandSHeadRun.head_any (r := R) (q := PySem.W.view R.prog [48]) (H := hk) (ob := ob) (M := 3000) (loose := lo) (d := HandSHeadRun.topDef R.prog 48) (kwd := []) ob_eq
    (by kernel_rfl) (fun s => by kernel_rfl) run (by kernel_rfl) (by kernel_rfl) (by kernel_rfl) (by rfl) (by first | assumption | decide +kernel) (by decide +kernel) ⟨rfl, rfl, rfl, rfl, rfl, by decide +kernel⟩ ?hw call
  case hw => w_witness2
end EndL
/-! ## DL1 -/
/-- plain data -/
inductive D where
  | non | bl (b : Bool) | int (i : Int) | str (s : Str)
  | lst (l : List D) | tup (l : List D) | dct (l : List (Str × D)) | obj (l : List (Str × D)) | scr (ns : List Int) | ty (n : String)

section
variable (K : PySem.W.Frag) (C : Addr) (F : Hp)
mutual
inductive Rep : V → D → Prop
  | non : Rep .non .non
  | bl (b : Bool) : Rep (.bl b) (.bl b)
  | int (i : Int) : Rep (.int i) (.int i)
  | str (s : Str) : Rep (.str s) (.str s)
  | ty (n : String) : Rep (.ty n) (.ty n)
  | lst {a : Addr} {vs : List V} {ds : List D} : F a = some (.lst vs) → Reps vs ds → Rep (.ref a) (.lst ds)
  | tup {a : Addr} {vs : List V} {ds : List D} : F a = some (.tup vs) → Reps vs ds → Rep (.ref a) (.tup ds)
  | dct {a : Addr} {kvs : List (Key × V)} {ks : List (Str × D)} : Rd F a (.dK kvs) → RepK kvs ks → Rep (.ref a) (.dct ks)
  | obj {a dx : Addr} {fs : List (Str × V)} {ks : List (Str × D)} : F a = some (.ins C dx fs) → RepF fs ks → Rep (.ref a) (.obj ks)
  | scr {a : Addr} {ns : List Int} : SqL K F a (ns.map V.int) → Rep (.ref a) (.scr ns)
inductive Reps : List V → List D → Prop
  | nil : Reps [] []
  | cons {v : V} {d : D} {vs : List V} {ds : List D} : Rep v d → Reps vs ds → Reps (v :: vs) (d :: ds)
inductive RepK : List (Key × V) → List (Str × D) → Prop
  | nil : RepK [] []
  | cons {k : Str} {v : V} {d : D} {vs : List (Key × V)} {ds : List (Str × D)} : Rep v d → RepK vs ds → RepK ((.inr k, v) :: vs) ((k, d) :: ds)
inductive RepF : List (Str × V) → List (Str × D) → Prop
  | nil : RepF [] []
  | cons {k : Str} {v : V} {d : D} {vs : List (Str × V)} {ds : List (Str × D)} : Rep v d → RepF vs ds → RepF ((k, v) :: vs) ((k, d) :: ds)
end
end

/-- what data leans on -/
structure LeR (K : PySem.W.Frag) (F F' : Hp) : Prop where
  lst : ∀ a vs, F a = some (.lst vs) → F' a = some (.lst vs)
  tup : ∀ a vs, F a = some (.tup vs) → F' a = some (.tup vs)
  dK : ∀ a kvs, Rd F a (.dK kvs) → Rd F' a (.dK kvs)
  ins : ∀ a C dx fs, F a = some (.ins C dx fs) → F' a = some (.ins C dx fs)
  sq : ∀ a xs, SqL K F a xs → SqL K F' a xs
theorem LeR.of {K : PySem.W.Frag} {F F' : Hp} (e : Ex F F') : LeR K F F' :=
  ⟨fun a vs h => e a _ h, fun a vs h => e a _ h, fun a kvs h => Evl.ex_rd e h, fun a C dx fs h => e a _ h, fun a xs h => Evl.ex_l e h⟩
theorem LeR.refl {K : PySem.W.Frag} {F : Hp} : LeR K F F := LeR.of (Ex.refl F)

section
variable {K : PySem.W.Frag} {C : Addr} {F F' : Hp} (l : LeR K F F')
include l
mutual
theorem Rep.mono : ∀ {v : V} {d : D}, Rep K C F v d → Rep K C F' v d
  | _, _, .non => .non
  | _, _, .bl b => .bl b
  | _, _, .int i => .int i
  | _, _, .str s => .str s
  | _, _, .ty s => .ty s
  | _, _, .lst h r => .lst (l.lst _ _ h) (Reps.mono r)
  | _, _, .tup h r => .tup (l.tup _ _ h) (Reps.mono r)
  | _, _, .dct h r => .dct (l.dK _ _ h) (RepK.mono r)
  | _, _, .obj h r => .obj (l.ins _ _ _ _ h) (RepF.mono r)
  | _, _, .scr h => .scr (l.sq _ _ h)
theorem Reps.mono : ∀ {vs : List V} {ds : List D}, Reps K C F vs ds → Reps K C F' vs ds
  | _, _, .nil => .nil
  | _, _, .cons h r => .cons (Rep.mono h) (Reps.mono r)
theorem RepK.mono : ∀ {vs : List (Key × V)} {ds : List (Str × D)}, RepK K C F vs ds → RepK K C F' vs ds
  | _, _, .nil => .nil
  | _, _, .cons h r => .cons (Rep.mono h) (RepK.mono r)
theorem RepF.mono : ∀ {vs : List (Str × V)} {ds : List (Str × D)}, RepF K C F vs ds → RepF K C F' vs ds
  | _, _, .nil => .nil
  | _, _, .cons h r => .cons (Rep.mono h) (RepF.mono r)
end
end

section
variable {K : PySem.W.Frag} {C : Addr} {F : Hp}
theorem Reps.length : ∀ {vs : List V} {ds : List D}, Reps K C F vs ds → vs.length = ds.length
  | _, _, .nil => rfl
  | _, _, .cons _ r => congrArg (· + 1) (Reps.length r)
theorem RepK.length : ∀ {vs : List (Key × V)} {ds : List (Str × D)}, RepK K C F vs ds → vs.length = ds.length
  | _, _, .nil => rfl
  | _, _, .cons _ r => congrArg (· + 1) (RepK.length r)
theorem Reps.get : ∀ {vs : List V} {ds : List D} {i : Nat} {d : D}, Reps K C F vs ds → ds[i]? = some d → ∃ v, vs[i]? = some v ∧ Rep K C F v d
  | _, _, _, _, .nil, e => by simp at e
  | _, _, 0, _, .cons h _, e => by simp at e; subst e; exact ⟨_, rfl, h⟩
  | _, _, i + 1, d, .cons _ r, e => by
    obtain ⟨v, h1, h2⟩ := Reps.get (i := i) (d := d) r (by simpa using e)
    exact ⟨v, by simpa using h1, h2⟩
theorem Reps.getV : ∀ {vs : List V} {ds : List D} {i : Nat} {v : V}, Reps K C F vs ds → vs[i]? = some v → ∃ d, ds[i]? = some d ∧ Rep K C F v d
  | _, _, _, _, .nil, e => by simp at e
  | _, _, 0, _, .cons h _, e => by simp at e; subst e; exact ⟨_, rfl, h⟩
  | _, _, i + 1, d, .cons _ r, e => by
    obtain ⟨v, h1, h2⟩ := Reps.getV (i := i) r (by simpa using e)
    exact ⟨v, by simpa using h1, h2⟩
theorem Reps.append : ∀ {vs ws : List V} {ds es : List D}, Reps K C F vs ds → Reps K C F ws es → Reps K C F (vs ++ ws) (ds ++ es)
  | _, _, _, _, .nil, s => s
  | _, _, _, _, .cons h r, s => .cons h (Reps.append r s)
theorem Reps.one {v : V} {d : D} (h : Rep K C F v d) : Reps K C F [v] [d] := .cons h .nil
theorem Reps.eraseIdx : ∀ {vs : List V} {ds : List D} (i : Nat), Reps K C F vs ds → Reps K C F (vs.eraseIdx i) (ds.eraseIdx i)
  | _, _, _, .nil => .nil
  | _, _, 0, .cons _ r => r
  | _, _, i + 1, .cons h r => .cons h (Reps.eraseIdx i r)
theorem Reps.drop : ∀ {vs : List V} {ds : List D} (i : Nat), Reps K C F vs ds → Reps K C F (vs.drop i) (ds.drop i)
  | _, _, 0, r => r
  | _, _, _ + 1, .nil => .nil
  | _, _, i + 1, .cons _ r => Reps.drop i r
theorem Reps.take : ∀ {vs : List V} {ds : List D} (i : Nat), Reps K C F vs ds → Reps K C F (vs.take i) (ds.take i)
  | _, _, 0, _ => .nil
  | _, _, _ + 1, .nil => .nil
  | _, _, i + 1, .cons h r => .cons h (Reps.take i r)
theorem Reps.rep {vs : List V} {ds : List D} (h : Reps K C F vs ds) : ∀ k : Nat, Reps K C F (List.replicate k vs).flatten (List.replicate k ds).flatten
  | 0 => .nil
  | k + 1 => by
    rw [List.replicate_succ, List.replicate_succ, List.flatten_cons, List.flatten_cons]
    exact h.append (Reps.rep h k)
theorem Reps.set : ∀ {vs : List V} {ds : List D} {v : V} {d : D} (i : Nat), Rep K C F v d → Reps K C F vs ds → Reps K C F (vs.set i v) (ds.set i d)
  | _, _, _, _, _, _, .nil => .nil
  | _, _, _, _, 0, q, .cons _ r => .cons q r
  | _, _, _, _, i + 1, q, .cons h r => .cons h (Reps.set i q r)

/-- lookup in a dict of data -/
def getK (k : Str) (ks : List (Str × D)) : Option D := (ks.find? fun p => decide (p.1 = k)).map (·.2)
def putD (ks : List (Str × D)) (k : Str) (d : D) : List (Str × D) := if (ks.any fun p => decide (p.1 = k)) then ks.map fun p => if p.1 = k then (k, d) else p else ks ++ [(k, d)]
theorem inr_dec (a b : Str) : decide ((Sum.inr a : Key) = Sum.inr b) = decide (a = b) := by
  by_cases e : a = b
  · subst e; simp
  · have h : ¬ (Sum.inr a : Key) = Sum.inr b := fun q => e (Sum.inr.inj q)
    rw [decide_eq_false h, decide_eq_false e]
theorem RepK.get : ∀ {vs : List (Key × V)} {ks : List (Str × D)} (k : Str), RepK K C F vs ks → (getK k ks = none ∧ valV vs (.inr k) = none) ∨ ∃ d v, getK k ks = some d ∧ valV vs (.inr k) = some v ∧ Rep K C F v d
  | _, _, _, .nil => .inl ⟨rfl, rfl⟩
  | _, _, k, @RepK.cons _ _ _ k' v d vs ds h r => by
    by_cases e : k' = k
    · subst e
      refine .inr ⟨d, v, ?_, ?_, h⟩
      · simp [getK, List.find?_cons]
      · exact valV_pos rfl
    · have e2 : ¬ (Sum.inr k' : Key) = Sum.inr k := fun q => e (Sum.inr.inj q)
      have g : getK k ((k', d) :: ds) = getK k ds := by simp [getK, List.find?_cons, e]
      rw [g, valV_neg (p := (Sum.inr k', v)) e2]
      exact RepK.get k r
end
/-! ### the state -/
abbrev St := L2.St
structure Bs where
  F : Hp
  H : Hp
  p : Addr
  pl : Bool
def PoolOk (H : Hp) (p : Addr) (n : Nat) : Prop := ∃ a b c : Int, H p = some (.lst [.int a, .int b, .int c]) ∧ 0 ≤ a ∧ 0 ≤ b ∧ b < 1000000007 ∧ 0 ≤ c ∧ c + n ≤ 1000000000
inductive Tg | sl (i : Nat) | tp (i : Nat) deriving DecidableEq
/-- what a field of one's own object holds: data, or a dict of one's own -/
inductive FV | dat (d : D) | own (ks : List (Str × D))
/-- what a name holds -/
inductive Sl where
  | no | dat (d : D) | pool | lst (ds : List D) | dct (ks : List (Str × D)) | dcl (ks : List (Str × List D)) | slf (a : Addr) (fs : List (Str × FV))
/-- what an expression has given: data, or a new list, a new dict that nobody else holds -/
inductive TD where
  | dat (d : D) | fl (ds : List D) | fd (ks : List (Str × D)) | pool
def TD.sl : TD → Sl
  | .dat d => .dat d
  | .fl ds => .lst ds
  | .fd ks => .dct ks
  | .pool => .pool
abbrev En := List Sl

section
variable (K : PySem.W.Frag) (C : Addr)
/-- a dict of lists of one's own, tagged i -/
inductive RepL (F H : Hp) (W : Addr → Option Tg) (i : Tg) : List (Key × V) → List (Str × List D) → List Addr → Prop
  | nil : RepL F H W i [] [] []
  | cons {k : Str} {b : Addr} {vs : List V} {ds : List D} {r r' as} : W b = some i → H b = some (.lst vs) → Reps K C F vs ds → b ∉ as → RepL F H W i r r' as → RepL F H W i ((.inr k, .ref b) :: r) ((k, ds) :: r') (b :: as)
/-- the fields of an object of one's own, tagged i -/
inductive RepS (F H : Hp) (W : Addr → Option Tg) (i : Tg) : List (Str × V) → List (Str × FV) → List Addr → Prop
  | nil : RepS F H W i [] [] []
  | dat {f : Str} {v : V} {d : D} {r r' as} : Rep K C F v d → RepS F H W i r r' as → RepS F H W i ((f, v) :: r) ((f, .dat d) :: r') as
  | own {f : Str} {b : Addr} {kvs : List (Key × V)} {ks : List (Str × D)} {r r' as} : W b = some i → H b = some (.dK kvs) → RepK K C F kvs ks → b ∉ as → RepS F H W i r r' as → RepS F H W i ((f, .ref b) :: r) ((f, .own ks) :: r') (b :: as)
inductive SlOk (F H : Hp) (W : Addr → Option Tg) (B : Bs) (i : Nat) : Option (Option V) → Sl → Prop
  | no (o : Option (Option V)) : SlOk F H W B i o .no
  | dat {v : V} {d : D} : Rep K C F v d → SlOk F H W B i (some (some v)) (.dat d)
  | pool : B.pl = true → SlOk F H W B i (some (some (.ref B.p))) .pool
  | lst {a : Addr} {vs : List V} {ds : List D} : W a = some (.sl i) → H a = some (.lst vs) → Reps K C F vs ds → SlOk F H W B i (some (some (.ref a))) (.lst ds)
  | dct {a : Addr} {kvs : List (Key × V)} {ks : List (Str × D)} : W a = some (.sl i) → H a = some (.dK kvs) → RepK K C F kvs ks → SlOk F H W B i (some (some (.ref a))) (.dct ks)
  | dcl {a : Addr} {kvs : List (Key × V)} {ks : List (Str × List D)} {as : List Addr} : W a = some (.sl i) → H a = some (.dK kvs) → RepL K C F H W (.sl i) kvs ks as → SlOk F H W B i (some (some (.ref a))) (.dcl ks)
  | slf {a dx : Addr} {fvs : List (Str × V)} {fs : List (Str × FV)} {as : List Addr} : W a = some (.sl i) → W dx = some (.sl i) → H a = some (.ins C dx fvs) → H dx = some (.own a) → RepS K C F H W (.sl i) fvs fs as → SlOk F H W B i (some (some (.ref a))) (.slf a fs)
inductive TdOk (F H : Hp) (W : Addr → Option Tg) (B : Bs) (h : Nat) : V → TD → Prop
  | dat {v : V} {d : D} : Rep K C F v d → TdOk F H W B h v (.dat d)
  | pool : B.pl = true → TdOk F H W B h (.ref B.p) .pool
  | fl {a : Addr} {vs : List V} {ds : List D} : W a = some (.tp h) → H a = some (.lst vs) → Reps K C F vs ds → TdOk F H W B h (.ref a) (.fl ds)
  | fd {a : Addr} {kvs : List (Key × V)} {ks : List (Str × D)} : W a = some (.tp h) → H a = some (.dK kvs) → RepK K C F kvs ks → TdOk F H W B h (.ref a) (.fd ks)
def TsOk (F H : Hp) (W : Addr → Option Tg) (B : Bs) : List (V × TD) → Prop
  | [] => True
  | t :: ts => TdOk K C F H W B ts.length t.1 t.2 ∧ TsOk F H W B ts
structure Stt (B : Bs) (F : Hp) (W : Addr → Option Tg) (ts : List (V × TD)) (n : Nat) (env : En) (σ : St) (H : Hp) : Prop where
  ex1 : Ex B.F F
  ex2 : Ex F H
  base : ∀ a o, B.H a = some o → (B.pl = true → a ≠ B.p) → H a = some o
  new : ∀ a o, F a = some o → B.F a = some o ∨ B.H a = none
  own : ∀ a i, W a = some i → F a = none ∧ B.H a = none ∧ ∃ o, H a = some o
  pool : B.pl = true → F B.p = none ∧ (∃ o, B.H B.p = some o) ∧ PoolOk H B.p n
  len : σ.length = env.length
  slots : ∀ (i : Nat) sl, env[i]? = some sl → SlOk K C F H W B i σ[i]? sl
  temps : TsOk K C F H W B ts
def Sta (B : Bs) (ts : List (V × TD)) (n : Nat) (env : En) (σ : St) (H : Hp) : Prop := ∃ F W, Stt K C B F W ts n env σ H
end

section
variable {K : PySem.W.Frag} {C : Addr} {F F' H H' : Hp} {W W' : Addr → Option Tg} {p : Addr} {B : Bs} {ts : List (V × TD)} {n : Nat} {env : En} {σ : St}
theorem RepL.mono {i : Tg} (l : LeR K F F') (hh : ∀ a o, W a = some i → H a = some o → H' a = some o) (hw : ∀ a, W a = some i → W' a = some i) : ∀ {kvs : List (Key × V)} {ks : List (Str × List D)} {as : List Addr}, RepL K C F H W i kvs ks as → RepL K C F' H' W' i kvs ks as
  | _, _, _, .nil => .nil
  | _, _, _, .cons w h r na q => .cons (hw _ w) (hh _ _ w h) (Reps.mono l r) na (RepL.mono l hh hw q)
theorem RepS.mono {i : Tg} (l : LeR K F F') (hh : ∀ a o, W a = some i → H a = some o → H' a = some o) (hw : ∀ a, W a = some i → W' a = some i) {fvs : List (Str × V)} {fs : List (Str × FV)} {as : List Addr} (h : RepS K C F H W i fvs fs as) : RepS K C F' H' W' i fvs fs as := by
  induction h with
  | nil => exact .nil
  | dat r _ ih => exact .dat (r.mono l) ih
  | own w g r na _ ih => exact .own (hw _ w) (hh _ _ w g) (RepK.mono l r) na ih
theorem SlOk.mono {i : Nat} {o : Option (Option V)} {sl : Sl} (l : LeR K F F') (hh : ∀ a o, W a = some (.sl i) → H a = some o → H' a = some o) (hw : ∀ a, W a = some (.sl i) → W' a = some (.sl i)) (x : SlOk K C F H W B i o sl) : SlOk K C F' H' W' B i o sl := by
  cases x with
  | no => exact .no _
  | dat r => exact .dat (r.mono l)
  | pool h => exact .pool h
  | lst w h r => exact .lst (hw _ w) (hh _ _ w h) (Reps.mono l r)
  | dct w h r => exact .dct (hw _ w) (hh _ _ w h) (RepK.mono l r)
  | dcl w h r => exact .dcl (hw _ w) (hh _ _ w h) (RepL.mono l hh hw r)
  | slf w w2 h h2 r => exact .slf (hw _ w) (hw _ w2) (hh _ _ w h) (hh _ _ w2 h2) (RepS.mono l hh hw r)
theorem TdOk.mono {i : Nat} {v : V} {td : TD} (l : LeR K F F') (hh : ∀ a o, W a = some (.tp i) → H a = some o → H' a = some o) (hw : ∀ a, W a = some (.tp i) → W' a = some (.tp i)) (x : TdOk K C F H W B i v td) : TdOk K C F' H' W' B i v td := by
  cases x with
  | dat r => exact .dat (r.mono l)
  | pool h => exact .pool h
  | fl w h r => exact .fl (hw _ w) (hh _ _ w h) (Reps.mono l r)
  | fd w h r => exact .fd (hw _ w) (hh _ _ w h) (RepK.mono l r)
theorem TsOk.mono (l : LeR K F F') : ∀ {ts : List (V × TD)}, (∀ a o i, i < ts.length → W a = some (.tp i) → H a = some o → H' a = some o) → (∀ a i, i < ts.length → W a = some (.tp i) → W' a = some (.tp i)) → TsOk K C F H W B ts → TsOk K C F' H' W' B ts
  | [], _, _, _ => trivial
  | _ :: ts, hh, hw, ⟨a, b⟩ => ⟨a.mono l (fun x o w => hh x o _ (Nat.lt_succ_self _) w) (fun x w => hw x _ (Nat.lt_succ_self _) w), TsOk.mono l (fun x o i hi => hh x o i (Nat.lt_succ_of_lt hi)) (fun x i hi => hw x i (Nat.lt_succ_of_lt hi)) b⟩
theorem PoolOk.mono {n' : Nat} (h : PoolOk H p n) (e : H' p = H p) (l : n' ≤ n) : PoolOk H' p n' := by
  obtain ⟨a, b, c, h1, h2, h3, h4, h5, h6⟩ := h
  exact ⟨a, b, c, e.trans h1, h2, h3, h4, h5, by omega⟩

namespace Stt
/-- new things beside (all kept): behind an operation on data -/
theorem grow (S : Stt K C B F W ts n env σ H) (e1 : Ex F F') (e2 : Ex F' H') (e3 : Ex H H') (nw : ∀ a o, F' a = some o → F a = some o ∨ H a = none) : Stt K C B F' W ts n env σ H' where
  ex1 := S.ex1.trans e1
  ex2 := e2
  base := fun a o h q => e3 a o (S.base a o h q)
  new := fun a o h => by
    rcases nw a o h with h | h
    · exact S.new a o h
    · cases q : B.H a with
      | none => exact .inr rfl
      | some u =>
        by_cases z : B.pl = true ∧ a = B.p
        · obtain ⟨z1, z2⟩ := z
          obtain ⟨_, _, x, y, c, hp, _⟩ := S.pool z1
          rw [z2, hp] at h; cases h
        · have := S.base a u q (fun z1 z2 => z ⟨z1, z2⟩)
          rw [h] at this; cases this
  own := fun a i w => by
    obtain ⟨h1, h2, o, h3⟩ := S.own a i w
    refine ⟨?_, h2, o, e3 a o h3⟩
    cases q : F' a with
    | none => rfl
    | some u =>
      rcases nw a u q with h | h
      · rw [h1] at h; cases h
      · rw [h3] at h; cases h
  pool := fun hp => by
    obtain ⟨h1, h2, h3⟩ := S.pool hp
    obtain ⟨x, y, c, hq, hr⟩ := h3
    refine ⟨?_, h2, x, y, c, e3 _ _ hq, hr⟩
    cases q : F' B.p with
    | none => rfl
    | some u =>
      rcases nw B.p u q with h | h
      · rw [h1] at h; cases h
      · rw [hq] at h; cases h
  len := S.len
  slots := fun i sl h => (S.slots i sl h).mono (LeR.of e1) (fun a o _ h => e3 a o h) (fun _ h => h)
  temps := TsOk.mono (LeR.of e1) (fun a o _ _ _ h => e3 a o h) (fun _ _ _ h => h) S.temps
/-- a new thing, frozen at once -/
theorem fresh {q : Addr} {o : HO} (S : Stt K C B F W ts n env σ H) (hq : H q = none) : Stt K C B (upd F q o) W ts n env σ (upd H q o) := by
  have hf : F q = none := by
    cases e : F q with
    | none => rfl
    | some u => rw [S.ex2 q u e] at hq; cases hq
  refine S.grow (Ex.new hf) ?_ (Ex.new hq) ?_
  · intro a u h
    by_cases e : a = q
    · subst e; rw [upd_same] at h ⊢; exact h
    · rw [upd_ne e] at h ⊢; exact S.ex2 a u h
  · intro a u h
    by_cases e : a = q
    · subst e; exact .inr hq
    · rw [upd_ne e] at h; exact .inl h
theorem push (S : Stt K C B F W ts n env σ H) {v : V} {d : D} (r : Rep K C F v d) : Stt K C B F W ((v, .dat d) :: ts) n env σ H :=
  ⟨S.ex1, S.ex2, S.base, S.new, S.own, S.pool, S.len, S.slots, ⟨.dat r, S.temps⟩⟩
theorem pushP (hp : B.pl = true) (S : Stt K C B F W ts n env σ H) : Stt K C B F W ((.ref B.p, .pool) :: ts) n env σ H :=
  ⟨S.ex1, S.ex2, S.base, S.new, S.own, S.pool, S.len, S.slots, ⟨.pool hp, S.temps⟩⟩
theorem pop {t : V × TD} (S : Stt K C B F W (t :: ts) n env σ H) : Stt K C B F W ts n env σ H :=
  ⟨S.ex1, S.ex2, S.base, S.new, S.own, S.pool, S.len, S.slots, S.temps.2⟩
theorem less {m : Nat} (S : Stt K C B F W ts n env σ H) (h : m ≤ n) : Stt K C B F W ts m env σ H :=
  ⟨S.ex1, S.ex2, S.base, S.new, S.own, fun hp => let ⟨a, b, c⟩ := S.pool hp; ⟨a, b, c.mono rfl h⟩, S.len, S.slots, S.temps⟩
/-- a name holds data now -/
theorem setD {i : Nat} {v : V} {d : D} (S : Stt K C B F W ((v, .dat d) :: ts) n env σ H) : Stt K C B F W ts n (env.set i (.dat d)) (σ.set i (some v)) H := by
  refine ⟨S.ex1, S.ex2, S.base, S.new, S.own, S.pool, by simpa using S.len, fun j sl h => ?_, S.temps.2⟩
  by_cases e : i = j
  · subst e
    have hi : i < env.length := by
      have := (List.getElem?_eq_some_iff.mp h).1
      simpa using this
    rw [List.getElem?_set_self hi] at h
    cases h
    rw [List.getElem?_set_self (by rw [S.len]; exact hi)]
    cases S.temps.1 with
    | dat r => exact .dat r
  · rw [List.getElem?_set_ne e] at h ⊢
    exact S.slots j sl h
theorem setPool {i : Nat} (S : Stt K C B F W ((v, .pool) :: ts) n env σ H) : Stt K C B F W ts n (env.set i .pool) (σ.set i (some v)) H := by
  refine ⟨S.ex1, S.ex2, S.base, S.new, S.own, S.pool, by simpa using S.len, fun j sl h => ?_, S.temps.2⟩
  by_cases e : i = j
  · subst e
    have hi : i < env.length := by
      have := (List.getElem?_eq_some_iff.mp h).1
      simpa using this
    rw [List.getElem?_set_self hi] at h
    cases h
    rw [List.getElem?_set_self (by rw [S.len]; exact hi)]
    cases S.temps.1 with
    | pool hp => exact .pool hp
  · rw [List.getElem?_set_ne e] at h ⊢
    exact S.slots j sl h
/-- the tag of an address changes -/
def retag (W : Addr → Option Tg) (a : Addr) (t : Option Tg) : Addr → Option Tg := fun b => if b = a then t else W b
theorem retag_same {a : Addr} {t : Option Tg} : retag W a t a = t := by unfold retag; rw [if_pos rfl]
theorem retag_ne {a b : Addr} {t : Option Tg} (h : b ≠ a) : retag W a t b = W b := by unfold retag; rw [if_neg h]
/-- a new list, a new dict goes to a name -/
theorem setF {i : Nat} {v : V} {td : TD} (S : Stt K C B F W ((v, td) :: ts) n env σ H) : ∃ W', Stt K C B F W' ts n (env.set i td.sl) (σ.set i (some v)) H := by
  have go : ∀ (a : Addr), v = .ref a → W a = some (.tp ts.length) → (∀ W', W' a = some (.sl i) → SlOk K C F H W' B i (some (some v)) td.sl) → ∃ W', Stt K C B F W' ts n (env.set i td.sl) (σ.set i (some v)) H := by
    intro a ev hw new
    refine ⟨retag W a (some (.sl i)), S.ex1, S.ex2, S.base, S.new, fun b t h => ?_, S.pool, by simpa using S.len, fun j sl h => ?_, ?_⟩
    · by_cases e : b = a
      · subst e; exact S.own b _ hw
      · rw [retag_ne e] at h; exact S.own b t h
    · by_cases e : i = j
      · subst e
        have hi : i < env.length := by
          have := (List.getElem?_eq_some_iff.mp h).1
          simpa using this
        rw [List.getElem?_set_self hi] at h
        cases h
        rw [List.getElem?_set_self (by rw [S.len]; exact hi)]
        exact new _ retag_same
      · rw [List.getElem?_set_ne e] at h ⊢
        refine (S.slots j sl h).mono LeR.refl (fun _ _ _ h => h) fun b hb => ?_
        have : b ≠ a := fun z => by subst z; rw [hw] at hb; cases hb
        rw [retag_ne this]; exact hb
    · refine TsOk.mono LeR.refl (fun _ _ _ _ _ h => h) (fun b j hj hb => ?_) S.temps.2
      have : b ≠ a := fun z => by subst z; rw [hw] at hb; cases hb; exact absurd hj (Nat.lt_irrefl _)
      rw [retag_ne this]; exact hb
  cases S.temps.1 with
  | dat r => exact ⟨W, S.setD⟩
  | pool _ => exact ⟨W, S.setPool⟩
  | fl w h r => exact go _ rfl w fun W' hW => .lst hW h r
  | fd w h r => exact go _ rfl w fun W' hW => .dct hW h r
/-- a new list, not held by anybody -/
theorem newF {q : Addr} {vs : List V} {ds : List D} (S : Stt K C B F W ts n env σ H) (hq : H q = none) (r : Reps K C F vs ds) : ∃ W', Stt K C B F W' ((.ref q, .fl ds) :: ts) n env σ (upd H q (.lst vs)) := by
  have hf : F q = none := by
    cases e : F q with
    | none => rfl
    | some u => rw [S.ex2 q u e] at hq; cases hq
  have nq : ∀ b t, W b = some t → b ≠ q := fun b t hb z => by
    obtain ⟨_, _, o, ho⟩ := S.own b t hb
    rw [z, hq] at ho; cases ho
  have e3 : Ex H (upd H q (.lst vs)) := Ex.new hq
  have bq : B.H q = none := by
    cases e : B.H q with
    | none => rfl
    | some u =>
      by_cases z : B.pl = true ∧ q = B.p
      · obtain ⟨z1, z2⟩ := z
        obtain ⟨_, _, x, y, c, hp, _⟩ := S.pool z1
        rw [z2, hp] at hq; cases hq
      · have := S.base q u e (fun z1 z2 => z ⟨z1, z2⟩)
        rw [hq] at this; cases this
  refine ⟨retag W q (some (.tp ts.length)), S.ex1, S.ex2.trans e3, fun a o h z => e3 a o (S.base a o h z), S.new, fun b t h => ?_, fun hp => ?_, S.len, fun j sl h => ?_, ?_, ?_⟩
  · by_cases e : b = q
    · subst e; exact ⟨hf, bq, _, upd_same⟩
    · rw [retag_ne e] at h
      obtain ⟨h1, h2, o, h3⟩ := S.own b t h
      exact ⟨h1, h2, o, e3 b o h3⟩
  · obtain ⟨h1, h2, x, y, c, hp, hr⟩ := S.pool hp
    exact ⟨h1, h2, x, y, c, e3 _ _ hp, hr⟩
  · exact (S.slots j sl h).mono LeR.refl (fun a o _ h => e3 a o h) fun b hb => by rw [retag_ne (nq b _ hb)]; exact hb
  · exact .fl retag_same upd_same r
  · exact TsOk.mono LeR.refl (fun a o _ _ _ h => e3 a o h) (fun b j _ hb => by rw [retag_ne (nq b _ hb)]; exact hb) S.temps
theorem newFd {q : Addr} {kvs : List (Key × V)} {ks : List (Str × D)} (S : Stt K C B F W ts n env σ H) (hq : H q = none) (r : RepK K C F kvs ks) : ∃ W', Stt K C B F W' ((.ref q, .fd ks) :: ts) n env σ (upd H q (.dK kvs)) := by
  have hf : F q = none := by
    cases e : F q with
    | none => rfl
    | some u => rw [S.ex2 q u e] at hq; cases hq
  have nq : ∀ b t, W b = some t → b ≠ q := fun b t hb z => by
    obtain ⟨_, _, o, ho⟩ := S.own b t hb
    rw [z, hq] at ho; cases ho
  have e3 : Ex H (upd H q (.dK kvs)) := Ex.new hq
  have bq : B.H q = none := by
    cases e : B.H q with
    | none => rfl
    | some u =>
      by_cases z : B.pl = true ∧ q = B.p
      · obtain ⟨z1, z2⟩ := z
        obtain ⟨_, _, x, y, c, hp, _⟩ := S.pool z1
        rw [z2, hp] at hq; cases hq
      · have := S.base q u e (fun z1 z2 => z ⟨z1, z2⟩)
        rw [hq] at this; cases this
  refine ⟨retag W q (some (.tp ts.length)), S.ex1, S.ex2.trans e3, fun a o h z => e3 a o (S.base a o h z), S.new, fun b t h => ?_, fun hp => ?_, S.len, fun j sl h => ?_, ?_, ?_⟩
  · by_cases e : b = q
    · subst e; exact ⟨hf, bq, _, upd_same⟩
    · rw [retag_ne e] at h
      obtain ⟨h1, h2, o, h3⟩ := S.own b t h
      exact ⟨h1, h2, o, e3 b o h3⟩
  · obtain ⟨h1, h2, x, y, c, hp, hr⟩ := S.pool hp
    exact ⟨h1, h2, x, y, c, e3 _ _ hp, hr⟩
  · exact (S.slots j sl h).mono LeR.refl (fun a o _ h => e3 a o h) fun b hb => by rw [retag_ne (nq b _ hb)]; exact hb
  · exact .fd retag_same upd_same r
  · exact TsOk.mono LeR.refl (fun a o _ _ _ h => e3 a o h) (fun b j _ hb => by rw [retag_ne (nq b _ hb)]; exact hb) S.temps
/-- a thing of one's own at a is given away: it is data from now on -/
theorem freeze {a : Addr} {o : HO} {t : Tg} (S : Stt K C B F W ts n env σ H) (ha : H a = some o) (hw : W a = some t) (env' : En) (ts' : List (V × TD)) (he : env'.length = env.length)
    (hs : ∀ (i : Nat) sl, env'[i]? = some sl → (t ≠ .sl i ∧ env[i]? = some sl) ∨ SlOk K C (upd F a o) H (retag W a none) B i σ[i]? sl)
    (ht : TsOk K C (upd F a o) H (retag W a none) B ts') : Stt K C B (upd F a o) (retag W a none) ts' n env' σ H := by
  obtain ⟨hf, hb, _⟩ := S.own a t hw
  refine ⟨S.ex1.trans (Ex.new hf), ?_, S.base, fun b u h => ?_, fun b u h => ?_, fun hp => ?_, S.len.trans he.symm, fun i sl h => ?_, ht⟩
  · intro b u h
    by_cases e : b = a
    · subst e; rw [upd_same] at h; cases h; exact ha
    · rw [upd_ne e] at h; exact S.ex2 b u h
  · by_cases e : b = a
    · subst e; exact .inr hb
    · rw [upd_ne e] at h; exact S.new b u h
  · by_cases e : b = a
    · subst e; rw [retag_same] at h; cases h
    · rw [retag_ne e] at h
      obtain ⟨h1, h2⟩ := S.own b u h
      exact ⟨by rw [upd_ne e]; exact h1, h2⟩
  · obtain ⟨h1, h2, h3⟩ := S.pool hp
    refine ⟨?_, h2, h3⟩
    have : B.p ≠ a := fun z => by
      obtain ⟨_, u⟩ := h2
      rw [z, hb] at u; cases u
    rw [upd_ne this]; exact h1
  · rcases hs i sl h with ⟨ne, h⟩ | h
    · refine (S.slots i sl h).mono (LeR.of (Ex.new hf)) (fun _ _ _ h => h) fun b hbb => ?_
      have : b ≠ a := fun z => by subst z; rw [hw] at hbb; exact ne (Option.some.inj hbb)
      rw [retag_ne this]; exact hbb
    · exact h
/-- the last temp is data from now on -/
def _root_.DL.TD.d : TD → Option D
  | .dat d => some d
  | .fl ds => some (.lst ds)
  | .fd ks => some (.dct ks)
  | .pool => none
theorem frzT {v : V} {td : TD} {d : D} (S : Stt K C B F W ((v, td) :: ts) n env σ H) (hd : td.d = some d) : ∃ F' W', Stt K C B F' W' ((v, .dat d) :: ts) n env σ H := by
  have go : ∀ (a : Addr) (o : HO), v = .ref a → W a = some (.tp ts.length) → H a = some o → (F a = none → Rep K C (upd F a o) v d) → ∃ F' W', Stt K C B F' W' ((v, .dat d) :: ts) n env σ H := by
    intro a o ev hw ho hr
    have hf := (S.own a _ hw).1
    refine ⟨_, _, S.freeze ho hw env _ rfl (fun i sl h => .inl ⟨(by intro z; cases z), h⟩) ⟨.dat (hr hf), ?_⟩⟩
    refine TsOk.mono (LeR.of (Ex.new hf)) (fun _ _ _ _ _ h => h) (fun b j hj hb => ?_) S.temps.2
    have : b ≠ a := fun z => by subst z; rw [hw] at hb; cases hb; exact absurd hj (Nat.lt_irrefl _)
    rw [retag_ne this]; exact hb
  cases S.temps.1 with
  | dat r => cases hd; exact ⟨F, W, S⟩
  | pool _ => cases hd
  | fl w h r => cases hd; exact go _ _ rfl w h fun hf => .lst upd_same (Reps.mono (LeR.of (Ex.new hf)) r)
  | fd w h r => cases hd; exact go _ _ rfl w h fun hf => .dct (.inl upd_same) (RepK.mono (LeR.of (Ex.new hf)) r)
/-- a name's own list is data from now on -/
theorem frzL {i : Nat} {ds : List D} (S : Stt K C B F W ts n env σ H) (he : env[i]? = some (.lst ds)) : ∃ F' W' v, σ[i]? = some (some v) ∧ Stt K C B F' W' ((v, .dat (.lst ds)) :: ts) n (env.set i (.dat (.lst ds))) σ H := by
  have hi := (List.getElem?_eq_some_iff.mp he).1
  generalize hx : σ[i]? = x
  have s := S.slots i _ he
  rw [hx] at s
  cases s with
  | @lst a vs _ w h r =>
    have hf := (S.own a _ w).1
    have l : LeR K F (upd F a (.lst vs)) := LeR.of (Ex.new hf)
    have rep : Rep K C (upd F a (.lst vs)) (.ref a) (.lst ds) := .lst upd_same (Reps.mono l r)
    refine ⟨_, _, .ref a, rfl, S.freeze h w (env.set i (.dat (.lst ds))) _ (by simp) (fun j sl hj => ?_) ⟨.dat rep, ?_⟩⟩
    · by_cases e : i = j
      · subst e
        rw [List.getElem?_set_self hi] at hj
        cases hj
        rw [hx]
        exact .inr (.dat rep)
      · rw [List.getElem?_set_ne e] at hj
        exact .inl ⟨fun z => by cases z; exact e rfl, hj⟩
    · refine TsOk.mono l (fun _ _ _ _ _ h => h) (fun b j hj hb => ?_) S.temps
      have : b ≠ a := fun z => by subst z; rw [w] at hb; cases hb
      rw [retag_ne this]; exact hb
theorem frzK {i : Nat} {ks : List (Str × D)} (S : Stt K C B F W ts n env σ H) (he : env[i]? = some (.dct ks)) : ∃ F' W' v, σ[i]? = some (some v) ∧ Stt K C B F' W' ((v, .dat (.dct ks)) :: ts) n (env.set i (.dat (.dct ks))) σ H := by
  have hi := (List.getElem?_eq_some_iff.mp he).1
  generalize hx : σ[i]? = x
  have s := S.slots i _ he
  rw [hx] at s
  cases s with
  | @dct a kvs _ w h r =>
    have hf := (S.own a _ w).1
    have l : LeR K F (upd F a (.dK kvs)) := LeR.of (Ex.new hf)
    have rep : Rep K C (upd F a (.dK kvs)) (.ref a) (.dct ks) := .dct (.inl upd_same) (RepK.mono l r)
    refine ⟨_, _, .ref a, rfl, S.freeze h w (env.set i (.dat (.dct ks))) _ (by simp) (fun j sl hj => ?_) ⟨.dat rep, ?_⟩⟩
    · by_cases e : i = j
      · subst e
        rw [List.getElem?_set_self hi] at hj
        cases hj
        rw [hx]
        exact .inr (.dat rep)
      · rw [List.getElem?_set_ne e] at hj
        exact .inl ⟨fun z => by cases z; exact e rfl, hj⟩
    · refine TsOk.mono l (fun _ _ _ _ _ h => h) (fun b j hj hb => ?_) S.temps
      have : b ≠ a := fun z => by subst z; rw [w] at hb; cases hb
      rw [retag_ne this]; exact hb
/-- a name's own list, dict is changed -/
theorem change {a : Addr} {o' : HO} {i : Nat} {sl : Sl} (S : Stt K C B F W ts n env σ H) (hw : W a = some (.sl i)) (hn : SlOk K C F (upd H a o') W B i σ[i]? sl) : Stt K C B F W ts n (env.set i sl) σ (upd H a o') := by
  obtain ⟨hf, hb, o, ho⟩ := S.own a _ hw
  have ne : ∀ b t, W b = some t → t ≠ .sl i → b ≠ a := fun b t h z e => by subst e; rw [hw] at h; exact z (Option.some.inj h).symm
  refine ⟨S.ex1, fun b u h => ?_, fun b u h z => ?_, S.new, fun b t h => ?_, fun hp => ?_, by simpa using S.len, fun j s h => ?_, ?_⟩
  · rw [upd_ne (fun z => by subst z; rw [hf] at h; cases h)]; exact S.ex2 b u h
  · rw [upd_ne (fun z => by subst z; rw [hb] at h; cases h)]; exact S.base b u h z
  · obtain ⟨h1, h2, u, h3⟩ := S.own b t h
    by_cases e : b = a
    · subst e; exact ⟨h1, h2, _, upd_same⟩
    · exact ⟨h1, h2, u, by rw [upd_ne e]; exact h3⟩
  · obtain ⟨h1, h2, h3⟩ := S.pool hp
    refine ⟨h1, h2, h3.mono (upd_ne fun z => ?_) (Nat.le_refl _)⟩
    obtain ⟨u, h2⟩ := h2
    rw [z, hb] at h2; cases h2
  · by_cases e : i = j
    · subst e
      have hi : i < env.length := by
        have := (List.getElem?_eq_some_iff.mp h).1
        simpa using this
      rw [List.getElem?_set_self hi] at h
      cases h
      exact hn
    · rw [List.getElem?_set_ne e] at h
      exact (S.slots j s h).mono LeR.refl (fun b u hb hh => by rw [upd_ne (ne b _ hb fun z => by cases z; exact e rfl)]; exact hh) fun _ h => h
  · exact TsOk.mono LeR.refl (fun b u j _ hb hh => by rw [upd_ne (ne b _ hb fun z => by cases z)]; exact hh) (fun _ _ _ h => h) S.temps
end Stt
end
/-! ### judgements: the canonical readings -/
section
variable {X : Cx} {e : Expr} {st : Stmt} {sts : List Stmt} {es : List Expr}
def tE (X : Cx) (e : Expr) : TE := fun σ H Q => ∀ (pins : List (Addr × Obj)) (s : Shared), Inv X pins σ H s → wpAny (model X.prog X.w) X.A (eval e X.env) (EP X pins σ Q) X.xe s
def tT (X : Cx) (e : Expr) : TT := fun σ H Q => ∀ (pins : List (Addr × Obj)) (s : Shared), Inv X pins σ H s → wpAny (model X.prog X.w) X.A (isTrue e X.env (eval e X.env)) (TP X pins σ Q) X.xe s
def tW (X : Cx) (e : Expr) : TT := fun σ H Q => ∀ (whole : Sem Value) (pins : List (Addr × Obj)) (s : Shared), Inv X pins σ H s → wpAny (model X.prog X.w) X.A (isTrue e X.env whole) (TP X pins σ Q) X.xe s
def tA (X : Cx) (es : List Expr) : TA := fun σ H Q => ∀ (pos : Pos) (pins : List (Addr × Obj)) (s : Shared), Inv X pins σ H s → wpAny (model X.prog X.w) X.A (spliced (backTo pos (starEach es X.env))) (AP X pins σ Q) X.xe s
def tS (X : Cx) (st : Stmt) : TS := fun D σ H => ∀ (pins : List (Addr × Obj)) (s : Shared), Inv X pins σ H s → wpAny (model X.prog X.w) X.A (exec st X.env) (SP X pins D) X.xe s
def tSs (X : Cx) (sts : List Stmt) : TS := fun D σ H => ∀ (pins : List (Addr × Obj)) (s : Shared), Inv X pins σ H s → wpAny (model X.prog X.w) X.A (execs sts X.env) (SP X pins D) X.xe s
def tG (X : Cx) (tg : Expr) : TG := fun v σ H Q => ∀ (pins : List (Addr × Obj)) (s : Shared) (u : Value), Inv X pins σ H s → RelV v u → wpAny (model X.prog X.w) X.A (assign tg X.env u) (fun _ s' => ∃ σ' H', Inv X pins σ' H' s' ∧ Q σ' H') X.xe s
def tGs (X : Cx) (tgs : List Expr) : TGs := fun vs σ H Q => ∀ (pins : List (Addr × Obj)) (s : Shared) (us : List Value), Inv X pins σ H s → Vals vs us → wpAny (model X.prog X.w) X.A (assignInOrder ((assignEach tgs X.env).map (·.2)) us) (fun _ s' => ∃ σ' H', Inv X pins σ' H' s' ∧ Q σ' H') X.xe s
def tPT (X : Cx) (ifs : List Expr) : TT := fun σ H Q => ∀ (pins : List (Addr × Obj)) (s : Shared), Inv X pins σ H s →
    wpAny (model X.prog X.w) X.A (forIn ifs true fun c r => if r = true then do let ok ← isTrue c X.env (eval c X.env); pure (ForInStep.yield ok) else pure (ForInStep.yield r)) (TP X pins σ Q) X.xe s
theorem pe_t : PE X e (tE X e) := ⟨fun pins s σ H Q I h => h pins s I⟩
theorem pt_t : PT X e (tT X e) := ⟨fun pins s σ H Q I h => h pins s I⟩
theorem pw_t : PW X e (tW X e) := ⟨fun wh pins s σ H Q I h => h wh pins s I⟩
theorem pa_t : PA X es (tA X es) := ⟨fun pos pins s σ H Q I h => h pos pins s I⟩
theorem ps_t : PS X st (tS X st) := ⟨fun pins s σ H D I h => h pins s I⟩
theorem pss_t : PSs X sts (tSs X sts) := ⟨fun pins s σ H D I h => h pins s I⟩
theorem pg_t : PG X e (tG X e) := ⟨fun pins s σ H v u Q I r h => h pins s u I r⟩
theorem pgs_t : PGs X es (tGs X es) := ⟨fun pins s σ H vs us Q I r h => h pins s us I r⟩
theorem pts_t : PTs X es (tPT X es) := ⟨fun pins s σ H Q I h => h pins s I⟩
theorem of_pe {t : TE} {σ : St} {H : Hp} {Q : VK} (h : PE X e t) (q : t σ H Q) : tE X e σ H Q := fun pins s I => h.run pins s σ H Q I q
theorem of_pt {t : TT} {σ : St} {H : Hp} {Q : Bool → Hp → Prop} (h : PT X e t) (q : t σ H Q) : tT X e σ H Q := fun pins s I => h.run pins s σ H Q I q
theorem of_pw {t : TT} {σ : St} {H : Hp} {Q : Bool → Hp → Prop} (h : PW X e t) (q : t σ H Q) : tW X e σ H Q := fun wh pins s I => h.run wh pins s σ H Q I q
theorem of_pa {t : TA} {σ : St} {H : Hp} {Q : List V → Hp → Prop} (h : PA X es t) (q : t σ H Q) : tA X es σ H Q := fun pos pins s I => h.run pos pins s σ H Q I q
theorem of_ps {t : TS} {σ : St} {H : Hp} {D : Ends} (h : PS X st t) (q : t D σ H) : tS X st D σ H := fun pins s I => h.run pins s σ H D I q
theorem of_pss {t : TS} {σ : St} {H : Hp} {D : Ends} (h : PSs X sts t) (q : t D σ H) : tSs X sts D σ H := fun pins s I => h.run pins s σ H D I q
theorem of_pg {t : TG} {v : V} {σ : St} {H : Hp} {Q : St → Hp → Prop} (h : PG X e t) (q : t v σ H Q) : tG X e v σ H Q := fun pins s u I r => h.run pins s σ H v u Q I r q
theorem of_pgs {t : TGs} {vs : List V} {σ : St} {H : Hp} {Q : St → Hp → Prop} (h : PGs X es t) (q : t vs σ H Q) : tGs X es vs σ H Q := fun pins s us I r => h.run pins s σ H vs us Q I r q
theorem of_pts {t : TT} {σ : St} {H : Hp} {Q : Bool → Hp → Prop} (h : PTs X es t) (q : t σ H Q) : tPT X es σ H Q := fun pins s I => h.run pins s σ H Q I q
end

/-- values on the pile -/
def stk : List V → List TD → List (V × TD) → List (V × TD)
  | v :: vs, d :: ds, ts => stk vs ds ((v, d) :: ts)
  | _, _, ts => ts
abbrev QE := D → Nat → En → Prop
abbrev QR := TD → Nat → En → Prop
abbrev QA := List TD → Nat → En → Prop
abbrev QB := Bool → Nat → En → Prop
abbrev QN := Nat → En → Prop
structure EnD where
  nx : QN
  rt : D → Nat → Prop
  bk : QN := fun _ _ => False
  ct : QN := fun _ _ => False
section
variable (X : Cx) (C : Addr)
def Ev (e : Expr) (n : Nat) (env : En) (Q : QE) : Prop := ∀ B ts σ H (R : VK), Sta X.K C B ts n env σ H →
  (∀ v H' d n' env', Q d n' env' → Sta X.K C B ((v, .dat d) :: ts) n' env' σ H' → R v H') → tE X e σ H R
def EvR (e : Expr) (n : Nat) (env : En) (Q : QR) : Prop := ∀ B ts σ H (R : VK), Sta X.K C B ts n env σ H →
  (∀ v H' td n' env', Q td n' env' → Sta X.K C B ((v, td) :: ts) n' env' σ H' → R v H') → tE X e σ H R
def EvT (e : Expr) (n : Nat) (env : En) (Q : QB) : Prop := ∀ B ts σ H (R : Bool → Hp → Prop), Sta X.K C B ts n env σ H →
  (∀ b H' n' env', Q b n' env' → Sta X.K C B ts n' env' σ H' → R b H') → tT X e σ H R
def EvW (e : Expr) (n : Nat) (env : En) (Q : QB) : Prop := ∀ B ts σ H (R : Bool → Hp → Prop), Sta X.K C B ts n env σ H →
  (∀ b H' n' env', Q b n' env' → Sta X.K C B ts n' env' σ H' → R b H') → tW X e σ H R
def EvPT (es : List Expr) (n : Nat) (env : En) (Q : QB) : Prop := ∀ B ts σ H (R : Bool → Hp → Prop), Sta X.K C B ts n env σ H →
  (∀ b H' n' env', Q b n' env' → Sta X.K C B ts n' env' σ H' → R b H') → tPT X es σ H R
def EvA (es : List Expr) (n : Nat) (env : En) (Q : QA) : Prop := ∀ B ts σ H (R : List V → Hp → Prop), Sta X.K C B ts n env σ H →
  (∀ vs H' tds n' env', Q tds n' env' → vs.length = tds.length → Sta X.K C B (stk vs tds ts) n' env' σ H' → R vs H') → tA X es σ H R
def StS (st : Stmt) (n : Nat) (env : En) (E : EnD) : Prop := ∀ B ts σ H (Z : Ends), Sta X.K C B ts n env σ H →
  (∀ n' env' σ' H', E.nx n' env' → Sta X.K C B ts n' env' σ' H' → Z.nx σ' H') →
  (∀ d n' v H', E.rt d n' → Sta X.K C B [(v, .dat d)] n' [] [] H' → Z.rt v H') →
  (∀ n' env' σ' H', E.bk n' env' → Sta X.K C B ts n' env' σ' H' → Z.bk σ' H') →
  (∀ n' env' σ' H', E.ct n' env' → Sta X.K C B ts n' env' σ' H' → Z.ct σ' H') → tS X st Z σ H
def StB (sts : List Stmt) (n : Nat) (env : En) (E : EnD) : Prop := ∀ B ts σ H (Z : Ends), Sta X.K C B ts n env σ H →
  (∀ n' env' σ' H', E.nx n' env' → Sta X.K C B ts n' env' σ' H' → Z.nx σ' H') →
  (∀ d n' v H', E.rt d n' → Sta X.K C B [(v, .dat d)] n' [] [] H' → Z.rt v H') →
  (∀ n' env' σ' H', E.bk n' env' → Sta X.K C B ts n' env' σ' H' → Z.bk σ' H') →
  (∀ n' env' σ' H', E.ct n' env' → Sta X.K C B ts n' env' σ' H' → Z.ct σ' H') → tSs X sts Z σ H
/-- a target is given something -/
def EvG (tg : Expr) (td : TD) (n : Nat) (env : En) (Q : QN) : Prop := ∀ B ts v σ H (R : St → Hp → Prop), Sta X.K C B ((v, td) :: ts) n env σ H →
  (∀ n' env' σ' H', Q n' env' → Sta X.K C B ts n' env' σ' H' → R σ' H') → tG X tg v σ H R
def EvGs (tgs : List Expr) (ds : List D) (n : Nat) (env : En) (Q : QN) : Prop := ∀ B ts vs σ H (R : St → Hp → Prop), vs.length = ds.length → Sta X.K C B (stk vs (ds.map .dat) ts) n env σ H →
  (∀ n' env' σ' H', Q n' env' → Sta X.K C B ts n' env' σ' H' → R σ' H') → tGs X tgs vs σ H R
end

/-! ### names: the place in N and what stands there -/
inductive Lk : List Str → En → Str → Nat → Sl → Prop
  | head {x : Str} {N : List Str} {s : Sl} {env : En} : Lk (x :: N) (s :: env) x 0 s
  | tail {x y : Str} {N : List Str} {s t : Sl} {env : En} {i : Nat} : Lk N env x i s → Lk (y :: N) (t :: env) x (i + 1) s
inductive Ix : List Str → Str → Nat → Prop
  | head {x : Str} {N : List Str} : Ix (x :: N) x 0
  | tail {x y : Str} {N : List Str} {i : Nat} : Ix N x i → Ix (y :: N) x (i + 1)
theorem Lk.ix : ∀ {N : List Str} {env : En} {x : Str} {i : Nat} {s : Sl}, Lk N env x i s → N[i]? = some x ∧ env[i]? = some s
  | _, _, _, _, _, .head => ⟨rfl, rfl⟩
  | _, _, _, _, _, .tail h => by
    obtain ⟨a, b⟩ := h.ix
    exact ⟨by simpa using a, by simpa using b⟩
theorem Ix.get : ∀ {N : List Str} {x : Str} {i : Nat}, Ix N x i → N[i]? = some x
  | _, _, _, .head => rfl
  | _, _, _, .tail h => by simpa using h.get
/-- what is known of the body that runs: N its names, V those that it sees, L those that it may store, G globals -/
structure XOk (X : Cx) (k : Nat) (N Vn Ln Gn : List Str) : Prop where
  hN : X.N = N
  nd : N.Nodup
  vis : ∀ x ∈ Vn, Vis X.env.scope x ∧ (x == ("__debug__" : Str)) = false ∧ (x == ("__classdict__" : Str)) = false
  loc : ∀ x ∈ Ln, Loc X.env.scope x ∧ (X.fn x = true ∨ X.env.scope.names.lookup x = some .local)
  gl : ∀ x ∈ Gn, Gl X x ∧ (x == ("__debug__" : Str)) = false ∧ x ≠ "__name__"
  calm : X.calm = true
  room : Room k X.A
  pass : PassesOwn (model X.prog X.w) X.A X.env X.xe
theorem XOk.hu {X : Cx} {k : Nat} {N Vn Ln Gn : List Str} (h : XOk X k N Vn Ln Gn) : X.A.units + 1 < cLine := by have := h.room.un; omega
theorem XOk.hu64 {X : Cx} {k : Nat} {N Vn Ln Gn : List Str} (h : XOk X k N Vn Ln Gn) : X.A.units + 64 < cLine := by have := h.room.un; omega
theorem XOk.get {X : Cx} {k : Nat} {N Vn Ln Gn : List Str} (h : XOk X k N Vn Ln Gn) {i : Nat} {x : Str} (e : N[i]? = some x) : X.N[i]? = some x := by rw [h.hN]; exact e

section
variable {X : Cx} {C : Addr} {k : Nat} {N Vn Ln Gn : List Str} {n : Nat} {env : En} {Q : QE} {QT : QB} {QR' : QR} {QA' : QA} {x : Str} {pos : Pos} {e a b c : Expr} {es : List Expr} {d : D}

/-! ### the joints -/
theorem ev_frz (h : EvR X C e n env fun td n' env' => ∃ d, td.d = some d ∧ Q d n' env') : Ev X C e n env Q := fun B ts σ H R S q => by
  refine h B ts σ H R S fun v H' td n' env' ⟨d, hd, hq⟩ S' => ?_
  obtain ⟨F, W, S'⟩ := S'
  obtain ⟨F', W', S''⟩ := S'.frzT hd
  exact q v H' d n' env' hq ⟨F', W', S''⟩
theorem evr_of (h : Ev X C e n env fun d n' env' => QR' (.dat d) n' env') : EvR X C e n env QR' := fun B ts σ H R S q =>
  h B ts σ H R S fun v H' d n' env' hq S' => q v H' _ n' env' hq S'
theorem Ev.imp {Q' : QE} (h : Ev X C e n env Q') (hq : ∀ d n' env', Q' d n' env' → Q d n' env') : Ev X C e n env Q := fun B ts σ H R S q =>
  h B ts σ H R S fun v H' d n' env' z S' => q v H' d n' env' (hq _ _ _ z) S'

/-! ### names -/
theorem ev_var {i : Nat} (hX : XOk X k N Vn Ln Gn) (hl : Lk N env x i (.dat d)) (hv : x ∈ Vn) (q : Q d n env) : Ev X C (.Name x pos) n env Q := fun B ts σ H R S r => by
  obtain ⟨h1, h2⟩ := hl.ix
  obtain ⟨v1, v2, v3⟩ := hX.vis x hv
  obtain ⟨F, W, S⟩ := S
  have s := S.slots i _ h2
  generalize hx : σ[i]? = o at s
  cases s with
  | @dat v _ rp =>
    refine of_pe (pe_var (hX.get h1) v1 v2 v3) ⟨v, hx, ?_⟩
    exact r v H d n env q ⟨F, W, S.push rp⟩
/-- a name's own list, dict is handed on: data from now on -/
theorem ev_varL {i : Nat} {ds : List D} (hX : XOk X k N Vn Ln Gn) (hl : Lk N env x i (.lst ds)) (hv : x ∈ Vn) (q : Q (.lst ds) n (env.set i (.dat (.lst ds)))) : Ev X C (.Name x pos) n env Q := fun B ts σ H R S r => by
  obtain ⟨h1, h2⟩ := hl.ix
  obtain ⟨v1, v2, v3⟩ := hX.vis x hv
  obtain ⟨F, W, S⟩ := S
  obtain ⟨F', W', v, hv, S'⟩ := S.frzL h2
  exact of_pe (pe_var (hX.get h1) v1 v2 v3) ⟨v, hv, r v H _ n _ q ⟨F', W', S'⟩⟩
theorem ev_varK {i : Nat} {ks : List (Str × D)} (hX : XOk X k N Vn Ln Gn) (hl : Lk N env x i (.dct ks)) (hv : x ∈ Vn) (q : Q (.dct ks) n (env.set i (.dat (.dct ks)))) : Ev X C (.Name x pos) n env Q := fun B ts σ H R S r => by
  obtain ⟨h1, h2⟩ := hl.ix
  obtain ⟨v1, v2, v3⟩ := hX.vis x hv
  obtain ⟨F, W, S⟩ := S
  obtain ⟨F', W', v, hv, S'⟩ := S.frzK h2
  exact of_pe (pe_var (hX.get h1) v1 v2 v3) ⟨v, hv, r v H _ n _ q ⟨F', W', S'⟩⟩
theorem evr_pool {i : Nat} (hX : XOk X k N Vn Ln Gn) (hl : Lk N env x i .pool) (hv : x ∈ Vn) (q : QR' .pool n env) : EvR X C (.Name x pos) n env QR' := fun B ts σ H R S r => by
  obtain ⟨h1, h2⟩ := hl.ix
  obtain ⟨v1, v2, v3⟩ := hX.vis x hv
  obtain ⟨F, W, S⟩ := S
  have s := S.slots i _ h2
  generalize hx : σ[i]? = o at s
  cases s with
  | pool hp => exact of_pe (pe_var (hX.get h1) v1 v2 v3) ⟨.ref B.p, hx, r _ H _ n env q ⟨F, W, S.pushP hp⟩⟩

/-! ### constants -/
theorem ev_c {v : V} {e : Expr} (h : PE X e (tC v)) (hr : ∀ F, Rep X.K C F v d) (q : Q d n env) : Ev X C e n env Q := fun B ts σ H R S r => by
  obtain ⟨F, W, S⟩ := S
  exact of_pe h (r v H d n env q ⟨F, W, S.push (hr F)⟩)
theorem ev_int {i : Int} {j} (q : Q (.int i) n env) : Ev X C (.Constant (.int i) j pos) n env Q := ev_c pe_int (fun _ => .int i) q
theorem ev_bl {i : Bool} {j} (q : Q (.bl i) n env) : Ev X C (.Constant (.bool i) j pos) n env Q := ev_c pe_bl (fun _ => .bl i) q
theorem ev_non {j} (q : Q .non n env) : Ev X C (.Constant .none j pos) n env Q := ev_c pe_non (fun _ => .non) q
theorem ev_str {i : Str} {j} (q : Q (.str i) n env) : Ev X C (.Constant (.str i) j pos) n env Q := ev_c pe_str (fun _ => .str i) q
/-- a text that the module's name x holds -/
theorem ev_globS {s : Str} {u : Value} (hX : XOk X k N Vn Ln Gn) (hg : x ∈ Gn) (hm : X.mg x = some u) (hr : RelV (.str s) u) (q : Q (.str s) n env) : Ev X C (.Name x pos) n env Q :=
  ev_c (pe_glob (hX.gl x hg).1 hm hr (hX.gl x hg).2.1) (fun _ => .str s) q

/-! ### operations on data -/
/-- an operation's end: data d, perhaps with new things -/
def Then (K : PySem.W.Frag) (C : Addr) (Qd : D → Prop) (F H : Hp) (R : VK) : Prop := ∀ v d F' H', Qd d → Ex F F' → Ex F' H' → Ex H H' → (∀ a o, F' a = some o → F a = some o ∨ H a = none) → Rep K C F' v d → R v H'
theorem Then.here {K : PySem.W.Frag} {Qd : D → Prop} {F H : Hp} {R : VK} {v : V} (t : Then K C Qd F H R) (e : Ex F H) (q : Qd d) (r : Rep K C F v d) : R v H :=
  t v d F H q (Ex.refl F) e (Ex.refl H) (fun _ _ h => .inl h) r
theorem Then.newO {K : PySem.W.Frag} {Qd : D → Prop} {F H : Hp} {R : VK} {p : Addr} {o : HO} (t : Then K C Qd F H R) (e : Ex F H) (hp : H p = none) (q : Qd d) (r : F p = none → Rep K C (upd F p o) (.ref p) d) : R (.ref p) (upd H p o) := by
  have hf : F p = none := Evl.fresh_back e hp
  refine t _ d (upd F p o) _ q (Ex.new hf) ?_ (Ex.new hp) ?_ (r hf)
  · intro a u h
    by_cases z : a = p
    · subst z; rw [upd_same] at h ⊢; exact h
    · rw [upd_ne z] at h ⊢; exact e a u h
  · intro a u h
    by_cases z : a = p
    · subst z; exact .inr hp
    · rw [upd_ne z] at h; exact .inl h
def Op2 (K : PySem.W.Frag) (C : Addr) (r : R2) (d1 d2 : D) (Qd : D → Prop) : Prop := ∀ F H v1 v2 (R : VK), Ex F H → Rep K C F v1 d1 → Rep K C F v2 d2 → Then K C Qd F H R → r v1 v2 H R
def Op1 (K : PySem.W.Frag) (C : Addr) (r : V → Hp → VK → Prop) (d1 : D) (Qd : D → Prop) : Prop := ∀ F H v1 (R : VK), Ex F H → Rep K C F v1 d1 → Then K C Qd F H R → r v1 H R
def OpN (K : PySem.W.Frag) (C : Addr) (r : List V → Hp → VK → Prop) (ds : List D) (Qd : D → Prop) : Prop := ∀ F H vs (R : VK), Ex F H → Reps K C F vs ds → Then K C Qd F H R → r vs H R
theorem then_of {B : Bs} {F : Hp} {W : Addr → Option Tg} {ts : List (V × TD)} {σ : St} {H : Hp} {R : VK} (S : Stt X.K C B F W ts n env σ H) (r : ∀ v H' d, Q d n env → Sta X.K C B ((v, .dat d) :: ts) n env σ H' → R v H') : Then X.K C (fun d => Q d n env) F H R :=
  fun v d F' H' hq e1 e2 e3 nw rp => r v H' d hq ⟨F', W, (S.grow e1 e2 e3 nw).push rp⟩
theorem ev_tOp {r : R2} {t : Expr} (hp : PE X t (tOp r (tE X a) (tE X b))) (h : Ev X C a n env fun d1 n1 env1 => Ev X C b n1 env1 fun d2 n2 env2 => Op2 X.K C r d1 d2 fun d => Q d n2 env2) : Ev X C t n env Q := fun B ts σ H R S q => by
  refine of_pe hp (h B ts σ H _ S fun v1 H1 d1 n1 env1 h1 S1 => h1 B _ σ H1 _ S1 fun v2 H2 d2 n2 env2 h2 S2 => ?_)
  obtain ⟨F, W, S2⟩ := S2
  have t2 := S2.temps
  obtain ⟨td2, td1, tr⟩ := t2
  cases td2 with
  | dat r2 =>
    cases td1 with
    | dat r1 => exact h2 F H2 v1 v2 R S2.ex2 r1 r2 (then_of S2.pop.pop fun v H' d hq Z => q v H' d n2 env2 hq Z)
theorem ev_bin {op : Operator} {r : R2} (ho : OpR X (binaryOp op) r) (h : Ev X C a n env fun d1 n1 env1 => Ev X C b n1 env1 fun d2 n2 env2 => Op2 X.K C r d1 d2 fun d => Q d n2 env2) : Ev X C (.BinOp a op b pos) n env Q :=
  ev_tOp (pe_op ho pe_t pe_t) h
theorem ev_cmp {op : CmpOp} {r : R2} (ho : OpR X (compareOp op) r) (hm : behindInMarks op b = false) (h : Ev X C a n env fun d1 n1 env1 => Ev X C b n1 env1 fun d2 n2 env2 => Op2 X.K C r d1 d2 fun d => Q d n2 env2) : Ev X C (.Compare a [op] [b] pos) n env Q :=
  ev_tOp (pe_cmpR ho pe_t pe_t hm) h
theorem ev_ix {r : R2} (hr : IxR X r) (hs : PlainIx b) (h : Ev X C a n env fun d1 n1 env1 => Ev X C b n1 env1 fun d2 n2 env2 => Op2 X.K C r d1 d2 fun d => Q d n2 env2) : Ev X C (.Subscript a b pos) n env Q :=
  ev_tOp (pe_ix hr pe_t pe_t hs) h
/-- a comparison as a test -/
theorem evt_cmp {op : CmpOp} {r : R2} (ho : OpR X (compareOp op) r) (hm : behindInMarks op b = false) (h : Ev X C a n env fun d1 n1 env1 => Ev X C b n1 env1 fun d2 n2 env2 => Op2 X.K C r d1 d2 fun d => ∃ k, d = .bl k ∧ QT k n2 env2) : EvT X C (.Compare a [op] [b] pos) n env QT := fun B ts σ H R S q => by
  refine of_pt (pt_cmpR ho pe_t pe_t hm) (h B ts σ H _ S fun v1 H1 d1 n1 env1 h1 S1 => h1 B _ σ H1 _ S1 fun v2 H2 d2 n2 env2 h2 S2 => ?_)
  obtain ⟨F, W, S2⟩ := S2
  have t2 := S2.temps
  obtain ⟨td2, td1, tr⟩ := t2
  cases td2 with
  | dat r2 =>
    cases td1 with
    | dat r1 =>
      refine h2 F H2 v1 v2 _ S2.ex2 r1 r2 fun v d F' H' ⟨kk, hd, hq⟩ e1 e2 e3 nw rp => ?_
      subst hd
      cases rp
      exact ⟨kk, rfl, q kk H' n2 env2 hq ⟨F', W, S2.pop.pop.grow e1 e2 e3 nw⟩⟩
/-- any expression that gives a bool, as a test -/
theorem evt_val (he : ∀ whole, isTrue e X.env whole = (do let v ← whole; standAt e.pos; holding [v] (truthy v))) (h : Ev X C e n env fun d n' env' => ∃ k, d = .bl k ∧ QT k n' env') : EvT X C e n env QT := fun B ts σ H R S q => by
  refine of_pt (pt_val pe_t he) (h B ts σ H _ S fun v H' d n' env' ⟨kk, hd, hq⟩ S' => ?_)
  subst hd
  obtain ⟨F, W, S'⟩ := S'
  have t2 := S'.temps
  obtain ⟨td, tr⟩ := t2
  cases td with
  | dat rp => cases rp; exact ⟨kk, rfl, q kk H' n' env' hq ⟨F, W, S'.pop⟩⟩

/-! ### and, or, not, if else -/
theorem evt_not (h : EvT X C a n env fun k n' env' => QT (!k) n' env') : EvT X C (.UnaryOp .Not a pos) n env QT := fun B ts σ H R S q =>
  of_pt (pt_not pt_t) (h B ts σ H _ S fun k H' n' env' hq S' => q (!k) H' n' env' hq S')
theorem evt_of (h : EvW X C a n env QT) : EvT X C a n env QT := fun B ts σ H R S q => of_pt pw_t.pt (h B ts σ H R S q)
theorem evw_and1 (h : EvT X C a n env QT) : EvW X C (.BoolOp .And [a] pos) n env QT := fun B ts σ H R S q => of_pw (pw_and1 pt_t) (h B ts σ H R S q)
theorem evw_or1 (h : EvT X C a n env QT) : EvW X C (.BoolOp .Or [a] pos) n env QT := fun B ts σ H R S q => of_pw (pw_or1 pt_t) (h B ts σ H R S q)
theorem evw_and (h : EvT X C a n env fun k n' env' => if k = true then EvW X C (.BoolOp .And (b :: es) pos) n' env' QT else QT false n' env') : EvW X C (.BoolOp .And (a :: b :: es) pos) n env QT := fun B ts σ H R S q => by
  refine of_pw (pw_and pt_t pw_t) (h B ts σ H _ S fun kk H' n' env' hq S' => ?_)
  cases kk with
  | true => simp only [if_true] at hq ⊢; exact hq B ts σ H' R S' q
  | false => simp only [Bool.false_eq_true, if_false] at hq ⊢; exact q false H' n' env' hq S'
theorem evw_or (h : EvT X C a n env fun k n' env' => if k = true then QT true n' env' else EvW X C (.BoolOp .Or (b :: es) pos) n' env' QT) : EvW X C (.BoolOp .Or (a :: b :: es) pos) n env QT := fun B ts σ H R S q => by
  refine of_pw (pw_or pt_t pw_t) (h B ts σ H _ S fun kk H' n' env' hq S' => ?_)
  cases kk with
  | false => simp only [Bool.false_eq_true, if_false] at hq ⊢; exact hq B ts σ H' R S' q
  | true => simp only [if_true] at hq ⊢; exact q true H' n' env' hq S'
theorem ev_one {op : BoolOp} (h : Ev X C a n env Q) : Ev X C (.BoolOp op [a] pos) n env Q := fun B ts σ H R S q => of_pe (pe_one pe_t) (h B ts σ H R S q)
theorem ev_and (h : Ev X C a n env fun d n' env' => ∃ k, d = .bl k ∧ if k = true then Ev X C (.BoolOp .And (b :: es) pos) n' env' Q else Q (.bl false) n' env') : Ev X C (.BoolOp .And (a :: b :: es) pos) n env Q := fun B ts σ H R S q => by
  refine of_pe (pe_and pe_t pe_t) (h B ts σ H _ S fun v H' d n' env' ⟨kk, hd, hq⟩ S' => ?_)
  subst hd
  obtain ⟨F, W, S'⟩ := S'
  obtain ⟨td, tr⟩ := S'.temps
  cases td with
  | dat rp =>
    cases rp
    refine ⟨kk, rfl, ?_⟩
    cases kk with
    | true => simp only [if_true] at hq ⊢; exact hq B ts σ H' R ⟨F, W, S'.pop⟩ q
    | false => simp only [Bool.false_eq_true, if_false] at hq ⊢; exact q _ H' _ n' env' hq ⟨F, W, S'⟩
theorem ev_or (h : Ev X C a n env fun d n' env' => ∃ k, d = .bl k ∧ if k = true then Q (.bl true) n' env' else Ev X C (.BoolOp .Or (b :: es) pos) n' env' Q) : Ev X C (.BoolOp .Or (a :: b :: es) pos) n env Q := fun B ts σ H R S q => by
  refine of_pe (pe_or pe_t pe_t) (h B ts σ H _ S fun v H' d n' env' ⟨kk, hd, hq⟩ S' => ?_)
  subst hd
  obtain ⟨F, W, S'⟩ := S'
  obtain ⟨td, tr⟩ := S'.temps
  cases td with
  | dat rp =>
    cases rp
    refine ⟨kk, rfl, ?_⟩
    cases kk with
    | false => simp only [Bool.false_eq_true, if_false] at hq ⊢; exact hq B ts σ H' R ⟨F, W, S'.pop⟩ q
    | true => simp only [if_true] at hq ⊢; exact q _ H' _ n' env' hq ⟨F, W, S'⟩
theorem ev_not (h : Ev X C a n env fun d n' env' => ∃ k, d = .bl k ∧ Q (.bl (!k)) n' env') : Ev X C (.UnaryOp .Not a pos) n env Q := fun B ts σ H R S q => by
  refine of_pe (pe_not pe_t) (h B ts σ H _ S fun v H' d n' env' ⟨kk, hd, hq⟩ S' => ?_)
  subst hd
  obtain ⟨F, W, S'⟩ := S'
  obtain ⟨td, tr⟩ := S'.temps
  cases td with
  | dat rp => cases rp; exact ⟨kk, rfl, q _ H' _ n' env' hq ⟨F, W, S'.pop.push (.bl _)⟩⟩
theorem ev_if (h : EvT X C c n env fun k n' env' => if k = true then Ev X C a n' env' Q else Ev X C b n' env' Q) : Ev X C (.IfExp c a b pos) n env Q := fun B ts σ H R S q => by
  refine of_pe (pe_ifExp pt_t pe_t pe_t) (h B ts σ H _ S fun kk H' n' env' hq S' => ?_)
  cases kk with
  | true => simp only [if_true] at hq ⊢; exact hq B ts σ H' R S' q
  | false => simp only [Bool.false_eq_true, if_false] at hq ⊢; exact hq B ts σ H' R S' q

/-! ### arguments, displays -/
theorem ea_nil (q : QA' [] n env) : EvA X C [] n env QA' := fun B ts σ H R S r => of_pa pa_nil (r [] H [] n env q rfl S)
theorem ea_consR (h : EvR X C e n env fun td n1 env1 => EvA X C es n1 env1 fun tds n2 env2 => QA' (td :: tds) n2 env2) (hs : starEach (e :: es) X.env = (false, eval e X.env) :: starEach es X.env := by rfl) : EvA X C (e :: es) n env QA' := fun B ts σ H R S r => by
  refine of_pa (pa_cons pe_t pa_t hs) (h B ts σ H _ S fun v H1 td n1 env1 h1 S1 => h1 B _ σ H1 _ S1 fun vs H2 tds n2 env2 hq hl S2 => ?_)
  exact r (v :: vs) H2 (td :: tds) n2 env2 hq (by simp [hl]) S2
theorem ea_cons (h : Ev X C e n env fun d n1 env1 => EvA X C es n1 env1 fun tds n2 env2 => QA' (.dat d :: tds) n2 env2) (hs : starEach (e :: es) X.env = (false, eval e X.env) :: starEach es X.env := by rfl) : EvA X C (e :: es) n env QA' :=
  ea_consR (evr_of h) hs
theorem stk_dats {K : PySem.W.Frag} {F H : Hp} {W : Addr → Option Tg} {p : Bs} : ∀ {vs : List V} {ds : List D} {ts : List (V × TD)}, vs.length = ds.length → TsOk K C F H W p (stk vs (ds.map .dat) ts) → Reps K C F vs ds ∧ TsOk K C F H W p ts
  | [], [], _, _, h => ⟨.nil, h⟩
  | v :: vs, d :: ds, ts, hl, h => by
    obtain ⟨r, t⟩ := stk_dats (vs := vs) (ds := ds) (by simpa using hl) h
    obtain ⟨td, tr⟩ := t
    cases td with
    | dat rp => exact ⟨.cons rp r, tr⟩
theorem Stt.unstk {B : Bs} {F : Hp} {W : Addr → Option Tg} {ts : List (V × TD)} {σ : St} {H : Hp} {vs : List V} {ds : List D} (hl : vs.length = ds.length) (S : Stt X.K C B F W (stk vs (ds.map .dat) ts) n env σ H) : Reps X.K C F vs ds ∧ Stt X.K C B F W ts n env σ H := by
  obtain ⟨r, t⟩ := stk_dats hl S.temps
  exact ⟨r, S.ex1, S.ex2, S.base, S.new, S.own, S.pool, S.len, S.slots, t⟩
theorem small_line {n : Nat} (h : n ≤ 100000) : n ≤ sizeLine := Nat.le_trans h (by decide)
theorem ev_tup {x1} (h : EvA X C es n env fun tds n' env' => ∃ ds, tds = ds.map .dat ∧ ds.length ≤ 100000 ∧ Q (.tup ds) n' env') : Ev X C (.Tuple es x1 pos) n env Q := fun B ts σ H R S q => by
  refine of_pe (pe_tup pa_t) (h B ts σ H _ S fun vs H' tds n' env' ⟨ds, hd, hz, hq⟩ hl S' => ?_)
  subst hd
  obtain ⟨F, W, S'⟩ := S'
  have hl' : vs.length = ds.length := by simpa using hl
  obtain ⟨r, S'⟩ := S'.unstk hl'
  refine ⟨by rw [hl']; exact small_line hz, fun p hp => ?_⟩
  exact (then_of (Q := fun d _ _ => d = .tup ds) S' fun v H' d hd Z => q v H' d n' env' (by rw [hd]; exact hq) Z).newO S'.ex2 hp rfl fun hf => .tup upd_same (Reps.mono (LeR.of (Ex.new hf)) r)
/-- a written list: new -/
theorem evr_lst (h : EvA X C es n env fun tds n' env' => ∃ ds, tds = ds.map .dat ∧ ds.length ≤ 100000 ∧ QR' (.fl ds) n' env') : EvR X C (.List es pos) n env QR' := fun B ts σ H R S q => by
  refine of_pe (pe_lst pa_t) (h B ts σ H _ S fun vs H' tds n' env' ⟨ds, hd, hz, hq⟩ hl S' => ?_)
  subst hd
  obtain ⟨F, W, S'⟩ := S'
  have hl' : vs.length = ds.length := by simpa using hl
  obtain ⟨r, S'⟩ := S'.unstk hl'
  refine ⟨by rw [hl']; exact small_line hz, fun p hp => ?_⟩
  obtain ⟨W', Z⟩ := S'.newF hp r
  exact q _ _ _ n' env' hq ⟨F, W', Z⟩
theorem evr_dict0 (q : QR' (.fd []) n env) : EvR X C (.Dict [] [] pos) n env QR' := fun B ts σ H R S r => by
  obtain ⟨F, W, S⟩ := S
  refine of_pe pe_dnewK fun p hp => ?_
  obtain ⟨W', Z⟩ := S.newFd hp .nil
  exact r _ _ _ n env q ⟨F, W', Z⟩

/-! ### built-ins -/
theorem evb {r : List V → Hp → VK → Prop} {t : Expr} (hp : PE X t fun σ H Q => tA X es σ H fun vs H1 => r vs H1 Q) (h : EvA X C es n env fun tds n' env' => ∃ ds, tds = ds.map .dat ∧ OpN X.K C r ds fun d => Q d n' env') : Ev X C t n env Q := fun B ts σ H R S q => by
  refine of_pe hp (h B ts σ H _ S fun vs H' tds n' env' ⟨ds, hd, hq⟩ hl S' => ?_)
  subst hd
  obtain ⟨F, W, S'⟩ := S'
  obtain ⟨r, S'⟩ := S'.unstk (by simpa using hl)
  exact hq F H' vs R S'.ex2 r (then_of S' fun v H' d hq Z => q v H' d n' env' hq Z)
end
/-! ### operations, by what they do to data -/
section
variable {X : Cx} {K : PySem.W.Frag} {C : Addr} {Qd : D → Prop}
theorem o2_pure {r : R2} {d1 d2 d : D} (q : Qd d) (h : ∀ F H v1 v2 (R : VK), Ex F H → Rep K C F v1 d1 → Rep K C F v2 d2 → (∀ v, Rep K C F v d → R v H) → r v1 v2 H R) : Op2 K C r d1 d2 Qd :=
  fun F H v1 v2 R e r1 r2 t => h F H v1 v2 R e r1 r2 fun _ rp => t.here e q rp
theorem Op2.l {r r' : R2} {d1 d2 : D} (h : Op2 K C r d1 d2 Qd) : Op2 K C (fun x y H Q => r x y H Q ∨ r' x y H Q) d1 d2 Qd := fun F H v1 v2 R e r1 r2 t => .inl (h F H v1 v2 R e r1 r2 t)
theorem Op2.r {r r' : R2} {d1 d2 : D} (h : Op2 K C r' d1 d2 Qd) : Op2 K C (fun x y H Q => r x y H Q ∨ r' x y H Q) d1 d2 Qd := fun F H v1 v2 R e r1 r2 t => .inr (h F H v1 v2 R e r1 r2 t)
theorem o2_I0i {g : Int → Int → Int} {i j : Int} (q : Qd (.int (g i j))) : Op2 K C (rI0 fun i j => .int (g i j)) (.int i) (.int j) Qd := o2_pure q fun F H v1 v2 R e r1 r2 t => by
  cases r1; cases r2; exact ⟨i, j, rfl, rfl, t _ (.int _)⟩
theorem o2_I0b {g : Int → Int → Bool} {i j : Int} (q : Qd (.bl (g i j))) : Op2 K C (rI0 fun i j => .bl (g i j)) (.int i) (.int j) Qd := o2_pure q fun F H v1 v2 R e r1 r2 t => by
  cases r1; cases r2; exact ⟨i, j, rfl, rfl, t _ (.bl _)⟩
theorem o2_I {c : Int → Int → Prop} {g : Int → Int → Int} {i j : Int} (hc : c i j) (q : Qd (.int (g i j))) : Op2 K C (rI c fun i j => .int (g i j)) (.int i) (.int j) Qd := o2_pure q fun F H v1 v2 R e r1 r2 t => by
  cases r1; cases r2; exact ⟨i, j, rfl, rfl, hc, t _ (.int _)⟩
/-! + -/
def rAddA (K : PySem.W.Frag) : R2 := fun x y H Q => (rI0 fun i j => .int (i + j)) x y H Q ∨ (rCat x y H Q ∨ rCatA K x y H Q)
theorem op_addA : OpR X (binaryOp .Add) (rAddA X.K) := op_add.or (op_cat.or op_catA)
theorem o_addI {i j : Int} (q : Qd (.int (i + j))) : Op2 K C (rAddA K) (.int i) (.int j) Qd := (o2_I0i (g := fun i j => i + j) q).l
theorem o_addL {xs ys : List D} (hz : xs.length + ys.length ≤ 100000) (q : Qd (.lst (xs ++ ys))) : Op2 K C (rAddA K) (.lst xs) (.lst ys) Qd := Op2.r (Op2.l fun F H v1 v2 R e r1 r2 t => by
  cases r1 with
  | @lst a vs _ h1 h2 =>
    cases r2 with
    | @lst b ws _ g1 g2 =>
      refine ⟨a, b, vs, ws, rfl, rfl, e a _ h1, e b _ g1, by rw [h2.length, g2.length]; exact small_line hz, fun p hp => ?_⟩
      exact t.newO e hp q fun hf => .lst upd_same (Reps.mono (LeR.of (Ex.new hf)) (h2.append g2)))
theorem o_addT {xs ys : List D} (hz : xs.length + ys.length ≤ 100000) (q : Qd (.tup (xs ++ ys))) : Op2 K C (rAddA K) (.tup xs) (.tup ys) Qd := Op2.r (Op2.r fun F H v1 v2 R e r1 r2 t => by
  cases r1 with
  | @tup a vs _ h1 h2 =>
    cases r2 with
    | @tup b ws _ g1 g2 =>
      refine ⟨a, b, vs, ws, rfl, rfl, SqT.of (e a _ h1), SqT.of (e b _ g1), by rw [h2.length, g2.length]; exact small_line hz, fun z => ?_, fun _ z => ?_, fun _ _ p hp => ?_⟩
      · subst z
        cases h2
        exact t.here e q (.tup g1 g2)
      · subst z
        cases g2
        rw [List.append_nil] at q
        exact t.here e q (.tup h1 h2)
      · exact t.newO e hp q fun hf => .tup upd_same (Reps.mono (LeR.of (Ex.new hf)) (h2.append g2)))
/-! *, -, //, %, ** -/
def rMulA : R2 := fun x y H Q => (rI CMul fun i j => .int (i * j)) x y H Q ∨ rRep x y H Q
theorem op_mulA : OpR X (binaryOp .Mult) rMulA := op_mul.or op_rep
theorem o_mulI {i j : Int} (h : CMul i j) (q : Qd (.int (i * j))) : Op2 K C rMulA (.int i) (.int j) Qd := (o2_I (c := CMul) (g := fun i j => i * j) h q).l
theorem o_repL {xs : List D} {n : Nat} (hn : n ≤ 100000) (hz : xs.length * n ≤ 100000) (q : Qd (.lst (List.replicate n xs).flatten)) : Op2 K C rMulA (.lst xs) (.int (n : Int)) Qd := Op2.r fun F H v1 v2 R e r1 r2 t => by
  cases r2
  cases r1 with
  | @lst a vs _ h1 h2 =>
    refine ⟨a, (n : Int), vs, rfl, rfl, e a _ h1, by omega, by omega, ?_, fun p hp => ?_⟩
    · rw [Int.toNat_natCast, h2.length]; exact small_line hz
    · rw [Int.toNat_natCast]
      exact t.newO e hp q fun hf => .lst upd_same (Reps.mono (LeR.of (Ex.new hf)) (h2.rep n))
theorem o_sub {i j : Int} (q : Qd (.int (i - j))) : Op2 K C (rI0 fun i j => .int (i - j)) (.int i) (.int j) Qd := o2_I0i (g := fun i j => i - j) q
theorem o_mod {i j : Int} (h : 0 < j) (q : Qd (.int (i % j))) : Op2 K C (rI (fun _ j => 0 < j) fun i j => .int (i % j)) (.int i) (.int j) Qd := o2_I (c := fun _ j => 0 < j) (g := fun i j => i % j) h q
theorem o_fdiv {i j : Int} (h : CDiv i j) (q : Qd (.int (i / j))) : Op2 K C (rI CDiv fun i j => .int (i / j)) (.int i) (.int j) Qd := o2_I (c := CDiv) (g := fun i j => i / j) h q
theorem o_pow {i j : Int} (h : CPow i j) (q : Qd (.int (i ^ j.toNat))) : Op2 K C (rI CPow fun i j => .int (i ^ j.toNat)) (.int i) (.int j) Qd := o2_I (c := CPow) (g := fun i j => i ^ j.toNat) h q
/-! comparisons of ints -/
theorem o_lt {i j : Int} (q : Qd (.bl (decide (i < j)))) : Op2 K C (rI0 fun i j => .bl (decide (i < j))) (.int i) (.int j) Qd := o2_I0b (g := fun i j => decide (i < j)) q
theorem o_le {i j : Int} (q : Qd (.bl (decide (i ≤ j)))) : Op2 K C (rI0 fun i j => .bl (decide (i ≤ j))) (.int i) (.int j) Qd := o2_I0b (g := fun i j => decide (i ≤ j)) q
theorem o_gt {i j : Int} (q : Qd (.bl (decide (j < i)))) : Op2 K C (rI0 fun i j => .bl (decide (j < i))) (.int i) (.int j) Qd := o2_I0b (g := fun i j => decide (j < i)) q
theorem o_ge {i j : Int} (q : Qd (.bl (decide (j ≤ i)))) : Op2 K C (rI0 fun i j => .bl (decide (j ≤ i))) (.int i) (.int j) Qd := o2_I0b (g := fun i j => decide (j ≤ i)) q
/-! == and != -/
def toP : Nat → D → PyData
  | _, .non => .none
  | _, .bl b => .bool b
  | _, .int i => .int i
  | _, .str s => .str s
  | k + 1, .lst l => .list (l.map (toP k))
  | k + 1, .tup l => .tuple (l.map (toP k))
  | _, _ => .none
def okD : Nat → D → Bool
  | _, .non => true
  | _, .bl _ => true
  | _, .int _ => true
  | _, .str s => PyData.canLay0 (.str s)
  | k + 1, .lst l => l.all (okD k)
  | k + 1, .tup l => l.all (okD k)
  | _, _ => false
theorem okD_dp {F H : Hp} (e : Ex F H) : ∀ (k : Nat) {d : D} {v : V}, okD k d = true → Rep K C F v d → Dp K H v (toP k d) := by
  intro k
  induction k with
  | zero =>
    intro d v h r
    cases r with
    | non => exact .non
    | bl b => exact .bl b
    | int i => exact .int i
    | str s => exact .str s
    | _ => exact absurd (show false = true from h) Bool.false_ne_true
  | succ k ih =>
    intro d v h r
    have all : ∀ {vs : List V} {ds : List D}, ds.all (okD k) = true → Reps K C F vs ds → DpAll K H vs (ds.map (toP k)) := by
      intro vs ds
      induction ds generalizing vs with
      | nil => intro _ r; cases r; exact .nil
      | cons d ds ihl =>
        intro h r
        cases r with
        | cons r1 r2 =>
          rw [List.all_cons, Bool.and_eq_true] at h
          exact .cons (ih h.1 r1) (ihl h.2 r2)
    cases r with
    | non => exact .non
    | bl b => exact .bl b
    | int i => exact .int i
    | str s => exact .str s
    | lst h1 h2 => exact .lst (SqL.of (e _ _ h1)) (all h h2)
    | tup h1 h2 => exact .tup (SqT.of (e _ _ h1)) (all h h2)
    | _ => exact absurd (show false = true from h) Bool.false_ne_true
theorem okD_lay : ∀ (k : Nat) {d : D}, okD k d = true → (toP k d).canLay0 = true ∧ (toP k d).depth ≤ k := by
  intro k
  induction k with
  | zero =>
    intro d h
    cases d with
    | non => exact ⟨rfl, Nat.le_refl _⟩
    | bl b => exact ⟨rfl, Nat.le_refl _⟩
    | int i => exact ⟨rfl, Nat.le_refl _⟩
    | str s => exact ⟨h, Nat.le_refl _⟩
    | _ => exact absurd (show false = true from h) Bool.false_ne_true
  | succ k ih =>
    intro d h
    have all : ∀ {ds : List D}, ds.all (okD k) = true → PyData.canLayAll0 (ds.map (toP k)) = true ∧ PyData.depthAll (ds.map (toP k)) ≤ k := by
      intro ds
      induction ds with
      | nil => intro _; exact ⟨rfl, Nat.zero_le _⟩
      | cons d ds ihl =>
        intro h
        rw [List.all_cons, Bool.and_eq_true] at h
        obtain ⟨a1, a2⟩ := ih h.1
        obtain ⟨b1, b2⟩ := ihl h.2
        refine ⟨?_, ?_⟩
        · show (PyData.canLay0 (toP k d) && PyData.canLayAll0 (ds.map (toP k))) = true
          rw [a1, b1]; rfl
        · show max (PyData.depth (toP k d)) (PyData.depthAll (ds.map (toP k))) ≤ k
          omega
    cases d with
    | non => exact ⟨rfl, Nat.zero_le _⟩
    | bl b => exact ⟨rfl, Nat.zero_le _⟩
    | int i => exact ⟨rfl, Nat.zero_le _⟩
    | str s => exact ⟨h, Nat.zero_le _⟩
    | lst l => exact ⟨(all h).1, Nat.succ_le_succ (all h).2⟩
    | tup l => exact ⟨(all h).1, Nat.succ_le_succ (all h).2⟩
    | _ => exact absurd (show false = true from h) Bool.false_ne_true
theorem okD_shaped {k : Nat} (hk : k ≤ 64) {d : D} (h : okD k d = true) : SeqAt.shaped (toP k d) = true := by
  obtain ⟨a, b⟩ := okD_lay k h
  unfold SeqAt.shaped
  rw [a, decide_eq_true (Nat.le_trans b hk)]
  rfl
def rEqE : R2 := fun x y H Q => ∃ a b, x = .ref a ∧ y = .ref b ∧ Rd H a (.dK []) ∧ Rd H b (.dK []) ∧ Q (.bl true) H
theorem op_eqE (hu : X.A.units < cLine) : OpR X (compareOp .Eq) rEqE := by
  intro pins s σ H x y v u Q I rx ry h
  obtain ⟨a, b, rfl, rfl, ea, eb, q⟩ := h
  obtain rfl : v = Value.ref a := rx
  obtain rfl : u = Value.ref b := ry
  obtain ⟨_, ya, va, ra, da⟩ := dk_rd I.hok ea
  obtain ⟨_, yb, vb, rb, db⟩ := dk_rd I.hok eb
  have hl : va.length = vb.length := by rw [← ra.length, ← rb.length]
  exact PySem.W.keq_eq (knd := mixKind X.prog X.w) (r := true) ya yb da db hu (fun _ => hits_all rb ra fun p hp => nomatch hp) (fin_bl I q (by simp [hl]))
def rEqA (K : PySem.W.Frag) : R2 := fun x y H Q => rEq x y H Q ∨ (rEqD K x y H Q ∨ rEqE x y H Q)
def rNeA (K : PySem.W.Frag) : R2 := fun x y H Q => rNe x y H Q ∨ rNeD K x y H Q
theorem op_eqA (hu : X.A.units + 64 < cLine) : OpR X (compareOp .Eq) (rEqA X.K) := op_eq.or ((op_eqD hu).or (op_eqE (by omega)))
theorem op_neA (hu : X.A.units + 64 < cLine) : OpR X (compareOp .NotEq) (rNeA X.K) := op_ne.or (op_neD hu)
theorem o_eqI {i j : Int} (q : Qd (.bl (decide (i = j)))) : Op2 K C (rEqA K) (.int i) (.int j) Qd := (o2_pure q fun F H v1 v2 R e r1 r2 t => by
  cases r1; cases r2
  exact ⟨rfl, (show decide (V.int i = V.int j) = decide (i = j) by simp) ▸ t _ (.bl _)⟩).l
theorem o_neI {i j : Int} (q : Qd (.bl (!decide (i = j)))) : Op2 K C (rNeA K) (.int i) (.int j) Qd := (o2_pure q fun F H v1 v2 R e r1 r2 t => by
  cases r1; cases r2
  exact ⟨rfl, (show decide (V.int i = V.int j) = decide (i = j) by simp) ▸ t _ (.bl _)⟩).l
theorem o_eqS {i j : Str} (q : Qd (.bl (decide (i = j)))) : Op2 K C (rEqA K) (.str i) (.str j) Qd := (o2_pure q fun F H v1 v2 R e r1 r2 t => by
  cases r1; cases r2
  exact ⟨rfl, (show decide (V.str i = V.str j) = decide (i = j) by simp) ▸ t _ (.bl _)⟩).l
theorem o_neS {i j : Str} (q : Qd (.bl (!decide (i = j)))) : Op2 K C (rNeA K) (.str i) (.str j) Qd := (o2_pure q fun F H v1 v2 R e r1 r2 t => by
  cases r1; cases r2
  exact ⟨rfl, (show decide (V.str i = V.str j) = decide (i = j) by simp) ▸ t _ (.bl _)⟩).l
theorem o_eqB {i j : Bool} (q : Qd (.bl (decide (i = j)))) : Op2 K C (rEqA K) (.bl i) (.bl j) Qd := (o2_pure q fun F H v1 v2 R e r1 r2 t => by
  cases r1; cases r2
  exact ⟨rfl, (show decide (V.bl i = V.bl j) = decide (i = j) by simp) ▸ t _ (.bl _)⟩).l
theorem o_neB {i j : Bool} (q : Qd (.bl (!decide (i = j)))) : Op2 K C (rNeA K) (.bl i) (.bl j) Qd := (o2_pure q fun F H v1 v2 R e r1 r2 t => by
  cases r1; cases r2
  exact ⟨rfl, (show decide (V.bl i = V.bl j) = decide (i = j) by simp) ▸ t _ (.bl _)⟩).l
theorem o_eqN (q : Qd (.bl true)) : Op2 K C (rEqA K) .non .non Qd := (o2_pure q fun F H v1 v2 R e r1 r2 t => by
  cases r1; cases r2
  exact ⟨rfl, (show decide (V.non = V.non) = true by simp) ▸ t _ (.bl _)⟩).l
theorem o_eqE (q : Qd (.bl true)) : Op2 K C (rEqA K) (.dct []) (.dct []) Qd := Op2.r (Op2.r (o2_pure q fun F H v1 v2 R e r1 r2 t => by
  cases r1 with
  | dct h1 g1 =>
    cases r2 with
    | dct h2 g2 =>
      cases g1; cases g2
      exact ⟨_, _, rfl, rfl, Evl.ex_rd e h1, Evl.ex_rd e h2, t _ (.bl _)⟩))
theorem o_eqD (k : Nat) {d e : D} (hk : k ≤ 64) (h1 : okD k d = true) (h2 : okD k e = true) (q : Qd (.bl (PyData.eqv (toP k d) (toP k e)))) : Op2 K C (rEqA K) d e Qd := Op2.r (Op2.l (o2_pure q fun F H v1 v2 R ex r1 r2 t =>
  ⟨_, _, okD_dp ex k h1 r1, okD_dp ex k h2 r2, okD_shaped hk h1, okD_shaped hk h2, t _ (.bl _)⟩))
theorem o_neD (k : Nat) {d e : D} (hk : k ≤ 64) (h1 : okD k d = true) (h2 : okD k e = true) (q : Qd (.bl (!PyData.eqv (toP k d) (toP k e)))) : Op2 K C (rNeA K) d e Qd := Op2.r (o2_pure q fun F H v1 v2 R ex r1 r2 t =>
  ⟨_, _, okD_dp ex k h1 r1, okD_dp ex k h2 r2, okD_shaped hk h1, okD_shaped hk h2, t _ (.bl _)⟩)
theorem eqvAll_nil (l : List PyData) : PyData.eqvAll l [] = l.isEmpty := by cases l <;> rfl
/-- a list beside [] -/
theorem o_neNil {ds : List D} (h : ds.all (okD 2) = true) (q : Qd (.bl (!ds.isEmpty))) : Op2 K C (rNeA K) (.lst ds) (.lst []) Qd :=
  o_neD 3 (by decide) h rfl (by show Qd (.bl (!PyData.eqvAll (ds.map (toP 2)) [])); rw [eqvAll_nil, List.isEmpty_map]; exact q)
theorem o_eqNil {ds : List D} (h : ds.all (okD 2) = true) (q : Qd (.bl ds.isEmpty)) : Op2 K C (rEqA K) (.lst ds) (.lst []) Qd :=
  o_eqD 3 (by decide) h rfl (by show Qd (.bl (PyData.eqvAll (ds.map (toP 2)) [])); rw [eqvAll_nil, List.isEmpty_map]; exact q)
/-! is None -/
def isN : D → Bool
  | .non => true
  | _ => false
theorem rep_isN {F : Hp} {v : V} {d : D} (r : Rep K C F v d) : decide (v = .non) = isN d := by
  cases r <;> first | rfl | simp [isN]
theorem o_isN {d : D} (q : Qd (.bl (isN d))) : Op2 K C (fun x y H Q => y = .non ∧ Q (.bl (decide (x = .non))) H) d .non Qd := o2_pure q fun F H v1 v2 R e r1 r2 t => by
  cases r2
  exact ⟨rfl, rep_isN r1 ▸ t _ (.bl _)⟩
theorem o_notN {d : D} (q : Qd (.bl (!isN d))) : Op2 K C (fun x y H Q => y = .non ∧ Q (.bl (!decide (x = .non))) H) d .non Qd := o2_pure q fun F H v1 v2 R e r1 r2 t => by
  cases r2
  exact ⟨rfl, rep_isN r1 ▸ t _ (.bl _)⟩
/-! in -/
def flatD : D → Bool
  | .non => true
  | .bl _ => true
  | .int _ => true
  | .str _ => true
  | _ => false
def flV : D → V
  | .non => .non
  | .bl b => .bl b
  | .int i => .int i
  | .str s => .str s
  | _ => .non
theorem rep_flat {F : Hp} {v : V} {d : D} (h : flatD d = true) (r : Rep K C F v d) : v = flV d ∧ flatV v = true := by
  cases r <;> first | exact ⟨rfl, rfl⟩ | exact absurd (show false = true from h) Bool.false_ne_true
theorem reps_flat {F : Hp} : ∀ {vs : List V} {ds : List D}, ds.all flatD = true → Reps K C F vs ds → vs = ds.map flV ∧ vs.all flatV = true
  | _, _, _, .nil => ⟨rfl, rfl⟩
  | _, _, h, .cons r1 r2 => by
    rw [List.all_cons, Bool.and_eq_true] at h
    obtain ⟨a, b⟩ := rep_flat h.1 r1
    obtain ⟨c, d⟩ := reps_flat h.2 r2
    exact ⟨by rw [a, c]; rfl, by rw [List.all_cons, b, d]; rfl⟩
/-- in a list of flat things -/
def inD (d : D) (ds : List D) : Bool := inV (flV d) (ds.map flV)
theorem inV_strs {s : Str} {ss : List Str} : inV (.str s) (ss.map .str) = decide (s ∈ ss) := by
  induction ss with
  | nil => rfl
  | cons a r ih =>
    show (eqV (.str a) (.str s) || inV (.str s) (r.map .str)) = _
    rw [ih]
    show ((a == s) || decide (s ∈ r)) = _
    by_cases h : a = s
    · subst h; simp
    · have h2 : ¬ s = a := fun e => h e.symm
      simp [h, h2]
theorem flV_strs {ss : List Str} : (ss.map D.str).map flV = ss.map V.str := by rw [List.map_map]; rfl
theorem flat_strs {ss : List Str} : (ss.map D.str).all flatD = true := by
  induction ss with
  | nil => rfl
  | cons a r ih => rw [List.map_cons, List.all_cons, ih]; rfl
theorem inV_ints {s : Int} {ss : List Int} : inV (.int s) (ss.map .int) = decide (s ∈ ss) := by
  induction ss with
  | nil => rfl
  | cons a r ih =>
    show (eqV (.int a) (.int s) || inV (.int s) (r.map .int)) = _
    rw [ih]
    show ((a == s) || decide (s ∈ r)) = _
    by_cases h : a = s
    · subst h; simp
    · have h2 : ¬ s = a := fun e => h e.symm
      simp [h, h2]
theorem flV_ints {ss : List Int} : (ss.map D.int).map flV = ss.map V.int := by rw [List.map_map]; rfl
theorem flat_ints {ss : List Int} : (ss.map D.int).all flatD = true := by
  induction ss with
  | nil => rfl
  | cons a r ih => rw [List.map_cons, List.all_cons, ih]; rfl
def rDIn : R2 := fun y x H Q => ∃ a o, x = .ref a ∧ DGet H a y o ∧ Q (.bl o.isSome) H
def rDNotIn : R2 := fun y x H Q => ∃ a o, x = .ref a ∧ DGet H a y o ∧ Q (.bl (!o.isSome)) H
theorem op_din (hu : X.A.units + 1 < cLine) : OpR X (compareOp .In) rDIn := by
  intro pins s σ H y x u v Q I ry rx h
  obtain ⟨a, o, rfl, g, q⟩ := h
  cases rx
  exact d_in hu I g ry fun s3 I3 => ⟨.bl o.isSome, H, I3, rfl, q⟩
theorem op_dnotin (hu : X.A.units + 1 < cLine) : OpR X (compareOp .NotIn) rDNotIn := by
  intro pins s σ H y x u v Q I ry rx h
  obtain ⟨a, o, rfl, g, q⟩ := h
  cases rx
  exact d_notIn hu I g ry fun s3 I3 => ⟨.bl (!o.isSome), H, I3, rfl, q⟩
def rInSg : R2 := fun x y H Q => ∃ (c : Nat) (z : Str), x = .str ⟨#[c]⟩ ∧ y = .str z ∧ Q (.bl (decide (c ∈ z.cps.toList))) H
def rInA (K : PySem.W.Frag) : R2 := fun x y H Q => rIn K false x y H Q ∨ (rDIn x y H Q ∨ rInSg x y H Q)
def rNotInA (K : PySem.W.Frag) : R2 := fun x y H Q => rIn K true x y H Q ∨ rDNotIn x y H Q
theorem op_inA (hu : X.A.units + 1 < cLine) : OpR X (compareOp .In) (rInA X.K) := op_in_seq.or ((op_din hu).or op_in_sign)
theorem op_notinA (hu : X.A.units + 1 < cLine) : OpR X (compareOp .NotIn) (rNotInA X.K) := op_notIn_seq.or (op_dnotin hu)
theorem rep_seq {F H : Hp} {v : V} {ds : List D} (e : Ex F H) (r : Rep K C F v (.lst ds) ∨ Rep K C F v (.tup ds)) : ∃ p vs, v = .ref p ∧ (SqL K H p vs ∨ SqT K H p vs) ∧ Reps K C F vs ds := by
  rcases r with r | r
  · cases r with
    | lst h1 h2 => exact ⟨_, _, rfl, .inl (SqL.of (e _ _ h1)), h2⟩
  · cases r with
    | tup h1 h2 => exact ⟨_, _, rfl, .inr (SqT.of (e _ _ h1)), h2⟩
theorem o_inL {d : D} {ds : List D} (h1 : flatD d = true) (h2 : ds.all flatD = true) (q : Qd (.bl (inD d ds))) : Op2 K C (rInA K) d (.lst ds) Qd := (o2_pure q fun F H v1 v2 R e r1 r2 t => by
  obtain ⟨p, vs, rfl, hs, hr⟩ := rep_seq e (.inl r2)
  obtain ⟨e1, f1⟩ := rep_flat h1 r1
  obtain ⟨e2, f2⟩ := reps_flat h2 hr
  exact ⟨p, vs, rfl, hs, f1, f2, by subst e1 e2; exact t _ (.bl _)⟩).l
theorem o_inT {d : D} {ds : List D} (h1 : flatD d = true) (h2 : ds.all flatD = true) (q : Qd (.bl (inD d ds))) : Op2 K C (rInA K) d (.tup ds) Qd := (o2_pure q fun F H v1 v2 R e r1 r2 t => by
  obtain ⟨p, vs, rfl, hs, hr⟩ := rep_seq e (.inr r2)
  obtain ⟨e1, f1⟩ := rep_flat h1 r1
  obtain ⟨e2, f2⟩ := reps_flat h2 hr
  exact ⟨p, vs, rfl, hs, f1, f2, by subst e1 e2; exact t _ (.bl _)⟩).l
theorem o_notinL {d : D} {ds : List D} (h1 : flatD d = true) (h2 : ds.all flatD = true) (q : Qd (.bl (!inD d ds))) : Op2 K C (rNotInA K) d (.lst ds) Qd := (o2_pure q fun F H v1 v2 R e r1 r2 t => by
  obtain ⟨p, vs, rfl, hs, hr⟩ := rep_seq e (.inl r2)
  obtain ⟨e1, f1⟩ := rep_flat h1 r1
  obtain ⟨e2, f2⟩ := reps_flat h2 hr
  exact ⟨p, vs, rfl, hs, f1, f2, by subst e1 e2; exact t _ (.bl _)⟩).l
theorem o_inS {c : Nat} {z : Str} (q : Qd (.bl (decide (c ∈ z.cps.toList)))) : Op2 K C (rInA K) (.str ⟨#[c]⟩) (.str z) Qd := Op2.r (Op2.r (o2_pure q fun F H v1 v2 R e r1 r2 t => by
  cases r1; cases r2
  exact ⟨c, z, rfl, rfl, t _ (.bl _)⟩))
theorem ex_dget {F H : Hp} {v : V} {ks : List (Str × D)} (e : Ex F H) (k : Str) (r : Rep K C F v (.dct ks)) : ∃ a o, v = .ref a ∧ DGet H a (.str k) o ∧ ((o = none ∧ getK k ks = none) ∨ ∃ v' d, o = some v' ∧ getK k ks = some d ∧ Rep K C F v' d) := by
  cases r with
  | @dct a kvs _ h1 h2 =>
    refine ⟨a, valV kvs (.inr k), rfl, .inl ⟨kvs, .inr k, Evl.ex_rd e h1, rfl, rfl⟩, ?_⟩
    rcases h2.get k with ⟨g1, g2⟩ | ⟨d, v', g1, g2, g3⟩
    · exact .inl ⟨g2, g1⟩
    · exact .inr ⟨v', d, g2, g1, g3⟩
theorem o_inK {s : Str} {ks : List (Str × D)} (q : Qd (.bl (getK s ks).isSome)) : Op2 K C (rInA K) (.str s) (.dct ks) Qd := Op2.r (Op2.l (o2_pure q fun F H v1 v2 R e r1 r2 t => by
  cases r1
  obtain ⟨a, o, rfl, g, z⟩ := ex_dget e s r2
  refine ⟨a, o, rfl, g, ?_⟩
  rcases z with ⟨z1, z2⟩ | ⟨v', d, z1, z2, _⟩
  · rw [z1]; rw [z2] at t; exact t _ (.bl _)
  · rw [z1]; rw [z2] at t; exact t _ (.bl _)))
theorem o_notinK {s : Str} {ks : List (Str × D)} (q : Qd (.bl (!(getK s ks).isSome))) : Op2 K C (rNotInA K) (.str s) (.dct ks) Qd := Op2.r (o2_pure q fun F H v1 v2 R e r1 r2 t => by
  cases r1
  obtain ⟨a, o, rfl, g, z⟩ := ex_dget e s r2
  refine ⟨a, o, rfl, g, ?_⟩
  rcases z with ⟨z1, z2⟩ | ⟨v', d, z1, z2, _⟩
  · rw [z1]; rw [z2] at t; exact t _ (.bl _)
  · rw [z1]; rw [z2] at t; exact t _ (.bl _))
/-! subscripts -/
def rDGetI : R2 := fun x y H Q => ∃ a v, x = .ref a ∧ DGet H a y (some v) ∧ Q v H
theorem ix_dict (hu : X.A.units + 1 < cLine) : IxR X rDGetI := by
  intro value slice pins s σ H x y v u Q I rx ry h hs
  obtain ⟨a, w', rfl, g, q⟩ := h
  cases rx
  have hT := dict_typeIs I g
  unfold subscriptTail
  refine wpAny_bind ?_
  rw [getitemInPython_of_ne hT.not_modules]
  refine wpAny_bind (wpAny_specialOf hT PySem.F.slot_dict_getitem.lookup ?_)
  have fin : wpAny (model X.prog X.w) X.A (subscripted slice false (.ref a) u) (fun r s₃ => wpAny (model X.prog X.w) X.A (letTemporaryGo value (.ref a) r >>= fun _ => pure r) (EP X pins σ Q) X.xe s₃) X.xe s := by
    rw [hs]
    exact wpAny_operating (d_getItem hu I g ry fun z s3 I3 rz => wpAny_bind (wpAny_letTemporaryGo (wpAny_pure ⟨w', H, I3, rz, q⟩)))
  first
    | exact wpAny_pure (wpAny_bind fin)
    | exact wpAny_bind (wpAny_pure (wpAny_bind fin))
    | exact wpAny_bind fin
def rIxA (K : PySem.W.Frag) : R2 := fun x y H Q => rIxL K x y H Q ∨ (rIxT K x y H Q ∨ rDGetI x y H Q)
theorem ix_any (hu : X.A.units + 1 < cLine) : IxR X (rIxA X.K) := ix_list.or (ix_tup.or (ix_dict hu))
theorem o_ixL {ds : List D} {j : Nat} {d : D} (h : ds[j]? = some d) (q : Qd d) : Op2 K C (rIxA K) (.lst ds) (.int (j : Int)) Qd := (o2_pure q fun F H v1 v2 R e r1 r2 t => by
  cases r2
  cases r1 with
  | lst h1 h2 =>
    obtain ⟨v, g1, g2⟩ := h2.get h
    exact ⟨_, _, _, v, rfl, rfl, SqL.of (e _ _ h1), atI_nat g1, t v g2⟩).l
theorem o_ixC {ns : List Int} {j : Nat} {i : Int} (h : ns[j]? = some i) (q : Qd (.int i)) : Op2 K C (rIxA K) (.scr ns) (.int (j : Int)) Qd := (o2_pure q fun F H v1 v2 R e r1 r2 t => by
  cases r2
  cases r1 with
  | scr h1 => exact ⟨_, _, _, .int i, rfl, rfl, Evl.ex_l e h1, atI_nat (by rw [List.getElem?_map, h]; rfl), t _ (.int i)⟩).l
theorem o_ixT {ds : List D} {j : Nat} {d : D} (h : ds[j]? = some d) (q : Qd d) : Op2 K C (rIxA K) (.tup ds) (.int (j : Int)) Qd := Op2.r (Op2.l (o2_pure q fun F H v1 v2 R e r1 r2 t => by
  cases r2
  cases r1 with
  | tup h1 h2 =>
    obtain ⟨v, g1, g2⟩ := h2.get h
    exact ⟨_, _, _, v, rfl, rfl, SqT.of (e _ _ h1), atI_nat g1, t v g2⟩))
theorem o_ixK {ks : List (Str × D)} {s : Str} {d : D} (h : getK s ks = some d) (q : Qd d) : Op2 K C (rIxA K) (.dct ks) (.str s) Qd := Op2.r (Op2.r (o2_pure q fun F H v1 v2 R e r1 r2 t => by
  cases r2
  obtain ⟨a, o, rfl, g, z⟩ := ex_dget e s r1
  rcases z with ⟨z1, z2⟩ | ⟨v', d', z1, z2, z3⟩
  · rw [h] at z2; cases z2
  · rw [h] at z2; cases z2
    subst z1
    exact ⟨a, v', rfl, g, t _ z3⟩))
end
/-! ## DL2 -/
/-! ### small facts of states -/
section
variable {K : PySem.W.Frag} {C : Addr} {F H : Hp} {W : Addr → Option Tg} {B : Bs} {ts : List (V × TD)} {n : Nat} {env : En} {σ : St}
theorem TsOk.drop : ∀ {us ts : List (V × TD)}, TsOk K C F H W B (us ++ ts) → TsOk K C F H W B ts
  | [], _, h => h
  | _ :: us, _, h => TsOk.drop (us := us) h.2
theorem Stt.drop {us : List (V × TD)} (S : Stt K C B F W (us ++ ts) n env σ H) : Stt K C B F W ts n env σ H :=
  ⟨S.ex1, S.ex2, S.base, S.new, S.own, S.pool, S.len, S.slots, S.temps.drop⟩
theorem Sta.drop {us : List (V × TD)} (S : Sta K C B (us ++ ts) n env σ H) : Sta K C B ts n env σ H := let ⟨F, W, S⟩ := S; ⟨F, W, S.drop⟩
theorem Sta.pop {t : V × TD} (S : Sta K C B (t :: ts) n env σ H) : Sta K C B ts n env σ H := let ⟨F, W, S⟩ := S; ⟨F, W, S.pop⟩
theorem Sta.less {m : Nat} (S : Sta K C B ts n env σ H) (h : m ≤ n) : Sta K C B ts m env σ H := let ⟨F, W, S⟩ := S; ⟨F, W, S.less h⟩
/-- what is handed back -/
theorem Sta.ret {v : V} {d : D} (S : Sta K C B ((v, .dat d) :: ts) n env σ H) : Sta K C B [(v, .dat d)] n [] [] H := by
  obtain ⟨F, W, S⟩ := S
  refine ⟨F, W, S.ex1, S.ex2, S.base, S.new, S.own, S.pool, rfl, fun i sl h => by simp at h, ?_⟩
  have t := S.temps.1
  cases t with
  | dat r => exact ⟨.dat r, trivial⟩
/-- a name is forgotten -/
theorem Stt.forget {i : Nat} {o : Option V} (S : Stt K C B F W ts n env σ H) : Stt K C B F W ts n (env.set i .no) (σ.set i o) H := by
  refine ⟨S.ex1, S.ex2, S.base, S.new, S.own, S.pool, by simpa using S.len, fun j sl h => ?_, S.temps⟩
  by_cases e : i = j
  · subst e
    have hi : i < env.length := by
      have := (List.getElem?_eq_some_iff.mp h).1
      simpa using this
    rw [List.getElem?_set_self hi] at h
    cases h
    exact .no _
  · rw [List.getElem?_set_ne e] at h ⊢
    exact S.slots j sl h
theorem Stt.forget1 {i : Nat} (S : Stt K C B F W ts n env σ H) : Stt K C B F W ts n (env.set i .no) σ H := by
  refine ⟨S.ex1, S.ex2, S.base, S.new, S.own, S.pool, by simpa using S.len, fun j sl h => ?_, S.temps⟩
  by_cases e : i = j
  · subst e
    have hi : i < env.length := by
      have := (List.getElem?_eq_some_iff.mp h).1
      simpa using this
    rw [List.getElem?_set_self hi] at h
    cases h
    exact .no _
  · rw [List.getElem?_set_ne e] at h
    exact S.slots j sl h
/-- a new list, on the pile, grows -/
theorem Stt.growF {a : Addr} {vs : List V} {ds : List D} {y : V} {d : D} (S : Stt K C B F W ((.ref a, .fl ds) :: ts) n env σ H) (hv : H a = some (.lst vs)) (r : Rep K C F y d) : Stt K C B F W ((.ref a, .fl (ds ++ [d])) :: ts) n env σ (upd H a (.lst (vs ++ [y]))) := by
  have t := S.temps.1
  cases t with
  | fl hw hh hr =>
    rw [hv] at hh
    cases hh
    obtain ⟨hf, hb, _⟩ := S.own a _ hw
    have ne : ∀ b t, W b = some t → t ≠ .tp ts.length → b ≠ a := fun b t h z e => by subst e; rw [hw] at h; exact z (Option.some.inj h).symm
    refine ⟨S.ex1, fun b u h => ?_, fun b u h z => ?_, S.new, fun b t h => ?_, fun hp => ?_, S.len, fun j s h => ?_, ?_, ?_⟩
    · rw [upd_ne (fun z => by subst z; rw [hf] at h; cases h)]; exact S.ex2 b u h
    · rw [upd_ne (fun z => by subst z; rw [hb] at h; cases h)]; exact S.base b u h z
    · obtain ⟨h1, h2, u, h3⟩ := S.own b t h
      by_cases e : b = a
      · subst e; exact ⟨h1, h2, _, upd_same⟩
      · exact ⟨h1, h2, u, by rw [upd_ne e]; exact h3⟩
    · obtain ⟨h1, h2, h3⟩ := S.pool hp
      refine ⟨h1, h2, h3.mono (upd_ne fun z => ?_) (Nat.le_refl _)⟩
      obtain ⟨u, h2⟩ := h2
      rw [z, hb] at h2; cases h2
    · exact (S.slots j s h).mono LeR.refl (fun b u hb hh => by rw [upd_ne (ne b _ hb fun z => by cases z)]; exact hh) fun _ h => h
    · exact .fl hw upd_same (hr.append (.one r))
    · refine TsOk.mono LeR.refl (fun b u j hj hb hh => by rw [upd_ne (ne b _ hb fun z => by cases z; exact absurd hj (Nat.lt_irrefl _))]; exact hh) (fun _ _ _ h => h) S.temps.2
/-- behind a call that may have drawn from the pool -/
theorem Stt.called {F' H' : Hp} {m : Nat} (S : Stt K C B F W ts n env σ H) (e1 : Ex F F') (e2 : Ex F' H') (e3 : ∀ a o, H a = some o → (B.pl = true → a ≠ B.p) → H' a = some o) (nw : ∀ a o, F' a = some o → F a = some o ∨ H a = none)
    (hp : B.pl = true → F' B.p = none ∧ PoolOk H' B.p m) : Stt K C B F' W ts m env σ H' := by
  have np : ∀ a t, W a = some t → B.pl = true → a ≠ B.p := fun a t w z e => by
    obtain ⟨_, ⟨o, h⟩, _⟩ := S.pool z
    rw [← e, (S.own a t w).2.1] at h; cases h
  refine ⟨S.ex1.trans e1, e2, fun a o h q => e3 a o (S.base a o h q) q, fun a o h => ?_, fun a i w => ?_, fun z => ?_, S.len, fun i sl h => ?_, ?_⟩
  · rcases nw a o h with h | h
    · exact S.new a o h
    · cases q : B.H a with
      | none => exact .inr rfl
      | some u =>
        by_cases z : B.pl = true ∧ a = B.p
        · obtain ⟨z1, z2⟩ := z
          obtain ⟨_, _, x, y, c, hq, _⟩ := S.pool z1
          rw [z2, hq] at h; cases h
        · have := S.base a u q (fun z1 z2 => z ⟨z1, z2⟩)
          rw [h] at this; cases this
  · obtain ⟨h1, h2, o, h3⟩ := S.own a i w
    refine ⟨?_, h2, o, e3 a o h3 (np a i w)⟩
    cases q : F' a with
    | none => rfl
    | some u =>
      rcases nw a u q with h | h
      · rw [h1] at h; cases h
      · rw [h3] at h; cases h
  · exact ⟨(hp z).1, (S.pool z).2.1, (hp z).2⟩
  · exact (S.slots i sl h).mono (LeR.of e1) (fun a o w h => e3 a o h (np a _ w)) fun _ h => h
  · exact TsOk.mono (LeR.of e1) (fun a o _ _ w h => e3 a o h (np a _ w)) (fun _ _ _ h => h) S.temps
end

/-! ### what a def promises, on data -/
def spD (K : PySem.W.Frag) (C : Addr) (pl : Bool) (R : List D → Nat → (D → Nat → Prop) → Prop) : Sp := fun vs H Q _ => ∃ (B : Bs) (n : Nat) (vs' : List V) (ds : List D), B.pl = pl ∧ B.H = H ∧
  vs = (if pl then .ref B.p :: vs' else vs') ∧ Ex B.F H ∧ Reps K C B.F vs' ds ∧ (pl = true → B.F B.p = none ∧ PoolOk H B.p n) ∧ R ds n fun d n' => ∀ v H', Sta K C B [(v, .dat d)] n' [] [] H' → Q v H'
structure FnD (P : Program) (w : World) (K : PySem.W.Frag) (mg : Str → Option Value) (base : Heap) (C : Addr) (x : Str) (k : Nat) (pl : Bool) (R : List D → Nat → (D → Nat → Prop) → Prop) : Prop where
  ex : ∃ (f : Addr) (fd : FuncData) (ps : List Str) (CX : CXT), mg x = some (.ref f) ∧ PySem.W.keepIn K (.ref f) = true ∧ Binds K fd ps [] ∧ FnOk P w K mg base CX k f fd ps (spD K C pl R) ∧ ∀ X : Cx, X.prog = P → X.w = w → Passes CX X E0
  mono : ∀ ds n (p q : D → Nat → Prop), (∀ d m, p d m → q d m) → R ds n p → R ds n q
section
variable {X : Cx} {C : Addr} {k : Nat} {N Vn Ln Gn : List Str} {n : Nat} {env : En} {Q : QE} {QT : QB} {QR' : QR} {QA' : QA} {x : Str} {p pos : Pos} {e a b c : Expr} {es : List Expr} {d : D} {k0 : Nat} {R : List D → Nat → (D → Nat → Prop) → Prop}
/-- a call of a def that has no pool -/
theorem ev_callD (h : FnD X.prog X.w X.K X.mg X.base C x k0 false R) (hX : XOk X k N Vn Ln Gn) (hk : k0 ≤ k) (hg : x ∈ Gn) (ha : EvA X C (e :: es) n env fun tds n' env' => ∃ ds, tds = ds.map .dat ∧ R ds n' fun d _ => Q d n' env')
    (he : starEach (e :: es) X.env = (false, eval e X.env) :: starEach es X.env := by rfl) (hpl : (backTo pos (starEach es X.env)).any (·.1) = false := by rfl) : Ev X C (.Call (.Name x p) (e :: es) [] pos) n env Q := fun B ts σ H R' S q => by
  obtain ⟨f, fd, ps, CX, hm, hkp, hb, F, hx⟩ := h.ex
  refine of_pe (pe_call (dvs := []) F (hX.room.mono hk) (hX.gl x hg).1 hm hkp hb .nil (hx X rfl rfl) pa_t (hX.gl x hg).2.1 he hpl) (ha B ts σ H _ S fun vs H1 tds n1 env1 ⟨ds, hd, hR⟩ hl S1 => ?_)
  subst hd
  obtain ⟨F1, W1, S1⟩ := S1
  obtain ⟨r, S1⟩ := S1.unstk (by simpa using hl)
  show spD X.K C false R (vs ++ []) H1 R' E0
  rw [List.append_nil]
  refine ⟨⟨F1, H1, 0, false⟩, n1, vs, ds, rfl, rfl, rfl, S1.ex2, r, (fun z => nomatch z), h.mono _ _ _ _ (fun d m hq v H' Z => ?_) hR⟩
  obtain ⟨F2, W2, Z⟩ := Z
  have t := Z.temps.1
  cases t with
  | dat rp => exact q v H' d n1 env1 hq ⟨F2, W1, (S1.grow Z.ex1 Z.ex2 (fun a o h => Z.base a o h fun z => nomatch z) Z.new).push rp⟩
/-- a call of a def that draws from the pool -/
theorem ev_callP (h : FnD X.prog X.w X.K X.mg X.base C x k0 true R) (hX : XOk X k N Vn Ln Gn) (hk : k0 ≤ k) (hg : x ∈ Gn) (ha : EvA X C (e :: es) n env fun tds n' env' => ∃ ds, tds = .pool :: ds.map .dat ∧ R ds n' fun d m => Q d m env')
    (he : starEach (e :: es) X.env = (false, eval e X.env) :: starEach es X.env := by rfl) (hpl : (backTo pos (starEach es X.env)).any (·.1) = false := by rfl) : Ev X C (.Call (.Name x p) (e :: es) [] pos) n env Q := fun B ts σ H R' S q => by
  obtain ⟨f, fd, ps, CX, hm, hkp, hb, F, hx⟩ := h.ex
  refine of_pe (pe_call (dvs := []) F (hX.room.mono hk) (hX.gl x hg).1 hm hkp hb .nil (hx X rfl rfl) pa_t (hX.gl x hg).2.1 he hpl) (ha B ts σ H _ S fun vs H1 tds n1 env1 ⟨ds, hd, hR⟩ hl S1 => ?_)
  subst hd
  obtain ⟨F1, W1, S1⟩ := S1
  cases vs with
  | nil => simp at hl
  | cons v0 vs =>
    have hl' : vs.length = ds.length := by simpa using hl
    have S1 : Stt X.K C B F1 W1 (stk vs (ds.map .dat) ((v0, .pool) :: ts)) n1 env1 σ H1 := S1
    obtain ⟨r, S1⟩ := S1.unstk hl'
    have t := S1.temps.1
    generalize hv0 : v0 = v0' at t
    cases t with
    | pool hpl' =>
      have S2 := S1.pop
      obtain ⟨hp1, hp2, hp3⟩ := S2.pool hpl'
      show spD X.K C true R (.ref B.p :: vs ++ []) H1 R' E0
      rw [List.append_nil]
      refine ⟨⟨F1, H1, B.p, true⟩, n1, vs, ds, rfl, rfl, rfl, S2.ex2, r, fun _ => ⟨hp1, hp3⟩, h.mono _ _ _ _ (fun d m hq v H' Z => ?_) hR⟩
      obtain ⟨F2, W2, Z⟩ := Z
      obtain ⟨z1, z2, z3⟩ := Z.pool rfl
      have t := Z.temps.1
      cases t with
      | dat rp => exact q v H' d m env1 hq ⟨F2, W1, (S2.called Z.ex1 Z.ex2 (fun a o h z => Z.base a o h fun _ => z hpl') Z.new fun _ => ⟨z1, z3⟩).push rp⟩

/-! ### built-ins -/
theorem evB {r : List V → Hp → VK → Prop} {id : String} (hX : XOk X k N Vn Ln Gn) (hc : CallR X (.builtin id) r) (hm : X.mg x = none) (hv : bootBuiltins x = some (.builtin id)) (hg : x ∈ Gn) (h : EvA X C (e :: es) n env fun tds n' env' => ∃ ds, tds = ds.map .dat ∧ OpN X.K C r ds fun d => Q d n' env')
    (he : starEach (e :: es) X.env = (false, eval e X.env) :: starEach es X.env := by rfl) (hpl : (backTo pos (starEach es X.env)).any (·.1) = false := by rfl) : Ev X C (.Call (.Name x p) (e :: es) [] pos) n env Q :=
  evb (pe_callB hc (hX.gl x hg).1 hm hv pa_t (hX.gl x hg).2.2 (hX.gl x hg).2.1 he hpl) h
theorem evTy {r : List V → Hp → VK → Prop} {id : String} (hX : XOk X k N Vn Ln Gn) (hc : CallR X (.type id) r) (hm : X.mg x = none) (hv : bootBuiltins x = some (.type id)) (hg : x ∈ Gn) (h : EvA X C (e :: es) n env fun tds n' env' => ∃ ds, tds = ds.map .dat ∧ OpN X.K C r ds fun d => Q d n' env')
    (he : starEach (e :: es) X.env = (false, eval e X.env) :: starEach es X.env := by rfl) (hpl : (backTo pos (starEach es X.env)).any (·.1) = false := by rfl) : Ev X C (.Call (.Name x p) (e :: es) [] pos) n env Q :=
  evb (pe_callTy hc (hX.gl x hg).1 hm hv pa_t (hX.gl x hg).2.2 (hX.gl x hg).2.1 he hpl) h
/-- those that make a new list, a new dict -/
def OpF (K : PySem.W.Frag) (C : Addr) (r : List V → Hp → VK → Prop) (ds : List D) (Qf : TD → Prop) : Prop := ∀ F H vs (R : VK), Ex F H → Reps K C F vs ds →
  (∀ q ws es, Qf (.fl es) → H q = none → Reps K C F ws es → R (.ref q) (upd H q (.lst ws))) → (∀ q kvs ks, Qf (.fd ks) → H q = none → RepK K C F kvs ks → R (.ref q) (upd H q (.dK kvs))) → r vs H R
theorem evbF {r : List V → Hp → VK → Prop} {t : Expr} (hp : PE X t fun σ H Q => tA X es σ H fun vs H1 => r vs H1 Q) (h : EvA X C es n env fun tds n' env' => ∃ ds, tds = ds.map .dat ∧ OpF X.K C r ds fun td => QR' td n' env') : EvR X C t n env QR' := fun B ts σ H R S q => by
  refine of_pe hp (h B ts σ H _ S fun vs H' tds n' env' ⟨ds, hd, hq⟩ hl S' => ?_)
  subst hd
  obtain ⟨F, W, S'⟩ := S'
  obtain ⟨r, S'⟩ := S'.unstk (by simpa using hl)
  refine hq F H' vs R S'.ex2 r (fun u ws es hz hu hr => ?_) (fun u kvs ks hz hu hr => ?_)
  · obtain ⟨W', Z⟩ := S'.newF hu hr
    exact q _ _ _ n' env' hz ⟨F, W', Z⟩
  · obtain ⟨W', Z⟩ := S'.newFd hu hr
    exact q _ _ _ n' env' hz ⟨F, W', Z⟩
theorem evBF {r : List V → Hp → VK → Prop} {id : String} (hX : XOk X k N Vn Ln Gn) (hc : CallR X (.builtin id) r) (hm : X.mg x = none) (hv : bootBuiltins x = some (.builtin id)) (hg : x ∈ Gn) (h : EvA X C (e :: es) n env fun tds n' env' => ∃ ds, tds = ds.map .dat ∧ OpF X.K C r ds fun d => QR' d n' env')
    (he : starEach (e :: es) X.env = (false, eval e X.env) :: starEach es X.env := by rfl) (hpl : (backTo pos (starEach es X.env)).any (·.1) = false := by rfl) : EvR X C (.Call (.Name x p) (e :: es) [] pos) n env QR' :=
  evbF (pe_callB hc (hX.gl x hg).1 hm hv pa_t (hX.gl x hg).2.2 (hX.gl x hg).2.1 he hpl) h
theorem evTyF {r : List V → Hp → VK → Prop} {id : String} (hX : XOk X k N Vn Ln Gn) (hc : CallR X (.type id) r) (hm : X.mg x = none) (hv : bootBuiltins x = some (.type id)) (hg : x ∈ Gn) (h : EvA X C (e :: es) n env fun tds n' env' => ∃ ds, tds = ds.map .dat ∧ OpF X.K C r ds fun d => QR' d n' env')
    (he : starEach (e :: es) X.env = (false, eval e X.env) :: starEach es X.env := by rfl) (hpl : (backTo pos (starEach es X.env)).any (·.1) = false := by rfl) : EvR X C (.Call (.Name x p) (e :: es) [] pos) n env QR' :=
  evbF (pe_callTy hc (hX.gl x hg).1 hm hv pa_t (hX.gl x hg).2.2 (hX.gl x hg).2.1 he hpl) h
/-- a built-in type as a value -/
theorem ev_ty {T : String} (hX : XOk X k N Vn Ln Gn) (hm : X.mg x = none) (hv : bootBuiltins x = some (.type T)) (hg : x ∈ Gn) (q : Q (.ty T) n env) : Ev X C (.Name x pos) n env Q :=
  ev_c (pe_bltn (v := .ty T) (hX.gl x hg).1 hm hv rfl (hX.gl x hg).2.2 (hX.gl x hg).2.1) (fun _ => .ty T) q
variable {K : PySem.W.Frag} {Qd : D → Prop} {Qf : TD → Prop}
theorem reps1 {F : Hp} {vs : List V} (r : Reps K C F vs [d]) : ∃ v, vs = [v] ∧ Rep K C F v d := by
  cases r with
  | cons a b => cases b; exact ⟨_, rfl, a⟩
theorem reps2 {F : Hp} {vs : List V} {d2 : D} (r : Reps K C F vs [d, d2]) : ∃ v v2, vs = [v, v2] ∧ Rep K C F v d ∧ Rep K C F v2 d2 := by
  cases r with
  | cons a b =>
    obtain ⟨v, rfl, h⟩ := reps1 b
    exact ⟨_, _, rfl, a, h⟩
theorem on_pure {r : List V → Hp → VK → Prop} {ds : List D} (q : Qd d) (h : ∀ F H vs (R : VK), Ex F H → Reps K C F vs ds → (∀ v, Rep K C F v d → R v H) → r vs H R) : OpN K C r ds Qd :=
  fun F H vs R e r t => h F H vs R e r fun _ rp => t.here e q rp
/-- len -/
def rLenA (K : PySem.W.Frag) : List V → Hp → VK → Prop := fun xs H Q => (∃ x n, xs = [x] ∧ LenV K x H n ∧ Q (.int n) H) ∨ ∃ a kvs, xs = [V.ref a] ∧ Rd H a (.dK kvs) ∧ Q (.int kvs.length) H
theorem cr_lenA : CallR X (.builtin "len") (rLenA X.K) := by
  intro pins s σ H xs us Q I r h
  rcases h with h | ⟨a, kvs, rfl, ha, q⟩
  · exact call_len pins s σ H xs us Q I r h
  · obtain ⟨u, rfl, ru⟩ := vals1 r
    cases ru
    exact d_len I ha fun t s' I' => ⟨.int kvs.length, H, I', ⟨t, rfl⟩, q⟩
theorem n_lenL {ds : List D} (q : Qd (.int (ds.length : Int))) : OpN K C (rLenA K) [.lst ds] Qd := on_pure q fun F H vs R e r t => by
  obtain ⟨v, rfl, rp⟩ := reps1 r
  cases rp with
  | lst h1 h2 => exact .inl ⟨_, ds.length, rfl, .inl ⟨_, SqL.of (e _ _ h1), h2.length.symm⟩, t _ (.int _)⟩
theorem n_lenT {ds : List D} (q : Qd (.int (ds.length : Int))) : OpN K C (rLenA K) [.tup ds] Qd := on_pure q fun F H vs R e r t => by
  obtain ⟨v, rfl, rp⟩ := reps1 r
  cases rp with
  | tup h1 h2 => exact .inl ⟨_, ds.length, rfl, .inr ⟨_, SqT.of (e _ _ h1), h2.length.symm⟩, t _ (.int _)⟩
theorem n_lenS {z : Str} (h : z.length ≤ 100000) (q : Qd (.int (z.length : Int))) : OpN K C (rLenA K) [.str z] Qd := on_pure q fun F H vs R e r t => by
  obtain ⟨v, rfl, rp⟩ := reps1 r
  cases rp
  exact .inl ⟨.str z, z.length, rfl, ⟨small_line h, rfl⟩, t _ (.int _)⟩
theorem n_lenK {ks : List (Str × D)} (q : Qd (.int (ks.length : Int))) : OpN K C (rLenA K) [.dct ks] Qd := on_pure q fun F H vs R e r t => by
  obtain ⟨v, rfl, rp⟩ := reps1 r
  cases rp with
  | dct h1 h2 => exact .inr ⟨_, _, rfl, Evl.ex_rd e h1, by rw [h2.length]; exact t _ (.int _)⟩
theorem n_lenC {ns : List Int} (q : Qd (.int (ns.length : Int))) : OpN K C (rLenA K) [.scr ns] Qd := on_pure q fun F H vs R e r t => by
  obtain ⟨v, rfl, rp⟩ := reps1 r
  cases rp with
  | scr h1 => exact .inl ⟨_, ns.length, rfl, .inl ⟨_, Evl.ex_l e h1, by simp⟩, t _ (.int _)⟩
/-- abs, int, max, sum, any, all -/
theorem n_abs {i : Int} (q : Qd (.int (if i < 0 then -i else i))) : OpN K C (fun xs H Q => ∃ i, xs = [.int i] ∧ Q (.int (if i < 0 then -i else i)) H) [.int i] Qd := on_pure q fun F H vs R e r t => by
  obtain ⟨v, rfl, rp⟩ := reps1 r
  cases rp
  exact ⟨i, rfl, t _ (.int _)⟩
def rInt1 : List V → Hp → VK → Prop := fun xs H Q => (∃ i, xs = [.int i] ∧ Q (.int i) H) ∨ ∃ k, xs = [.bl k] ∧ Q (.int (if k then 1 else 0)) H
theorem cr_int1 : CallR X (.type "int") rInt1 := call_int1
theorem n_intI {i : Int} (q : Qd (.int i)) : OpN K C rInt1 [.int i] Qd := on_pure q fun F H vs R e r t => by
  obtain ⟨v, rfl, rp⟩ := reps1 r
  cases rp
  exact .inl ⟨i, rfl, t _ (.int _)⟩
theorem n_intB {i : Bool} (q : Qd (.int (if i then 1 else 0))) : OpN K C rInt1 [.bl i] Qd := on_pure q fun F H vs R e r t => by
  obtain ⟨v, rfl, rp⟩ := reps1 r
  cases rp
  exact .inr ⟨i, rfl, t _ (.int _)⟩
def rMaxA (K : PySem.W.Frag) : List V → Hp → VK → Prop := fun xs H Q => (∃ i j, xs = [.int i, .int j] ∧ Q (.int (if j > i then j else i)) H) ∨ rMax K xs H Q
theorem cr_maxA (hc : X.calm = true) : CallR X (.builtin "max") (rMaxA X.K) := (call_max2 hc).or (cr_max hc)
theorem n_max2 {i j : Int} (q : Qd (.int (max i j))) : OpN K C (rMaxA K) [.int i, .int j] Qd := on_pure q fun F H vs R e r t => by
  obtain ⟨v, v2, rfl, rp, r2⟩ := reps2 r
  cases rp; cases r2
  refine .inl ⟨i, j, rfl, ?_⟩
  have e : (if j > i then j else i) = max i j := by split <;> omega
  rw [e]
  exact t _ (.int _)
theorem reps_ints {F : Hp} : ∀ {ns : List Int} {vs : List V}, Reps K C F vs (ns.map .int) → vs = ns.map V.int
  | [], _, .nil => rfl
  | i :: ns, _, .cons r1 r2 => by cases r1; rw [reps_ints r2]; rfl
theorem reps_bls {F : Hp} : ∀ {ns : List Bool} {vs : List V}, Reps K C F vs (ns.map .bl) → vs = ns.map V.bl
  | [], _, .nil => rfl
  | i :: ns, _, .cons r1 r2 => by cases r1; rw [reps_bls r2]; rfl
theorem reps_strs {F : Hp} : ∀ {ns : List Str} {vs : List V}, Reps K C F vs (ns.map .str) → vs = ns.map V.str
  | [], _, .nil => rfl
  | i :: ns, _, .cons r1 r2 => by cases r1; rw [reps_strs r2]; rfl
theorem strs_reps {F : Hp} : ∀ {ns : List Str}, Reps K C F (ns.map V.str) (ns.map .str)
  | [] => .nil
  | i :: ns => .cons (.str i) strs_reps
theorem ints_reps {F : Hp} : ∀ {ns : List Int}, Reps K C F (ns.map V.int) (ns.map .int)
  | [] => .nil
  | i :: ns => .cons (.int i) ints_reps
theorem n_maxL {ns : List Int} (hn : 0 < ns.length) (q : ∀ m, m ∈ ns → (∀ y, y ∈ ns → y ≤ m) → Qd (.int m)) : OpN K C (rMaxA K) [.lst (ns.map .int)] Qd := fun F H vs R e r t => by
  obtain ⟨v, rfl, rp⟩ := reps1 r
  cases rp with
  | lst h1 h2 =>
    have := reps_ints h2
    subst this
    exact .inr ⟨_, ns, rfl, SqL.of (e _ _ h1), hn, fun m h1 h2 => t.here e (q m h1 h2) (.int m)⟩
theorem n_sum {ns : List Int} (q : Qd (.int ns.sum)) : OpN K C (rSum K) [.lst (ns.map .int)] Qd := on_pure q fun F H vs R e r t => by
  obtain ⟨v, rfl, rp⟩ := reps1 r
  cases rp with
  | lst h1 h2 =>
    have := reps_ints h2
    subst this
    exact ⟨_, ns, rfl, SqL.of (e _ _ h1), t _ (.int _)⟩
theorem n_any {bs : List Bool} (q : Qd (.bl (bs.any id))) : OpN K C (rAny K) [.lst (bs.map .bl)] Qd := on_pure q fun F H vs R e r t => by
  obtain ⟨v, rfl, rp⟩ := reps1 r
  cases rp with
  | lst h1 h2 =>
    have := reps_bls h2
    subst this
    exact ⟨_, bs, rfl, SqL.of (e _ _ h1), t _ (.bl _)⟩
theorem n_all {bs : List Bool} (q : Qd (.bl (bs.all id))) : OpN K C (rAll K) [.lst (bs.map .bl)] Qd := on_pure q fun F H vs R e r t => by
  obtain ⟨v, rfl, rp⟩ := reps1 r
  cases rp with
  | lst h1 h2 =>
    have := reps_bls h2
    subst this
    exact ⟨_, bs, rfl, SqL.of (e _ _ h1), t _ (.bl _)⟩
/-- list(xs), tuple(xs), sorted of texts, of ints -/
theorem f_listL {ds : List D} (q : Qf (.fl ds)) : OpF K C (fun xs H Q => ∃ p ys, xs = [.ref p] ∧ (SqL K H p ys ∨ SqT K H p ys) ∧ ∀ l, H l = none → Q (.ref l) (upd H l (.lst ys))) [.lst ds] Qf := fun F H vs R e r t _ => by
  obtain ⟨v, rfl, rp⟩ := reps1 r
  cases rp with
  | lst h1 h2 => exact ⟨_, _, rfl, .inl (SqL.of (e _ _ h1)), fun l hl => t l _ ds q hl h2⟩
theorem f_listT {ds : List D} (q : Qf (.fl ds)) : OpF K C (fun xs H Q => ∃ p ys, xs = [.ref p] ∧ (SqL K H p ys ∨ SqT K H p ys) ∧ ∀ l, H l = none → Q (.ref l) (upd H l (.lst ys))) [.tup ds] Qf := fun F H vs R e r t _ => by
  obtain ⟨v, rfl, rp⟩ := reps1 r
  cases rp with
  | tup h1 h2 => exact ⟨_, _, rfl, .inr (SqT.of (e _ _ h1)), fun l hl => t l _ ds q hl h2⟩
theorem n_tupL {ds : List D} (q : Qd (.tup ds)) : OpN K C (fun xs H Q => ∃ p ys, xs = [.ref p] ∧ ((SqL K H p ys ∧ ∀ l, H l = none → Q (.ref l) (upd H l (.tup ys))) ∨ (SqT K H p ys ∧ Q (.ref p) H))) [.lst ds] Qd := fun F H vs R e r t => by
  obtain ⟨v, rfl, rp⟩ := reps1 r
  cases rp with
  | lst h1 h2 => exact ⟨_, _, rfl, .inl ⟨SqL.of (e _ _ h1), fun l hl => t.newO e hl q fun hf => .tup upd_same (Reps.mono (LeR.of (Ex.new hf)) h2)⟩⟩
/-- isinstance -/
def tyD : D → Option String
  | .non => some "NoneType"
  | .bl _ => some "bool"
  | .int _ => some "int"
  | .str _ => some "str"
  | .lst _ => some "list"
  | .tup _ => some "tuple"
  | .dct _ => some "dict"
  | _ => none
theorem rep_ty {F H : Hp} {v : V} {T : String} (e : Ex F H) (r : Rep K C F v d) (h : tyD d = some T) : TyX K H v (.type T) := by
  cases r with
  | non => cases h; exact .base .non
  | bl b => cases h; exact .base (.bl b)
  | int i => cases h; exact .base (.int i)
  | str s => cases h; exact .base (.str s)
  | lst h1 _ => cases h; exact .base (.lst (e _ _ h1))
  | tup h1 _ => cases h; exact .base (.tup (e _ _ h1))
  | dct h1 _ =>
    cases h
    rcases h1 with h1 | ⟨o, h1⟩
    · exact .base (.dK (e _ _ h1))
    · exact .fDict (e _ _ h1)
  | _ => cases h
def isiB (T : String) : List String → Option Bool
  | [] => some false
  | c :: cs => match kitB T c with
    | some true => some true
    | some false => isiB T cs
    | none => none
theorem isi_any {T : String} : ∀ {cs : List String} {b : Bool}, isiB T cs = some b → PySem.W.kitAny K (.type T) (cs.map Value.type) = some b
  | [], b, h => by cases h; exact kitAny_nil
  | c :: cs, b, h => by
    unfold isiB at h
    cases hk : kitB T c with
    | none => rw [hk] at h; cases h
    | some r =>
      rw [hk] at h
      cases r with
      | true => cases h; exact kitAny_cons (kit_ty hk) (fun z => nomatch z) fun _ => rfl
      | false => exact kitAny_cons (kit_ty hk) (fun _ => isi_any h) fun z => nomatch z
def rIsiA (K : PySem.W.Frag) : List V → Hp → VK → Prop := fun xs H Q => rIsi K xs H Q ∨ rIsiT K xs H Q
theorem cr_isiA : CallR X (.builtin "isinstance") (rIsiA X.K) := call_isi.or call_isiT
theorem n_isi {T c : String} {b : Bool} (h : tyD d = some T) (hk : kitB T c = some b) (q : Qd (.bl b)) : OpN K C (rIsiA K) [d, .ty c] Qd := on_pure q fun F H vs R e r t => by
  obtain ⟨v, v2, rfl, rp, r2⟩ := reps2 r
  cases r2
  exact .inl ⟨v, .ty c, _, _, b, rfl, .ty c, rep_ty e rp h, kit_ty hk, t _ (.bl _)⟩
theorem reps_tys {F : Hp} : ∀ {cs : List String} {vs : List V}, Reps K C F vs (cs.map .ty) → Paired ClsV vs (cs.map Value.type)
  | [], _, .nil => .nil
  | c :: cs, _, .cons r1 r2 => by cases r1; exact .cons (.ty c) (reps_tys r2)
theorem n_isiT {T : String} {cs : List String} {b : Bool} (h : tyD d = some T) (hk : isiB T cs = some b) (q : Qd (.bl b)) : OpN K C (rIsiA K) [d, .tup (cs.map .ty)] Qd := on_pure q fun F H vs R e r t => by
  obtain ⟨v, v2, rfl, rp, r2⟩ := reps2 r
  cases r2 with
  | tup h1 h2 => exact .inr ⟨v, _, _, _, _, b, rfl, e _ _ h1, reps_tys h2, rep_ty e rp h, isi_any hk, t _ (.bl _)⟩
/-! ### slices of lists -/
theorem cut_to (vs : List V) (n : Nat) : cutV vs none (some (n : Int)) = vs.take n := by
  unfold cutV
  rw [HT.sIx_none, HT.sIx_nat, List.drop_zero, Nat.sub_zero]
  by_cases h : n ≤ vs.length
  · rw [Nat.min_eq_left h]
  · rw [Nat.min_eq_right (by omega), List.take_length, List.take_of_length_le (by omega)]
theorem cut_from (vs : List V) (n : Nat) : cutV vs (some (n : Int)) none = vs.drop n := by
  unfold cutV
  rw [HT.sIx_none, HT.sIx_nat]
  by_cases h : n ≤ vs.length
  · rw [Nat.min_eq_left h, List.take_of_length_le (by simp)]
  · rw [Nat.min_eq_right (by omega), List.drop_of_length_le (Nat.le_refl _), List.drop_of_length_le (by omega)]
    simp
/-- a list, the script, as items -/
def itemsD : D → Option (List D)
  | .lst ds => some ds
  | .scr ns => some (ns.map .int)
  | _ => none
theorem rep_items {F H : Hp} {v : V} {ds : List D} (e : Ex F H) (r : Rep K C F v d) (h : itemsD d = some ds) : ∃ a vs, v = .ref a ∧ SqL K H a vs ∧ Reps K C F vs ds := by
  cases r with
  | lst h1 h2 => cases h; exact ⟨_, _, rfl, SqL.of (e _ _ h1), h2⟩
  | scr h1 => cases h; exact ⟨_, _, rfl, Evl.ex_l e h1, ints_reps⟩
  | _ => cases h
theorem ev_sliceTo {p2 : Pos} (h : Ev X C a n env fun d n1 env1 => ∃ ds, itemsD d = some ds ∧ Ev X C b n1 env1 fun d2 n2 env2 => ∃ j : Nat, d2 = .int (j : Int) ∧ Q (.lst (ds.take j)) n2 env2) : Ev X C (.Subscript a (.Slice none (some b) none p2) pos) n env Q := fun B ts σ H R S q => by
  refine of_pe (pe_slice sl_list pe_t po_none (po_some pe_t)) (h B ts σ H _ S fun v1 H1 d1 n1 env1 ⟨ds, hd, h1⟩ S1 => ?_)
  refine h1 B _ σ H1 _ S1 fun v2 H2 d2 n2 env2 ⟨j, hj, hq⟩ S2 => ?_
  subst hj
  obtain ⟨F, W, S2⟩ := S2
  obtain ⟨td2, td1, tr⟩ := S2.temps
  cases td2 with
  | dat r2 =>
    cases r2
    cases td1 with
    | dat r1 =>
      obtain ⟨a, vs, rfl, hs, hr⟩ := rep_items S2.ex2 r1 hd
      refine ⟨(j : Int), rfl, a, vs, rfl, hs, fun u hu => ?_⟩
      rw [cut_to]
      exact (then_of (Q := fun d _ _ => d = .lst (ds.take j)) S2.pop.pop fun v H' d hd Z => q v H' d n2 env2 (by rw [hd]; exact hq) Z).newO S2.ex2 hu rfl fun hf => .lst upd_same (Reps.mono (LeR.of (Ex.new hf)) (hr.take j))
theorem ev_sliceFrom {p2 : Pos} (h : Ev X C a n env fun d n1 env1 => ∃ ds, itemsD d = some ds ∧ Ev X C b n1 env1 fun d2 n2 env2 => ∃ j : Nat, d2 = .int (j : Int) ∧ Q (.lst (ds.drop j)) n2 env2) : Ev X C (.Subscript a (.Slice (some b) none none p2) pos) n env Q := fun B ts σ H R S q => by
  refine of_pe (pe_slice sl_list pe_t (po_some pe_t) po_none) (h B ts σ H _ S fun v1 H1 d1 n1 env1 ⟨ds, hd, h1⟩ S1 => ?_)
  refine h1 B _ σ H1 _ S1 fun v2 H2 d2 n2 env2 ⟨j, hj, hq⟩ S2 => ?_
  subst hj
  obtain ⟨F, W, S2⟩ := S2
  obtain ⟨td2, td1, tr⟩ := S2.temps
  cases td2 with
  | dat r2 =>
    cases r2
    cases td1 with
    | dat r1 =>
      obtain ⟨a, vs, rfl, hs, hr⟩ := rep_items S2.ex2 r1 hd
      refine ⟨(j : Int), rfl, a, vs, rfl, hs, fun u hu => ?_⟩
      rw [cut_from]
      exact (then_of (Q := fun d _ _ => d = .lst (ds.drop j)) S2.pop.pop fun v H' d hd Z => q v H' d n2 env2 (by rw [hd]; exact hq) Z).newO S2.ex2 hu rfl fun hf => .lst upd_same (Reps.mono (LeR.of (Ex.new hf)) (hr.drop j))
/-! ### chains a < b < c -/
theorem ev_chain {op op' : CmpOp} {r r' : R2} (ho : OpR X (compareOp op) r) (ho' : OpR X (compareOp op') r') (h : Ev X C a n env fun d1 n1 env1 => Ev X C b n1 env1 fun d2 n2 env2 => Op2 X.K C r d1 d2 fun d => ∃ k, d = .bl k ∧ if k = true then Ev X C c n2 env2 fun d3 n3 env3 => Op2 X.K C r' d2 d3 fun d => Q d n3 env3 else Q (.bl false) n2 env2)
    (hm : lastMarks [op, op'] [b, c] = false := by with_unfolding_all rfl) : Ev X C (.Compare a [op, op'] [b, c] pos) n env Q := fun B ts σ H R S q => by
  refine of_pe (pe_chain ho ho' pe_t pe_t pe_t hm) (h B ts σ H _ S fun v1 H1 d1 n1 env1 h1 S1 => h1 B _ σ H1 _ S1 fun v2 H2 d2 n2 env2 h2 S2 => ?_)
  obtain ⟨F, W, S2⟩ := S2
  obtain ⟨td2, td1, tr⟩ := S2.temps
  cases td2 with
  | dat r2 =>
    cases td1 with
    | dat r1 =>
      refine h2 F H2 v1 v2 _ S2.ex2 r1 r2 fun v d F' H' ⟨kk, hd, hq⟩ e1 e2 e3 nw rp => ?_
      subst hd
      cases rp
      refine ⟨kk, rfl, ?_⟩
      have S3 := S2.pop.pop.grow e1 e2 e3 nw
      have r2' := r2.mono (LeR.of e1)
      cases kk with
      | false => simp only [Bool.false_eq_true, if_false] at hq ⊢; exact q _ H' _ n2 env2 hq ⟨F', W, S3.push (.bl _)⟩
      | true =>
        simp only [if_true] at hq ⊢
        refine hq B _ σ H' _ ⟨F', W, S3.push r2'⟩ fun v3 H3 d3 n3 env3 h3 S4 => ?_
        obtain ⟨F4, W4, S4⟩ := S4
        obtain ⟨td3, td2', tr⟩ := S4.temps
        cases td3 with
        | dat r3 =>
          cases td2' with
          | dat r2'' => exact h3 F4 H3 v2 v3 R S4.ex2 r2'' r3 (then_of S4.pop.pop fun v H' d hq Z => q v H' d n3 env3 hq Z)
/-! ### d.get(k, x) -/
theorem ev_get2 {apos cpos : Pos} (hX : XOk X k N Vn Ln Gn) (m : M2 X a "get" apos b c cpos) (h : Ev X C a n env fun d1 n1 env1 => ∃ ks, d1 = .dct ks ∧ Ev X C b n1 env1 fun d2 n2 env2 => ∃ s, d2 = .str s ∧ Ev X C c n2 env2 fun d3 n3 env3 => Q ((getK s ks).getD d3) n3 env3) :
    Ev X C (.Call (.Attribute a "get" apos) [b, c] [] cpos) n env Q := fun B ts σ H R S q => by
  refine of_pe (pe_dget2 hX.hu pe_t pe_t pe_t m) (h B ts σ H _ S fun v1 H1 d1 n1 env1 ⟨ks, hd, h1⟩ S1 => ?_)
  subst hd
  obtain ⟨F1, W1, Z1⟩ := id S1
  obtain ⟨td1, tr⟩ := Z1.temps
  cases td1 with
  | dat r1 =>
    generalize hv1 : v1 = v1' at r1
    cases r1 with
    | @dct a1 kvs1 _ g1 g2 =>
      subst hv1
      refine ⟨a1, rfl, .inl ⟨kvs1, Evl.ex_rd Z1.ex2 g1⟩, h1 B _ σ H1 _ S1 fun v2 H2 d2 n2 env2 ⟨s, hd, h2⟩ S2 => ?_⟩
      subst hd
      refine h2 B _ σ H2 _ S2 fun v3 H3 d3 n3 env3 hq S3 => ?_
      obtain ⟨F3, W3, Z3⟩ := S3
      obtain ⟨td3, td2, td1, tr⟩ := Z3.temps
      cases td3 with
      | dat r3 =>
        cases td2 with
        | dat r2 =>
          cases r2
          cases td1 with
          | dat r1 =>
            obtain ⟨a2, o, e2, g, z⟩ := ex_dget Z3.ex2 s r1
            cases e2
            refine ⟨o, g, ?_⟩
            rcases z with ⟨z1, z2⟩ | ⟨v', d', z1, z2, z3⟩
            · subst z1
              rw [z2] at hq
              exact q v3 H3 d3 n3 env3 hq ⟨F3, W3, Z3.pop.pop.pop.push r3⟩
            · subst z1
              rw [z2] at hq
              exact q v' H3 d' n3 env3 hq ⟨F3, W3, Z3.pop.pop.pop.push z3⟩
/-- o.f of a thing with attributes -/
theorem ev_fld {f : Str} (hc : Cls X.K C) (hn : NoAttr X.K C f) (h : Ev X C a n env fun d n1 env1 => ∃ ks d', d = .obj ks ∧ ks.lookup f = some d' ∧ Q d' n1 env1) (hb : attributeBase a f X.env (eval a X.env) = eval a X.env := by rfl) : Ev X C (.Attribute a f pos) n env Q := fun B ts σ H R S q => by
  refine of_pe (pe_fld pe_t hb) (h B ts σ H _ S fun v1 H1 d1 n1 env1 ⟨ks, d', hd, hl, hq⟩ S1 => ?_)
  subst hd
  obtain ⟨F, W, Z⟩ := S1
  obtain ⟨td, tr⟩ := Z.temps
  cases td with
  | dat r =>
    cases r with
    | @obj a dx fs _ h1 h2 =>
      have look : ∀ {fs : List (Str × V)} {ks : List (Str × D)}, RepF X.K C F fs ks → ks.lookup f = some d' → ∃ v, fs.lookup f = some v ∧ Rep X.K C F v d' := by
        intro fs ks r
        induction ks generalizing fs with
        | nil => intro z; simp at z
        | cons p ks ih =>
          intro z
          cases r with
          | @cons g v d _ _ r1 r2 =>
            cases hg : f == g with
            | true =>
              simp only [List.lookup_cons, hg] at z ⊢
              cases z
              exact ⟨v, rfl, r1⟩
            | false =>
              simp only [List.lookup_cons, hg] at z ⊢
              exact ih r2 z
      obtain ⟨v, g1, g2⟩ := look h2 hl
      exact ⟨a, C, dx, fs, v, rfl, Z.ex2 _ _ h1, hc, hn, g1, q v H1 d' n1 env1 hq ⟨F, W, Z.pop.push g2⟩⟩
end
/-! ## DL3 -/
/-! ### a thing of one's own, only looked at -/
def dOf : Sl → Option D
  | .lst ds => some (.lst ds)
  | .dct ks => some (.dct ks)
  | .dcl ks => some (.dct (ks.map fun p => (p.1, .lst p.2)))
  | _ => none
def hid1 : Sl → Sl
  | .lst _ => .no
  | .dct _ => .no
  | .dcl _ => .no
  | .slf _ _ => .no
  | s => s
def hide (env : En) : En := env.map hid1
section
variable {K : PySem.W.Frag} {C : Addr} {F H : Hp} {W : Addr → Option Tg} {B : Bs} {ts : List (V × TD)} {n : Nat} {env : En} {σ : St}
theorem RepL.dct {F1 : Hp} {t : Tg} (l : LeR K F F1) (hh : ∀ a o, W a = some t → H a = some o → F1 a = some o) : ∀ {kvs : List (Key × V)} {ks : List (Str × List D)} {as : List Addr}, RepL K C F H W t kvs ks as → RepK K C F1 kvs (ks.map fun p => (p.1, .lst p.2))
  | _, _, _, .nil => .nil
  | _, _, _, .cons w h r _ q => .cons (.lst (hh _ _ w h) (Reps.mono l r)) (RepL.dct l hh q)
def Stt.Fi (W : Addr → Option Tg) (F H : Hp) (i : Nat) : Hp := fun b => if W b = some (.sl i) then H b else F b
theorem Stt.borrow {i : Nat} {sl : Sl} {d : D} (S : Stt K C B F W ts n env σ H) (he : env[i]? = some sl) (hd : dOf sl = some d) :
    Stt K C ⟨Stt.Fi W F H i, H, B.p, B.pl⟩ (Stt.Fi W F H i) (fun _ => none) [] n ((hide env).set i (.dat d)) σ H ∧ Ex F (Stt.Fi W F H i) := by
  have fi : ∀ b, W b = some (.sl i) → Stt.Fi W F H i b = H b := fun b h => by unfold Stt.Fi; rw [if_pos h]
  have fo : ∀ b, W b ≠ some (.sl i) → Stt.Fi W F H i b = F b := fun b h => by unfold Stt.Fi; rw [if_neg h]
  have eF : Ex F (Stt.Fi W F H i) := fun b o h => by
    rw [fo b fun z => by rw [(S.own b _ z).1] at h; cases h]
    exact h
  have l : LeR K F (Stt.Fi W F H i) := LeR.of eF
  have hi := (List.getElem?_eq_some_iff.mp he).1
  refine ⟨⟨Ex.refl _, fun b o h => ?_, fun _ _ h _ => h, fun _ _ h => .inl h, fun _ _ h => (by cases h), fun hp => ?_, by simp [hide, S.len], fun j s h => ?_, trivial⟩, eF⟩
  · by_cases z : W b = some (.sl i)
    · rw [fi b z] at h; exact h
    · rw [fo b z] at h; exact S.ex2 b o h
  · obtain ⟨h1, ⟨u, h2⟩, h3⟩ := S.pool hp
    refine ⟨?_, ?_, h3⟩
    · show Stt.Fi W F H i B.p = none
      rw [fo B.p fun z => by rw [(S.own _ _ z).2.1] at h2; cases h2]
      exact h1
    · obtain ⟨x, y, c, hq, _⟩ := h3
      exact ⟨_, hq⟩
  · by_cases e : i = j
    · subst e
      rw [List.getElem?_set_self (by simpa [hide] using hi)] at h
      cases h
      have s := S.slots i sl he
      generalize σ[i]? = o at s
      cases s with
      | lst w g r => cases hd; exact .dat (.lst ((fi _ w).trans g) (Reps.mono l r))
      | dct w g r => cases hd; exact .dat (.dct (.inl ((fi _ w).trans g)) (RepK.mono l r))
      | dcl w g r => cases hd; exact .dat (.dct (.inl ((fi _ w).trans g)) (RepL.dct l (fun a o h1 h2 => (fi a h1).trans h2) r))
      | _ => cases hd
    · rw [List.getElem?_set_ne e] at h
      unfold hide at h
      rw [List.getElem?_map] at h
      cases hs : env[j]? with
      | none => rw [hs] at h; cases h
      | some s0 =>
        rw [hs] at h
        cases h
        have s := S.slots j s0 hs
        cases s0 with
        | no => exact .no _
        | dat d0 =>
          generalize σ[j]? = o at s
          cases s with
          | dat r => exact .dat (r.mono l)
        | pool =>
          generalize σ[j]? = o at s
          cases s with
          | pool hp => exact SlOk.pool (B := ⟨Stt.Fi W F H i, H, B.p, B.pl⟩) hp
        | lst _ => exact .no _
        | dct _ => exact .no _
        | dcl _ => exact .no _
        | slf _ _ => exact .no _
theorem Stt.back {F1 F' H' : Hp} {W' : Addr → Option Tg} {ts' : List (V × TD)} {n' : Nat} {env' : En} {σ' : St} (S : Stt K C B F W ts n env σ H) (e : Ex F F1) (Z : Stt K C ⟨F1, H, B.p, B.pl⟩ F' W' ts' n' env' σ' H') : Stt K C B F W ts n' env σ H' :=
  S.called (Ex.refl F) ((e.trans Z.ex1).trans Z.ex2) (fun a o h z => Z.base a o h z) (fun _ _ h => .inl h) fun hp => ⟨(S.pool hp).1, (Z.pool hp).2.2⟩
end
section
variable {X : Cx} {C : Addr} {k : Nat} {N Vn Ln Gn : List Str} {n : Nat} {env : En} {Q : QE} {QT : QB} {QR' : QR} {QA' : QA} {x y : Str} {p pos : Pos} {e a b c : Expr} {es : List Expr} {d : D} {E : EnD} {st : Stmt} {sts : List Stmt}
/-- an expression that only looks at what slot i holds, and gives something flat -/
theorem ev_look {i : Nat} {sl : Sl} (hi : Lk N env x i sl) (hd : dOf sl = some d) (h : Ev X C e n ((hide env).set i (.dat d)) fun d' n' _ => flatD d' = true ∧ Q d' n' env) : Ev X C e n env Q := fun B ts σ H R S q => by
  obtain ⟨F, W, S⟩ := S
  obtain ⟨Z, eF⟩ := S.borrow hi.ix.2 hd
  refine h _ [] σ H R ⟨_, _, Z⟩ fun v H' d' n' env' ⟨hf, hq⟩ Z' => ?_
  obtain ⟨F', W', Z'⟩ := Z'
  have t := Z'.temps.1
  cases t with
  | dat r =>
    obtain ⟨ev, _⟩ := rep_flat hf r
    have ev : v = flV d' := ev
    have rF : Rep X.K C F v d' := by
      rw [ev]
      cases d' <;> first | exact .non | exact .bl _ | exact .int _ | exact .str _ | exact absurd (show false = true from hf) Bool.false_ne_true
    exact q v H' d' n' env hq ⟨F, W, (S.back eF Z').push rF⟩
theorem evt_look {i : Nat} {sl : Sl} (hi : Lk N env x i sl) (hd : dOf sl = some d) (h : EvT X C e n ((hide env).set i (.dat d)) fun k n' _ => QT k n' env) : EvT X C e n env QT := fun B ts σ H R S q => by
  obtain ⟨F, W, S⟩ := S
  obtain ⟨Z, eF⟩ := S.borrow hi.ix.2 hd
  refine h _ [] σ H R ⟨_, _, Z⟩ fun kk H' n' env' hq Z' => ?_
  obtain ⟨F', W', Z'⟩ := Z'
  exact q kk H' n' env hq ⟨F, W, S.back eF Z'⟩
/-! ### methods that change a list of one's own -/
theorem meth_few (cpos : Pos) : True := trivial
theorem ev_append {i : Nat} {apos cpos : Pos} {ds0 : List D} (hX : XOk X k N Vn Ln Gn) (hl : Lk N env x i (.lst ds0)) (hv : x ∈ Vn) (h : Ev X C e n env fun d n1 env1 => ∃ ds, env1[i]? = some (.lst ds) ∧ ds.length < 100000 ∧ Q .non n1 (env1.set i (.lst (ds ++ [d]))))
    (hbase : attributeBase (.Name x p) "append" X.env (eval (.Name x p) X.env) = eval (.Name x p) X.env := by rfl)
    (hfew : ((backTo cpos (starEach [e] X.env)).all (fun x => !x.1) && (backToKw cpos (keywordEach [] X.env)).all (fun x => x.1.isSome) && decide ([e].length + ([] : List Keyword).length + (if ([] : List Keyword).isEmpty then 0 else 1) < 30)) = true := by rfl)
    (hline : (apos.endLine == cpos.line) = true := by rfl) (hs : starEach [e] X.env = (false, eval e X.env) :: starEach [] X.env := by rfl) (hplain : (backTo cpos (starEach [] X.env)).any (·.1) = false := by rfl) : Ev X C (.Call (.Attribute (.Name x p) "append" apos) [e] [] cpos) n env Q := fun B ts σ H R S q => by
  obtain ⟨h1, h2⟩ := hl.ix
  obtain ⟨v1, v2, v3⟩ := hX.vis x hv
  refine of_pe (pe_bm PySem.F.plainAttrs_list PySem.F.slot_list_append PySem.F.type_list_append mt_append (pe_var (hX.get h1) v1 v2 v3) (pa_cons pe_t pa_nil hs) hbase hfew hline hs hplain) ?_
  obtain ⟨F, W, S0⟩ := id S
  have s := S0.slots i _ h2
  generalize hx : σ[i]? = o at s
  cases s with
  | @lst a0 vs0 _ w0 g0 r0 =>
    refine ⟨.ref a0, hx, .inl ⟨rfl, _, SqL.of g0⟩, h B ts σ H _ S fun v H1 d n1 env1 ⟨ds, he, hz, hq⟩ S1 => ?_⟩
    obtain ⟨F1, W1, S1⟩ := S1
    have s := S1.slots i _ he
    rw [hx] at s
    cases s with
    | @lst a1 vs1 _ w1 g1 r1 =>
      have t := S1.temps.1
      cases t with
      | dat rp =>
        refine ⟨a0, vs1, v, rfl, rfl, g1, Nat.lt_of_lt_of_le (by rw [r1.length]; exact hz) (by decide), ?_⟩
        refine q .non _ .non n1 _ hq ⟨F1, W1, (S1.pop.change w1 ?_).push .non⟩
        rw [hx]
        exact .lst w1 upd_same (r1.append (.one rp))
theorem ev_extend {i : Nat} {apos cpos : Pos} {ds0 : List D} (hX : XOk X k N Vn Ln Gn) (hl : Lk N env x i (.lst ds0)) (hv : x ∈ Vn) (h : Ev X C e n env fun d n1 env1 => ∃ ds es, d = .lst es ∧ env1[i]? = some (.lst ds) ∧ ds.length + es.length ≤ 100000 ∧ Q .non n1 (env1.set i (.lst (ds ++ es))))
    (hbase : attributeBase (.Name x p) "extend" X.env (eval (.Name x p) X.env) = eval (.Name x p) X.env := by rfl)
    (hfew : ((backTo cpos (starEach [e] X.env)).all (fun x => !x.1) && (backToKw cpos (keywordEach [] X.env)).all (fun x => x.1.isSome) && decide ([e].length + ([] : List Keyword).length + (if ([] : List Keyword).isEmpty then 0 else 1) < 30)) = true := by rfl)
    (hline : (apos.endLine == cpos.line) = true := by rfl) (hs : starEach [e] X.env = (false, eval e X.env) :: starEach [] X.env := by rfl) (hplain : (backTo cpos (starEach [] X.env)).any (·.1) = false := by rfl) : Ev X C (.Call (.Attribute (.Name x p) "extend" apos) [e] [] cpos) n env Q := fun B ts σ H R S q => by
  obtain ⟨h1, h2⟩ := hl.ix
  obtain ⟨v1, v2, v3⟩ := hX.vis x hv
  refine of_pe (pe_bm PySem.F.plainAttrs_list PySem.F.slot_list_extend PySem.F.type_list_extend mt_extend (pe_var (hX.get h1) v1 v2 v3) (pa_cons pe_t pa_nil hs) hbase hfew hline hs hplain) ?_
  obtain ⟨F, W, S0⟩ := id S
  have s := S0.slots i _ h2
  generalize hx : σ[i]? = o at s
  cases s with
  | @lst a0 vs0 _ w0 g0 r0 =>
    refine ⟨.ref a0, hx, .inl ⟨rfl, _, SqL.of g0⟩, h B ts σ H _ S fun v H1 d n1 env1 ⟨ds, es, hd, he, hz, hq⟩ S1 => ?_⟩
    subst hd
    obtain ⟨F1, W1, S1⟩ := S1
    have s := S1.slots i _ he
    rw [hx] at s
    cases s with
    | @lst a1 vs1 _ w1 g1 r1 =>
      have t := S1.temps.1
      cases t with
      | dat rp =>
        cases rp with
        | @lst b1 ws _ g2 r2 =>
          refine ⟨a0, b1, vs1, ws, rfl, rfl, g1, S1.ex2 _ _ g2, by rw [r1.length, r2.length]; exact small_line hz, ?_⟩
          refine q .non _ .non n1 _ hq ⟨F1, W1, (S1.pop.change w1 ?_).push .non⟩
          rw [hx]
          exact .lst w1 upd_same (r1.append r2)
theorem ev_popAt {i : Nat} {apos cpos : Pos} {ds0 : List D} (hX : XOk X k N Vn Ln Gn) (hl : Lk N env x i (.lst ds0)) (hv : x ∈ Vn) (h : Ev X C e n env fun d n1 env1 => ∃ ds j d', d = .int ((j : Nat) : Int) ∧ env1[i]? = some (.lst ds) ∧ ds[j]? = some d' ∧ ds.length ≤ 100000 ∧ Q d' n1 (env1.set i (.lst (ds.eraseIdx j))))
    (hbase : attributeBase (.Name x p) "pop" X.env (eval (.Name x p) X.env) = eval (.Name x p) X.env := by rfl)
    (hfew : ((backTo cpos (starEach [e] X.env)).all (fun x => !x.1) && (backToKw cpos (keywordEach [] X.env)).all (fun x => x.1.isSome) && decide ([e].length + ([] : List Keyword).length + (if ([] : List Keyword).isEmpty then 0 else 1) < 30)) = true := by rfl)
    (hline : (apos.endLine == cpos.line) = true := by rfl) (hs : starEach [e] X.env = (false, eval e X.env) :: starEach [] X.env := by rfl) (hplain : (backTo cpos (starEach [] X.env)).any (·.1) = false := by rfl) : Ev X C (.Call (.Attribute (.Name x p) "pop" apos) [e] [] cpos) n env Q := fun B ts σ H R S q => by
  obtain ⟨h1, h2⟩ := hl.ix
  obtain ⟨v1, v2, v3⟩ := hX.vis x hv
  refine of_pe (pe_bm PySem.F.plainAttrs_list PySem.F.slot_list_pop PySem.F.type_list_pop mt_popAt (pe_var (hX.get h1) v1 v2 v3) (pa_cons pe_t pa_nil hs) hbase hfew hline hs hplain) ?_
  obtain ⟨F, W, S0⟩ := id S
  have s := S0.slots i _ h2
  generalize hx : σ[i]? = o at s
  cases s with
  | @lst a0 vs0 _ w0 g0 r0 =>
    refine ⟨.ref a0, hx, .inl ⟨rfl, _, SqL.of g0⟩, h B ts σ H _ S fun v H1 d n1 env1 ⟨ds, j, d', hd, he, hj, hz, hq⟩ S1 => ?_⟩
    subst hd
    obtain ⟨F1, W1, S1⟩ := S1
    have s := S1.slots i _ he
    rw [hx] at s
    cases s with
    | @lst a1 vs1 _ w1 g1 r1 =>
      have t := S1.temps.1
      cases t with
      | dat rp =>
        cases rp
        obtain ⟨y, hy, ry⟩ := r1.get hj
        have jl : j < vs1.length := (List.getElem?_eq_some_iff.mp hy).1
        refine ⟨a0, vs1, (j : Int), j, y, rfl, rfl, g1, by omega, ?_, ?_, hy, ?_⟩
        · have := r1.length; omega
        · exact PySem.StrLaws.seqIndex_nonneg (by omega) (by omega)
        · refine q y _ d' n1 _ hq ⟨F1, W1, (S1.pop.change w1 ?_).push ry⟩
          rw [hx]
          exact .lst w1 upd_same (r1.eraseIdx j)
end
/-! ## DL4 -/
section
variable {X : Cx} {C : Addr} {k : Nat} {N Vn Ln Gn : List Str} {n : Nat} {env : En} {Q : QE} {QT : QB} {QR' : QR} {QA' : QA} {x y z : Str} {p pos pos' : Pos} {e a b c : Expr} {es : List Expr} {d : D} {E : EnD} {st : Stmt} {sts : List Stmt} {td : TD} {QG : QN}
/-! ### blocks and statements -/
theorem stb_nil (q : E.nx n env) : StB X C [] n env E := fun B ts σ H Z S h1 _ _ _ => of_pss pss_nil (h1 n env σ H q S)
theorem stb_cons (h : StS X C st n env { E with nx := fun n' env' => StB X C sts n' env' E }) : StB X C (st :: sts) n env E := fun B ts σ H Z S h1 h2 h3 h4 =>
  of_pss (pss_cons ps_t pss_t) (h B ts σ H _ S (fun n' env' σ' H' q S' => q B ts σ' H' Z S' h1 h2 h3 h4) h2 h3 h4)
theorem stb_one (h : StS X C st n env E) : StB X C [st] n env E := fun B ts σ H Z S h1 h2 h3 h4 => of_pss (pss_one ps_t) (h B ts σ H Z S h1 h2 h3 h4)
/-- ghost steps -/
theorem stb_frzL {i : Nat} {ds : List D} (hl : Lk N env x i (.lst ds)) (h : StB X C sts n (env.set i (.dat (.lst ds))) E) : StB X C sts n env E := fun B ts σ H Z S h1 h2 h3 h4 => by
  obtain ⟨F, W, S⟩ := S
  obtain ⟨F', W', v, _, S'⟩ := S.frzL hl.ix.2
  exact h B ts σ H Z ⟨F', W', S'.pop⟩ h1 h2 h3 h4
theorem stb_frzK {i : Nat} {ks : List (Str × D)} (hl : Lk N env x i (.dct ks)) (h : StB X C sts n (env.set i (.dat (.dct ks))) E) : StB X C sts n env E := fun B ts σ H Z S h1 h2 h3 h4 => by
  obtain ⟨F, W, S⟩ := S
  obtain ⟨F', W', v, _, S'⟩ := S.frzK hl.ix.2
  exact h B ts σ H Z ⟨F', W', S'.pop⟩ h1 h2 h3 h4
theorem stb_forget (i : Nat) (h : StB X C sts n (env.set i .no) E) : StB X C sts n env E := fun B ts σ H Z S h1 h2 h3 h4 => by
  obtain ⟨F, W, S⟩ := S
  exact h B ts σ H Z ⟨F, W, S.forget1⟩ h1 h2 h3 h4
theorem sts_forget (i : Nat) (h : StS X C st n (env.set i .no) E) : StS X C st n env E := fun B ts σ H Z S h1 h2 h3 h4 => by
  obtain ⟨F, W, S⟩ := S
  exact h B ts σ H Z ⟨F, W, S.forget1⟩ h1 h2 h3 h4
theorem StS.imp {E' : EnD} (h : StS X C st n env E') (h1 : ∀ n env, E'.nx n env → E.nx n env) (h2 : ∀ d n, E'.rt d n → E.rt d n) (h3 : ∀ n env, E'.bk n env → E.bk n env) (h4 : ∀ n env, E'.ct n env → E.ct n env) : StS X C st n env E := fun B ts σ H Z S q1 q2 q3 q4 =>
  h B ts σ H Z S (fun n env σ H z => q1 n env σ H (h1 n env z)) (fun d n v H z => q2 d n v H (h2 d n z)) (fun n env σ H z => q3 n env σ H (h3 n env z)) (fun n env σ H z => q4 n env σ H (h4 n env z))
theorem StB.imp {E' : EnD} (h : StB X C sts n env E') (h1 : ∀ n env, E'.nx n env → E.nx n env) (h2 : ∀ d n, E'.rt d n → E.rt d n) (h3 : ∀ n env, E'.bk n env → E.bk n env) (h4 : ∀ n env, E'.ct n env → E.ct n env) : StB X C sts n env E := fun B ts σ H Z S q1 q2 q3 q4 =>
  h B ts σ H Z S (fun n env σ H z => q1 n env σ H (h1 n env z)) (fun d n v H z => q2 d n v H (h2 d n z)) (fun n env σ H z => q3 n env σ H (h3 n env z)) (fun n env σ H z => q4 n env σ H (h4 n env z))
theorem StB.less {m : Nat} (h : StB X C sts m env E) (hm : m ≤ n) : StB X C sts n env E := fun B ts σ H Z S => h B ts σ H Z (S.less hm)
theorem st_pass (q : E.nx n env) : StS X C (.Pass pos) n env E := fun B ts σ H Z S h1 _ _ _ => of_ps ps_pass (h1 n env σ H q S)
theorem st_never {st : Stmt} (h : False) : StS X C st n env E := h.elim
theorem st_expr (h : Ev X C e n env fun _ n' env' => E.nx n' env') (hs : swapsWith e none pos.line X.env = pure false := by rfl) : StS X C (.Expr e pos) n env E := fun B ts σ H Z S h1 _ _ _ =>
  of_ps (ps_expr pe_t hs) (h B ts σ H _ S fun v H' d n' env' q S' => h1 n' env' σ H' q S'.pop)
theorem st_ret (h : Ev X C e n env fun d n' _ => E.rt d n') : StS X C (.Return (some e) pos) n env E := fun B ts σ H Z S _ h2 _ _ =>
  of_ps (ps_ret pe_t) (h B ts σ H _ S fun v H' d n' env' q S' => h2 d n' v H' q S'.ret)
theorem st_if {t f : List Stmt} (h : EvT X C c n env fun k n' env' => if k = true then StB X C t n' env' E else StB X C f n' env' E) : StS X C (.If c t f pos) n env E := fun B ts σ H Z S h1 h2 h3 h4 => by
  refine of_ps (ps_if pt_t pss_t pss_t) (h B ts σ H _ S fun kk H' n' env' q S' => ?_)
  cases kk with
  | true => simp only [if_true] at q ⊢; exact q B ts σ H' Z S' h1 h2 h3 h4
  | false => simp only [Bool.false_eq_true, if_false] at q ⊢; exact q B ts σ H' Z S' h1 h2 h3 h4
/-- name = e -/
theorem st_set {i : Nat} (hX : XOk X k N Vn Ln Gn) (hi : Ix N x i) (hl : x ∈ Ln) (h : EvR X C e n env fun td n' env' => E.nx n' (env'.set i td.sl)) (hs : swapsWith e (some (.Name x pos')) pos.line X.env = pure false := by rfl) : StS X C (.Assign [.Name x pos'] e pos) n env E := fun B ts σ H Z S h1 _ _ _ => by
  have nd : X.N.Nodup := by rw [hX.hN]; exact hX.nd
  obtain ⟨l1, l2⟩ := hX.loc x hl
  refine of_ps (ps_set nd (hX.get hi.get) l1 pe_t hs l2) (h B ts σ H _ S fun v H' td n' env' q S' => ?_)
  obtain ⟨F, W, S'⟩ := S'
  obtain ⟨W', S''⟩ := S'.setF (i := i)
  exact h1 n' _ _ H' q ⟨F, W', S''⟩
/-! ### targets -/
theorem eg_name {i : Nat} (hX : XOk X k N Vn Ln Gn) (hi : Ix N x i) (hl : x ∈ Ln) (q : QG n (env.set i td.sl)) : EvG X C (.Name x pos) td n env QG := fun B ts v σ H R S r => by
  have nd : X.N.Nodup := by rw [hX.hN]; exact hX.nd
  obtain ⟨l1, l2⟩ := hX.loc x hl
  obtain ⟨F, W, S⟩ := S
  obtain ⟨W', S'⟩ := S.setF (i := i)
  exact of_pg (pg_name nd (hX.get hi.get) l1 l2) (r n _ _ H q ⟨F, W', S'⟩)
theorem egs_nil (q : QG n env) : EvGs X C [] [] n env QG := fun B ts vs σ H R hl S r => by
  cases vs with
  | nil => exact of_pgs pgs_nil ⟨rfl, r n env σ H q S⟩
  | cons v vs => simp at hl
/-- the pile seen from the other end -/
theorem egs_cons {ds : List D} (hm : ∀ (Q1 Q2 : QN), (∀ n env, Q1 n env → Q2 n env) → ∀ n env, EvG X C e (.dat d) n env Q1 → EvG X C e (.dat d) n env Q2) (h : EvG X C e (.dat d) n env fun n1 env1 => EvGs X C es ds n1 env1 QG) (hs : (assignEach (e :: es) X.env).map (·.2) = assign e X.env :: (assignEach es X.env).map (·.2) := by rfl) : EvGs X C (e :: es) (d :: ds) n env QG := fun B ts vs σ H R hl S r => by
  cases vs with
  | nil => simp at hl
  | cons v vs =>
    have hl' : vs.length = ds.length := by simpa using hl
    refine of_pgs (pgs_cons pg_t pgs_t hs) ⟨v, vs, rfl, ?_⟩
    -- put v on the top again
    obtain ⟨F, W, S⟩ := S
    have S : Stt X.K C B F W (stk vs (ds.map .dat) ((v, .dat d) :: ts)) n env σ H := S
    obtain ⟨rs, S0⟩ := S.unstk hl'
    have t := S0.temps.1
    cases t with
    | dat rv =>
      have S1 : Stt X.K C B F W ((v, .dat d) :: stk vs (ds.map .dat) ts) n env σ H := by
        have pushAll : ∀ {ws : List V} {es : List D} {us : List (V × TD)}, ws.length = es.length → Reps X.K C F ws es → Stt X.K C B F W us n env σ H → Stt X.K C B F W (stk ws (es.map .dat) us) n env σ H := by
          intro ws
          induction ws with
          | nil => intro es us hl r S; cases r; exact S
          | cons w ws ih =>
            intro es us hl r S
            cases r with
            | cons r1 r2 => exact ih (by simpa using hl) r2 (S.push r1)
        exact (pushAll hl' rs S0.pop).push rv
      refine h B _ v σ H _ ⟨F, W, S1⟩ fun n1 env1 σ1 H1 h1 S2 => h1 B ts vs σ1 H1 R hl' S2 r
theorem egs_name {i : Nat} {ds : List D} (hX : XOk X k N Vn Ln Gn) (hi : Ix N x i) (hl : x ∈ Ln) (h : EvGs X C es ds n (env.set i (.dat d)) QG) (hs : (assignEach ((.Name x pos) :: es) X.env).map (·.2) = assign (.Name x pos) X.env :: (assignEach es X.env).map (·.2) := by rfl) : EvGs X C ((.Name x pos) :: es) (d :: ds) n env QG :=
  egs_cons (fun Q1 Q2 hq n env g B ts v σ H R S r => g B ts v σ H R S fun n' env' σ' H' q S' => r n' env' σ' H' (hq _ _ q) S') (eg_name (td := .dat d) hX hi hl h) hs
theorem eg_tup {es : List Expr} {kk : Nat} {ds : List D} (hX : XOk X k N Vn Ln Gn) (h : EvGs X C es ds n env QG) (hn : (assignEach es X.env).length = ds.length := by rfl) (hst : (assignEach es X.env).findIdx? (·.1) = none := by rfl) : EvG X C (.Tuple es kk pos) (.dat (.tup ds)) n env QG := fun B ts v σ H R S r => by
  obtain ⟨F, W, S⟩ := S
  have t := S.temps.1
  generalize hv : v = v' at t
  cases t with
  | dat rp =>
    have rp : Rep X.K C F v' (.tup ds) := rp
    cases rp with
    | @tup a vs _ h1 h2 =>
      subst hv
      refine of_pg (pg_tup hX.calm pgs_t hn hst) ⟨a, vs, rfl, SqT.of (S.ex2 _ _ h1), h2.length, ?_⟩
      have pushAll : ∀ {ws : List V} {es : List D} {us : List (V × TD)}, Reps X.K C F ws es → Stt X.K C B F W us n env σ H → Stt X.K C B F W (stk ws (es.map .dat) us) n env σ H := by
        intro ws
        induction ws with
        | nil => intro es us r S; cases r; exact S
        | cons w ws ih =>
          intro es us r S
          cases r with
          | cons r1 r2 => exact ih r2 (S.push r1)
      exact h B ts vs σ H R h2.length ⟨F, W, pushAll h2 S.pop⟩ r
/-- target = e, for a target of another kind (a tuple of names ..) -/
theorem st_asg {tg : Expr} (h : EvR X C e n env fun td n' env' => EvG X C tg td n' env' E.nx) (hs : swapsWithSole [tg] e pos.line X.env = pure false := by rfl) (hw : swappedStores [tg] e X.env = pure none := by rfl)
    (h1 : (assignEach [tg] X.env).map (·.2) = [assign tg X.env] := by rfl) : StS X C (.Assign [tg] e pos) n env E := fun B ts σ H Z S q1 _ _ _ =>
  of_ps (ps_asg pe_t pg_t hs hw h1) (h B ts σ H _ S fun v H' td n' env' hg S' => hg B ts v σ H' _ S' q1)
/-- a, b = e1, e2 -/
theorem Stt.set2 {K : PySem.W.Frag} {B : Bs} {F H : Hp} {W : Addr → Option Tg} {ts : List (V × TD)} {σ : St} {i j : Nat} {v w : V} {td1 td2 : TD} (hij : i ≠ j) (S : Stt K C B F W ((w, td2) :: (v, td1) :: ts) n env σ H) : ∃ W', Stt K C B F W' ts n ((env.set i td1.sl).set j td2.sl) ((σ.set i (some v)).set j (some w)) H := by
  obtain ⟨W1, S1⟩ := S.setF (i := j)
  obtain ⟨W2, S2⟩ := S1.setF (i := i)
  rw [List.set_comm _ _ (Ne.symm hij), List.set_comm _ _ (Ne.symm hij)] at S2
  exact ⟨W2, S2⟩
theorem st_par2 {i j : Nat} {px py pt : Pos} {kt k2 : Nat} {pt2 : Pos} (hX : XOk X k N Vn Ln Gn) (hi : Ix N x i) (hj : Ix N y j) (hij : i ≠ j) (hx : X.env.scope.names.lookup x = some .local) (hy : X.env.scope.names.lookup y = some .local)
    (h : EvR X C a n env fun td1 n1 env1 => EvR X C b n1 env1 fun td2 n2 env2 => E.nx n2 ((env2.set i td1.sl).set j td2.sl))
    (hw : swappedStores [.Tuple [.Name x px, .Name y py] kt pt] (.Tuple [a, b] k2 pt2) X.env = pure (some [x, y]))
    (hs : swapsWithSole [.Tuple [.Name x px, .Name y py] kt pt] (.Tuple [a, b] k2 pt2) pos.line X.env = pure false := by rfl)
    (hs1 : starEach [a, b] X.env = (false, eval a X.env) :: starEach [b] X.env := by rfl) (hs2 : starEach [b] X.env = (false, eval b X.env) :: starEach [] X.env := by rfl) :
    StS X C (.Assign [.Tuple [.Name x px, .Name y py] kt pt] (.Tuple [a, b] k2 pt2) pos) n env E := fun B ts σ H Z S h1 _ _ _ => by
  have nd : X.N.Nodup := by rw [hX.hN]; exact hX.nd
  refine of_ps (ps_par hX.calm nd (hX.get hi.get) (hX.get hj.get) hij hx hy (pa_cons pe_t (pa_cons pe_t pa_nil hs2) hs1) hw hs) ?_
  refine h B ts σ H _ S fun v1 H1 td1 n1 env1 h2 S1 => h2 B _ σ H1 _ S1 fun v2 H2 td2 n2 env2 q S2 => ?_
  obtain ⟨F, W, S2⟩ := S2
  obtain ⟨W', S3⟩ := S2.set2 hij
  exact ⟨v1, v2, rfl, h1 n2 _ _ H2 q ⟨F, W', S3⟩⟩
theorem st_par3 {i j l : Nat} {px py pz pt : Pos} {kt k2 : Nat} {pt2 : Pos} (hX : XOk X k N Vn Ln Gn) (hi : Ix N x i) (hj : Ix N y j) (hl : Ix N z l) (hij : i ≠ j) (hil : i ≠ l) (hjl : j ≠ l) (hx : X.env.scope.names.lookup x = some .local) (hy : X.env.scope.names.lookup y = some .local) (hz : X.env.scope.names.lookup z = some .local)
    (h : EvR X C a n env fun td1 n1 env1 => EvR X C b n1 env1 fun td2 n2 env2 => EvR X C c n2 env2 fun td3 n3 env3 => E.nx n3 (((env3.set i td1.sl).set j td2.sl).set l td3.sl))
    (hw : swappedStores [.Tuple [.Name x px, .Name y py, .Name z pz] kt pt] (.Tuple [a, b, c] k2 pt2) X.env = pure (some [x, y, z]))
    (hs : swapsWithSole [.Tuple [.Name x px, .Name y py, .Name z pz] kt pt] (.Tuple [a, b, c] k2 pt2) pos.line X.env = pure false := by rfl)
    (hs1 : starEach [a, b, c] X.env = (false, eval a X.env) :: starEach [b, c] X.env := by rfl) (hs2 : starEach [b, c] X.env = (false, eval b X.env) :: starEach [c] X.env := by rfl) (hs3 : starEach [c] X.env = (false, eval c X.env) :: starEach [] X.env := by rfl) :
    StS X C (.Assign [.Tuple [.Name x px, .Name y py, .Name z pz] kt pt] (.Tuple [a, b, c] k2 pt2) pos) n env E := fun B ts σ H Z S h1 _ _ _ => by
  have nd : X.N.Nodup := by rw [hX.hN]; exact hX.nd
  refine of_ps (ps_par3 hX.calm nd (hX.get hi.get) (hX.get hj.get) (hX.get hl.get) hij hil hjl hx hy hz (pa_cons pe_t (pa_cons pe_t (pa_cons pe_t pa_nil hs3) hs2) hs1) hw hs) ?_
  refine h B ts σ H _ S fun v1 H1 td1 n1 env1 h2 S1 => h2 B _ σ H1 _ S1 fun v2 H2 td2 n2 env2 h3 S2 => h3 B _ σ H2 _ S2 fun v3 H3 td3 n3 env3 q S3 => ?_
  obtain ⟨F, W, S3⟩ := S3
  obtain ⟨W1, S4⟩ := S3.setF (i := l)
  obtain ⟨W2, S5⟩ := S4.set2 hij
  rw [List.set_comm (i := l) (j := i) _ _ (Ne.symm hil), List.set_comm (i := l) (j := j) _ _ (Ne.symm hjl), List.set_comm (i := l) (j := i) _ _ (Ne.symm hil), List.set_comm (i := l) (j := j) _ _ (Ne.symm hjl)] at S5
  exact ⟨v1, v2, v3, rfl, h1 n3 _ _ H3 q ⟨F, W2, S5⟩⟩

/-! ### what is walked -/
def tI (X : Cx) (tg iter : Expr) : TI := fun σ H R => ∀ (pins : List (Addr × Obj)) (s : Shared), Inv X pins σ H s → wpAny (model X.prog X.w) X.A (eval iter X.env) (fun v s1 => wpAny (model X.prog X.w) X.A (pyIter v) (PIE X pins σ tg R) X.xe s1) X.xe s
theorem pi_t {tg iter : Expr} : PI X tg iter (tI X tg iter) := ⟨fun pins s σ H R I h => h pins s I⟩
theorem of_pi {tg iter : Expr} {t : TI} {σ : St} {H : Hp} {R : It → Hp → Prop} (h : PI X tg iter t) (q : t σ H R) : tI X tg iter σ H R := fun pins s I => h.run pins s σ H R I q
/-- J gives ds, one behind another, whatever happens but to ts -/
structure ItOk (K : PySem.W.Frag) (C : Addr) (B : Bs) (ts : List (V × TD)) (J : It) (ds : List D) : Prop where
  item : ∀ (us : List (V × TD)) (i : Nat) d n env σ H, ds[i]? = some d → Sta K C B (us ++ ts) n env σ H → J.go i H ∧ ∀ v H', J.yld i H v H' → Sta K C B ((v, .dat d) :: (us ++ ts)) n env σ H'
  stop : ∀ (us : List (V × TD)) n env σ H, Sta K C B (us ++ ts) n env σ H → J.stop ds.length H
abbrev QI := List D → Nat → En → Prop
def EvI (X : Cx) (C : Addr) (tg iter : Expr) (n : Nat) (env : En) (Q : QI) : Prop := ∀ B ts σ H (R : It → Hp → Prop), Sta X.K C B ts n env σ H →
  (∀ J H' ds us n' env', Q ds n' env' → Sta X.K C B (us ++ ts) n' env' σ H' → ItOk X.K C B (us ++ ts) J ds → R J H') → tI X tg iter σ H R
theorem ei_list {tg iter : Expr} {QI' : QI} (h : Ev X C iter n env fun d n' env' => ∃ ds, itemsD d = some ds ∧ QI' ds n' env') : EvI X C tg iter n env QI' := fun B ts σ H R S q => by
  refine of_pi (pi_list pe_t) (h B ts σ H _ S fun v H1 d n1 env1 ⟨ds, hd, hq⟩ S1 => ?_)
  obtain ⟨F, W, Z⟩ := id S1
  have t := Z.temps.1
  cases t with
  | dat rp =>
    obtain ⟨a, vs, rfl, hs, hr⟩ := rep_items Z.ex2 rp hd
    refine ⟨a, rfl, ⟨vs, hs⟩, q _ H1 ds [(.ref a, .dat d)] n1 env1 hq S1 ⟨fun us' i d' n env σ H hi S2 => ?_, fun us' n env σ H S2 => ?_⟩⟩
    · obtain ⟨F2, W2, Z2⟩ := S2
      have t := Z2.drop.temps.1
      cases t with
      | dat rp2 =>
        obtain ⟨a2, vs2, e2, hs2, hr2⟩ := rep_items Z2.ex2 rp2 hd
        cases e2
        obtain ⟨v, hv, rv⟩ := hr2.get hi
        refine ⟨⟨vs2, v, hs2, hv⟩, fun w H' ⟨e1, hw⟩ => ?_⟩
        subst e1
        have e3 := hw vs2 hs2
        rw [hv] at e3
        cases e3
        exact ⟨F2, W2, Z2.push rv⟩
    · obtain ⟨F2, W2, Z2⟩ := S2
      have t := Z2.drop.temps.1
      cases t with
      | dat rp2 =>
        obtain ⟨a2, vs2, e2, hs2, hr2⟩ := rep_items Z2.ex2 rp2 hd
        cases e2
        exact ⟨vs2, hs2, Nat.le_of_eq hr2.length⟩
theorem ei_tup {tg iter : Expr} {QI' : QI} (h : Ev X C iter n env fun d n' env' => ∃ ds, d = .tup ds ∧ QI' ds n' env') : EvI X C tg iter n env QI' := fun B ts σ H R S q => by
  refine of_pi (pi_tup pe_t) (h B ts σ H _ S fun v H1 d n1 env1 ⟨ds, hd, hq⟩ S1 => ?_)
  subst hd
  obtain ⟨F, W, Z⟩ := id S1
  have t := Z.temps.1
  generalize hv : v = v' at t
  cases t with
  | dat rp =>
    have rp : Rep X.K C F v' (.tup ds) := rp
    cases rp with
    | @tup a vs _ g1 hr =>
      subst hv
      refine ⟨a, rfl, ⟨vs, SqT.of (Z.ex2 _ _ g1)⟩, q _ H1 ds [(.ref a, .dat (.tup ds))] n1 env1 hq S1 ⟨fun us' i d' n env σ H hi S2 => ?_, fun us' n env σ H S2 => ?_⟩⟩
      · obtain ⟨F2, W2, Z2⟩ := S2
        have t := Z2.drop.temps.1
        cases t with
        | dat rp2 =>
          have rp2 : Rep X.K C F2 (.ref a) (.tup ds) := rp2
          cases rp2 with
          | @tup _ vs2 _ g2 hr2 =>
            obtain ⟨v, hv, rv⟩ := hr2.get hi
            refine ⟨⟨vs2, v, SqT.of (Z2.ex2 _ _ g2), hv⟩, fun w H' ⟨e1, hw⟩ => ?_⟩
            subst e1
            have e3 := hw vs2 (SqT.of (Z2.ex2 _ _ g2))
            rw [hv] at e3
            cases e3
            exact ⟨F2, W2, Z2.push rv⟩
      · obtain ⟨F2, W2, Z2⟩ := S2
        have t := Z2.drop.temps.1
        cases t with
        | dat rp2 =>
          have rp2 : Rep X.K C F2 (.ref a) (.tup ds) := rp2
          cases rp2 with
          | @tup _ vs2 _ g2 hr2 => exact ⟨vs2, SqT.of (Z2.ex2 _ _ g2), Nat.le_of_eq hr2.length⟩
/-- a text, sign by sign -/
def signsD (z : Str) : List D := z.cps.toList.map fun c => .str ⟨#[c]⟩
theorem ei_str {tg iter : Expr} {QI' : QI} (h : Ev X C iter n env fun d n' env' => ∃ z, d = .str z ∧ QI' (signsD z) n' env') : EvI X C tg iter n env QI' := fun B ts σ H R S q => by
  refine of_pi (pi_str pe_t) (h B ts σ H _ S fun v H1 d n1 env1 ⟨z, hd, hq⟩ S1 => ?_)
  subst hd
  obtain ⟨F, W, Z⟩ := id S1
  have t := Z.temps.1
  generalize hv : v = v' at t
  cases t with
  | dat rp =>
    have rp : Rep X.K C F v' (.str z) := rp
    cases rp
    subst hv
    have hl : (signsD z).length = z.cps.size := by unfold signsD; rw [List.length_map, Array.length_toList]
    refine ⟨z, rfl, q _ H1 (signsD z) [] n1 env1 hq S1.pop ⟨fun us' i d' n env σ H hi S2 => ?_, fun us' n env σ H S2 => ?_⟩⟩
    · have hi2 : i < z.cps.size := by have := (List.getElem?_eq_some_iff.mp hi).1; omega
      refine ⟨hi2, fun w H' ⟨e1, c, hc, ew⟩ => ?_⟩
      subst e1 ew
      have : d' = .str ⟨#[c]⟩ := by
        unfold signsD at hi
        rw [List.getElem?_map, Array.getElem?_toList, hc] at hi
        exact (Option.some.inj hi).symm
      subst this
      obtain ⟨F2, W2, Z2⟩ := S2
      exact ⟨F2, W2, Z2.push (.str _)⟩
    · show z.cps.size ≤ (signsD z).length
      omega
/-- range(a, b), range(a) -/
def rangeD (lo : Int) (m : Nat) : List D := (List.range m).map fun (i : Nat) => D.int (lo + (i : Int))
theorem itr_ok {K : PySem.W.Frag} {B : Bs} {ts : List (V × TD)} {lo : Int} {m : Nat} : ItOk K C B ts (Itr lo m) (rangeD lo m) := by
  have hl : (rangeD lo m).length = m := by unfold rangeD; rw [List.length_map, List.length_range]
  refine ⟨fun us' i d n env σ H hi S => ?_, fun us' n env σ H S => ?_⟩
  · have hi2 : i < m := by have := (List.getElem?_eq_some_iff.mp hi).1; omega
    refine ⟨hi2, fun v H' ⟨e1, e2⟩ => ?_⟩
    subst e1 e2
    have : d = .int (lo + (i : Int)) := by
      unfold rangeD at hi
      rw [List.getElem?_map, List.getElem?_range hi2] at hi
      exact (Option.some.inj hi).symm
    subst this
    obtain ⟨F2, W2, Z2⟩ := S
    exact ⟨F2, W2, Z2.push (.int _)⟩
  · show m ≤ (rangeD lo m).length
    omega
theorem ei_range1 {tg : Expr} {QI' : QI} (hX : XOk X k N Vn Ln Gn) (hg : ("range" : Str) ∈ Gn) (hm : X.mg "range" = none) (h : Ev X C a n env fun d n' env' => ∃ j : Int, d = .int j ∧ -100000 ≤ j ∧ j ≤ 100000 ∧ QI' (rangeD 0 j.toNat) n' env') (hs : starEach [a] X.env = [(false, eval a X.env)] := by rfl) : EvI X C tg (.Call (.Name "range" p) [a] [] pos) n env QI' := fun B ts σ H R S q => by
  refine of_pi (pi_range1 (hX.gl _ hg).1 hm (pa_cons pe_t pa_nil hs) hs) (h B ts σ H _ S fun v H1 d n1 env1 ⟨j, hd, h1, h2, hq⟩ S1 => ?_)
  subst hd
  obtain ⟨F, W, Z⟩ := id S1
  have t := Z.temps.1
  generalize hv : v = v' at t
  cases t with
  | dat rp =>
    have rp : Rep X.K C F v' (.int j) := rp
    cases rp
    subst hv
    exact ⟨j, rfl, by omega, by omega, q _ H1 _ [] n1 env1 hq S1.pop itr_ok⟩
theorem ei_range2 {tg : Expr} {QI' : QI} (hX : XOk X k N Vn Ln Gn) (hg : ("range" : Str) ∈ Gn) (hm : X.mg "range" = none) (h : Ev X C a n env fun d n' env' => ∃ i : Int, d = .int i ∧ -100000 ≤ i ∧ i ≤ 100000 ∧ Ev X C b n' env' fun d n' env' => ∃ j : Int, d = .int j ∧ -100000 ≤ j ∧ j ≤ 100000 ∧ QI' (rangeD i (j - i).toNat) n' env')
    (hs : starEach [a, b] X.env = [(false, eval a X.env), (false, eval b X.env)] := by rfl) (hs2 : starEach [b] X.env = [(false, eval b X.env)] := by rfl) : EvI X C tg (.Call (.Name "range" p) [a, b] [] pos) n env QI' := fun B ts σ H R S q => by
  refine of_pi (pi_range2 (hX.gl _ hg).1 hm (pa_cons pe_t (pa_cons pe_t pa_nil hs2) (hs.trans (by rw [hs2]))) hs hs2) (h B ts σ H _ S fun v H1 d n1 env1 ⟨i, hd, h1, h2, h3⟩ S1 => ?_)
  subst hd
  refine h3 B _ σ H1 _ S1 fun w H2 d n2 env2 ⟨j, hd, h4, h5, hq⟩ S2 => ?_
  subst hd
  obtain ⟨F, W, Z⟩ := id S2
  obtain ⟨t1, t2, t3⟩ := Z.temps
  generalize hw : w = w' at t1
  generalize hv : v = v' at t2
  cases t1 with
  | dat rp1 =>
    have rp1 : Rep X.K C F w' (.int j) := rp1
    cases rp1
    subst hw
    cases t2 with
    | dat rp2 =>
      have rp2 : Rep X.K C F v' (.int i) := rp2
      cases rp2
      subst hv
      exact ⟨i, j, rfl, ⟨by omega, by omega, by omega, by omega⟩, q _ H2 _ [] n2 env2 hq S2.pop.pop itr_ok⟩

/-! ### for, while -/
theorem st_for {tg iter : Expr} {body : List Stmt} (hX : XOk X k N Vn Ln Gn) (h : EvI X C tg iter n env fun ds n1 env1 => ∃ Pv : Nat → Nat → En → Prop, Pv 0 n1 env1 ∧
      (∀ (i : Nat) d n' env', ds[i]? = some d → Pv i n' env' → EvG X C tg (.dat d) n' env' fun n2 env2 => StB X C body n2 env2 { E with nx := Pv (i + 1), ct := Pv (i + 1), bk := E.nx }) ∧ ∀ n' env', Pv ds.length n' env' → E.nx n' env')
    (hs : ∀ x, foldedSetIterable iter X.env x = pure x := by intro _; rfl) : StS X C (.For tg iter body [] pos) n env E := fun B ts σ H Z S h1 h2 h3 h4 => by
  refine of_ps (ps_for hX.pass hX.calm pi_t pg_t pss_t hs) (h B ts σ H _ S fun J H1 ds us n1 env1 ⟨Pv, p0, turn, fin⟩ S1 ok => ?_)
  refine ⟨fun i m σ' H' => m = ds.length - i ∧ i ≤ ds.length ∧ ∃ n' env', Pv i n' env' ∧ Sta X.K C B (us ++ ts) n' env' σ' H', ⟨ds.length, by simp, Nat.zero_le _, n1, env1, p0, S1⟩, ?_⟩
  rintro i m σ' H' ⟨rfl, hi, n', env', hp, S'⟩
  by_cases hlt : i < ds.length
  · have hd : ds[i]? = some ds[i] := by simp [hlt]
    obtain ⟨go, yld⟩ := ok.item [] i _ n' env' σ' H' hd S'
    refine .inr ⟨go, fun σ2 H2 => ∃ n' env', Pv (i + 1) n' env' ∧ Sta X.K C B (us ++ ts) n' env' σ2 H2, fun σ2 H2 ⟨n2, env2, hp2, S2⟩ => ⟨ds.length - (i + 1), by omega, rfl, hlt, n2, env2, hp2, S2⟩, fun v H2 hy => ?_⟩
    refine turn i _ n' env' hd hp B _ v σ' H2 _ (yld v H2 hy) fun n3 env3 σ3 H3 hb S3 => ?_
    exact hb B _ σ3 H3 _ S3 (fun n4 env4 σ4 H4 q S4 => ⟨n4, env4, q, S4⟩) h2 (fun n4 env4 σ4 H4 q S4 => h1 n4 env4 σ4 H4 q (Sta.drop (us := us) S4)) (fun n4 env4 σ4 H4 q S4 => ⟨n4, env4, q, S4⟩)
  · have e : i = ds.length := by omega
    subst e
    exact .inl ⟨ok.stop [] n' env' σ' H' S', h1 n' env' σ' H' (fin n' env' hp) (Sta.drop (us := us) S')⟩
theorem st_while {body : List Stmt} (hX : XOk X k N Vn Ln Gn) (Wv : Nat → Nat → En → Prop) (m0 : Nat) (h0 : Wv m0 n env)
    (h : ∀ m n' env', Wv m n' env' → EvT X C c n' env' fun kk n1 env1 => if kk = true then StB X C body n1 env1 { E with nx := fun n2 env2 => ∃ m', m' < m ∧ Wv m' n2 env2, ct := fun n2 env2 => ∃ m', m' < m ∧ Wv m' n2 env2, bk := E.nx } else E.nx n1 env1) : StS X C (.While c body [] pos) n env E := fun B ts σ H Z S h1 h2 h3 h4 => by
  refine of_ps (ps_while hX.pass pt_t pss_t) ⟨fun m σ' H' => ∃ n' env', Wv m n' env' ∧ Sta X.K C B ts n' env' σ' H', ⟨m0, n, env, h0, S⟩, ?_⟩
  rintro m σ' H' ⟨n', env', hw, S'⟩
  refine h m n' env' hw B ts σ' H' _ S' fun kk H1 n1 env1 hq S1 => ?_
  cases kk with
  | true =>
    simp only [if_true] at hq ⊢
    refine ⟨fun σ2 H2 => ∃ m', m' < m ∧ ∃ n2 env2, Wv m' n2 env2 ∧ Sta X.K C B ts n2 env2 σ2 H2, fun σ2 H2 z => z, ?_⟩
    exact hq B ts σ' H1 _ S1 (fun n4 env4 σ4 H4 ⟨m', hm, q⟩ S4 => ⟨m', hm, n4, env4, q, S4⟩) h2 h1 (fun n4 env4 σ4 H4 ⟨m', hm, q⟩ S4 => ⟨m', hm, n4, env4, q, S4⟩)
  | false =>
    simp only [Bool.false_eq_true, if_false] at hq ⊢
    exact h1 n1 env1 σ' H1 hq S1
end
/-! ## DL5 -/
/-! ### comprehensions -/
def wipeE (env : En) : List Nat → En
  | [] => env
  | v :: vs => (wipeE env vs).set v .no
theorem wipe_get {σ : St} {j : Nat} : ∀ {vs : List Nat}, j ∉ vs → (wipe σ vs)[j]? = σ[j]?
  | [], _ => rfl
  | v :: vs, h => by
    unfold wipe
    rw [List.getElem?_set_ne (fun e => h (by simp [e]))]
    exact wipe_get fun z => h (by simp [z])
theorem wipeE_no {env : En} {j : Nat} : ∀ {vs : List Nat}, j ∈ vs → j < env.length → (wipeE env vs)[j]? = some .no
  | v :: vs, h, hl => by
    have len : ∀ vs : List Nat, (wipeE env vs).length = env.length := by
      intro vs
      induction vs with
      | nil => rfl
      | cons v vs ih => unfold wipeE; rw [List.length_set, ih]
    unfold wipeE
    by_cases e : v = j
    · subst e; exact List.getElem?_set_self (by rw [len]; exact hl)
    · rw [List.getElem?_set_ne e]
      exact wipeE_no (by rcases List.mem_cons.mp h with z | z; exact absurd z.symm e; exact z) hl
theorem wipe_set {σ : St} {i : Nat} {o : Option V} : ∀ {vs : List Nat}, i ∈ vs → wipe (σ.set i o) vs = wipe σ vs
  | v :: vs, h => by
    unfold wipe
    by_cases hv : i ∈ vs
    · rw [wipe_set hv]
    · have e : i = v := by rcases List.mem_cons.mp h with z | z; exact z; exact absurd z hv
      subst e
      have out : ∀ {vs : List Nat}, i ∉ vs → wipe (σ.set i o) vs = (wipe σ vs).set i o := by
        intro vs
        induction vs with
        | nil => intro _; rfl
        | cons w ws ih =>
          intro h
          unfold wipe
          rw [ih fun z => h (by simp [z]), List.set_comm _ _ (fun e => h (by simp [e]))]
      rw [out hv, List.set_set]
theorem wipe_wipe {σ : St} : ∀ {vs us : List Nat}, (∀ v ∈ us, v ∈ vs) → wipe (wipe σ us) vs = wipe σ vs
  | vs, [], _ => rfl
  | vs, u :: us, h => by
    show wipe ((wipe σ us).set u none) vs = _
    rw [wipe_set (h u (by simp))]
    exact wipe_wipe fun v hv => h v (by simp [hv])
section
variable {K : PySem.W.Frag} {C : Addr} {F H : Hp} {W : Addr → Option Tg} {B : Bs} {ts : List (V × TD)} {n : Nat} {env : En} {σ : St}
theorem Stt.wipe (S : Stt K C B F W ts n env σ H) : ∀ vs : List Nat, Stt K C B F W ts n (wipeE env vs) (L2.wipe σ vs) H
  | [] => S
  | _ :: vs => (Stt.wipe S vs).forget
theorem Stt.unwipe {vs : List Nat} {σ0 : St} (S : Stt K C B F W ts n env (L2.wipe σ0 vs) H) (he : wipeE env vs = env) : Stt K C B F W ts n env σ0 H := by
  refine ⟨S.ex1, S.ex2, S.base, S.new, S.own, S.pool, by have := S.len; rw [wipe_length] at this; exact this, fun j sl h => ?_, S.temps⟩
  by_cases hj : j ∈ vs
  · have hl := (List.getElem?_eq_some_iff.mp h).1
    have := wipeE_no (env := env) hj hl
    rw [he, h] at this
    cases this
    exact .no _
  · have := S.slots j sl h
    rw [wipe_get hj] at this
    exact this
end
/-- the pile below the top is taken away -/
theorem Stt.dropUnder {K : PySem.W.Frag} {C : Addr} {F H : Hp} {W : Addr → Option Tg} {B : Bs} {us ts : List (V × TD)} {n : Nat} {env : En} {σ : St} {a : Addr} {ds : List D} (S : Stt K C B F W ((.ref a, .fl ds) :: (us ++ ts)) n env σ H) : ∃ W', Stt K C B F W' ((.ref a, .fl ds) :: ts) n env σ H := by
  have t := S.temps.1
  have tt := S.temps.2.drop
  generalize ha : (V.ref a, TD.fl ds).1 = aa at t
  cases t with
  | @fl a2 vs2 _ w2 g2 r2 =>
    cases ha
    have hlen : ts.length ≤ (us ++ ts).length := by simp
    have w2 : W a = some (.tp (us ++ ts).length) := w2
    have ne : ∀ b t, W b = some t → t ≠ .tp (us ++ ts).length → b ≠ a := fun b t h z e => by subst e; rw [w2] at h; exact z (Option.some.inj h).symm
    refine ⟨Stt.retag W a (some (.tp ts.length)), S.ex1, S.ex2, S.base, S.new, fun b t h => ?_, S.pool, S.len, fun j s h => ?_, ?_, ?_⟩
    · by_cases e : b = a
      · subst e; exact S.own b _ w2
      · rw [Stt.retag_ne e] at h; exact S.own b t h
    · exact (S.slots j s h).mono LeR.refl (fun _ _ _ h => h) fun b hb => by rw [Stt.retag_ne (ne b _ hb fun z => by cases z)]; exact hb
    · exact .fl Stt.retag_same g2 r2
    · refine TsOk.mono LeR.refl (fun _ _ _ _ _ h => h) (fun b j hj hb => ?_) tt
      rw [Stt.retag_ne (ne b _ hb fun z => by cases z; omega)]
      exact hb
/-- names that a block may capture -/
structure XCap (X : Cx) (Cn : List Str) : Prop where
  cap : ∀ x ∈ Cn, X.env.scope.names.lookup x = some .cell ∨ X.env.scope.names.lookup x = some .free
theorem lookup_relS_free {sc : Scope} : ∀ {names : List (Str × NameKind)} {x : Str}, names.lookup x = some .free →
    (names.map fun (n, k) => if (k == NameKind.free && sc.kind == .function && sc.names.lookup n == some .cell) then (n, NameKind.cell) else (n, k)).lookup x = some .cell ∨
    (names.map fun (n, k) => if (k == NameKind.free && sc.kind == .function && sc.names.lookup n == some .cell) then (n, NameKind.cell) else (n, k)).lookup x = some .free
  | [], _, h => by simp at h
  | (n, k₀) :: r, x, h => by
    have ih := @lookup_relS_free sc r x
    show List.lookup x ((if (k₀ == NameKind.free && sc.kind == .function && sc.names.lookup n == some .cell) = true then (n, NameKind.cell) else (n, k₀)) :: (r.map _)) = _ ∨ List.lookup x ((if (k₀ == NameKind.free && sc.kind == .function && sc.names.lookup n == some .cell) = true then (n, NameKind.cell) else (n, k₀)) :: (r.map _)) = _
    cases hx : x == n with
    | true =>
      simp only [List.lookup_cons, hx] at h
      cases h
      by_cases hc : (NameKind.free == NameKind.free && sc.kind == .function && sc.names.lookup n == some .cell) = true
      · rw [if_pos hc]; simp only [List.lookup_cons, hx]; exact .inl trivial
      · rw [if_neg hc]; simp only [List.lookup_cons, hx]; exact .inr trivial
    | false =>
      simp only [List.lookup_cons, hx] at h
      by_cases hc : (k₀ == NameKind.free && sc.kind == .function && sc.names.lookup n == some .cell) = true
      · rw [if_pos hc]; simp only [List.lookup_cons, hx]; exact ih h
      · rw [if_neg hc]; simp only [List.lookup_cons, hx]; exact ih h
def odd1 (x : Str) : Bool := x == ("__debug__" : Str)
def odd2 (x : Str) : Bool := x == ("__classdict__" : Str)
def odd3 (x : Str) : Bool := decide (x = ("__name__" : Str))
/-- what a block's scope says of names -/
def blkV (scope : Scope) (V' L' G' C' : List Str) : Bool :=
  (V'.all fun x => (match scope.names.lookup x with | some .local => true | some .cell => true | some .free => true | _ => false) && !odd1 x && !odd2 x) &&
  (L'.all fun x => (match scope.names.lookup x with | some .local => true | some .cell => true | _ => false)) &&
  (G'.all fun x => (match scope.names.lookup x with | some .globalImplicit => true | _ => false) && !odd1 x && !odd3 x) &&
  (C'.all fun x => (match scope.names.lookup x with | some .cell => true | some .free => true | _ => false))
def blkN (N Cn : List Str) (scope : Scope) (own : List (Str × Nat)) : Bool :=
  (match scope.kind with | .function => true | _ => false) && (scope.names.all fun y => decide (scope.names.lookup y.1 = some y.2)) && (own.all fun p => decide (N[p.2]? = some p.1)) &&
    (scope.names.all fun y => match y.2 with
      | .free => Cn.contains y.1
      | .local => decide (y.1 ∈ own.map (·.1)) || decide (y.1 ∉ N)
      | .cell => decide (y.1 ∈ own.map (·.1)) || decide (y.1 ∉ N)
      | _ => true)
section
variable {X : Cx} {C : Addr} {k : Nat} {N Vn Ln Gn Cn : List Str} {scope : Scope} {own : List (Str × Nat)}
theorem blk_of (hX : XOk X k N Vn Ln Gn) (hC : XCap X Cn) (h : blkN N Cn scope own = true) : BlkOk X.N X.env.scope scope own := by
  unfold blkN at h
  simp only [Bool.and_eq_true, List.all_eq_true, decide_eq_true_eq] at h
  obtain ⟨⟨⟨h1, h2⟩, h3⟩, h4⟩ := h
  rw [hX.hN]
  refine ⟨?_, h2, h3, fun y hy e => ?_, fun y hy e => ?_⟩
  · split at h1
    · assumption
    · cases h1
  · have q := h4 y hy
    simp only [e, List.contains_iff_mem] at q
    exact hC.cap _ q
  · have q := h4 y hy
    rcases e with e | e <;> (simp only [e, Bool.or_eq_true, decide_eq_true_eq] at q; exact q)
theorem blk_xok {V' L' G' C' : List Str} (hX : XOk X k N Vn Ln Gn) (h : blkV scope V' L' G' C' = true) (s : Shared) (H : Hp) (Cc : Addr) (cl : List (Str × Addr)) (fp : List Addr) :
    XOk (X.blk s H scope (compEnvC scope cl Cc X.env) fp) k N V' L' G' ∧ XCap (X.blk s H scope (compEnvC scope cl Cc X.env) fp) C' := by
  unfold blkV at h
  simp only [Bool.and_eq_true, List.all_eq_true] at h
  obtain ⟨⟨⟨h1, h2⟩, h3⟩, h4⟩ := h
  refine ⟨⟨hX.hN, hX.nd, fun x hx => ?_, fun x hx => ?_, fun x hx => ?_, hX.calm, hX.room, PassesOwn.never⟩, ⟨fun x hx => ?_⟩⟩
  · obtain ⟨⟨q, q2⟩, q3⟩ := h1 x hx
    refine ⟨?_, by simpa [odd1] using q2, by simpa [odd2] using q3⟩
    show Vis (relS scope X.env.scope) x
    split at q
    · rename_i e; exact .inl (lookup_relS_keep (by decide) e)
    · rename_i e; exact .inr (.inl (lookup_relS_keep (by decide) e))
    · rename_i e
      rcases lookup_relS_free (sc := X.env.scope) e with z | z
      · exact .inr (.inl z)
      · exact .inr (.inr z)
    · cases q
  · have q := h2 x hx
    show Loc (relS scope X.env.scope) x ∧ ((scope.names.lookup x == some .cell) = true ∨ (relS scope X.env.scope).names.lookup x = some .local)
    split at q
    · rename_i e
      have := lookup_relS_keep (sc := X.env.scope) (by decide) e
      exact ⟨.inl this, .inr this⟩
    · rename_i e
      have := lookup_relS_keep (sc := X.env.scope) (by decide) e
      exact ⟨.inr this, .inl (by rw [e]; rfl)⟩
    · cases q
  · obtain ⟨⟨q, q2⟩, q3⟩ := h3 x hx
    refine ⟨?_, by simpa [odd1] using q2, by simpa [odd3] using q3⟩
    show (relS scope X.env.scope).names.lookup x = some .globalImplicit
    split at q
    · rename_i e; exact lookup_relS_keep (by decide) e
    · cases q
  · have q := h4 x hx
    show (relS scope X.env.scope).names.lookup x = some .cell ∨ (relS scope X.env.scope).names.lookup x = some .free
    split at q
    · rename_i e; exact .inl (lookup_relS_keep (by decide) e)
    · rename_i e; exact lookup_relS_free e
    · cases q
end
section
variable {X : Cx} {C : Addr} {k : Nat} {N Vn Ln Gn Cn : List Str} {n : Nat} {env : En} {Q : QE} {QT : QB} {QR' : QR} {x y : Str} {p pos : Pos} {e a b c tg iter elt : Expr} {es tgs ifs : List Expr} {d : D} {E : EnD} {scope : Scope} {own : List (Str × Nat)}
theorem ept_nil (q : QT true n env) : EvPT X C [] n env QT := fun B ts σ H R S r => of_pts pts_nil (r true H n env q S)
theorem ept_one (h : EvT X C c n env QT) : EvPT X C [c] n env QT := fun B ts σ H R S r => of_pts (pts_one pt_t) (h B ts σ H R S r)
/-- a block's target: the slots vs alone are stored -/
def EvGv (X : Cx) (C : Addr) (vs : List Nat) (tg : Expr) (td : TD) (n : Nat) (env : En) (Q : QN) : Prop := ∀ B ts v σ H (R : St → Hp → Prop), Sta X.K C B ((v, td) :: ts) n env σ H →
  (∀ n' env' σ' H', Q n' env' → Sta X.K C B ts n' env' σ' H' → wipe σ' vs = wipe σ vs → R σ' H') → tG X tg v σ H R
theorem egv_name {i : Nat} {vs : List Nat} {td : TD} {QG : QN} (hX : XOk X k N Vn Ln Gn) (hi : Ix N x i) (hl : x ∈ Ln) (hv : i ∈ vs) (q : QG n (env.set i td.sl)) : EvGv X C vs (.Name x pos) td n env QG := fun B ts v σ H R S r => by
  have nd : X.N.Nodup := by rw [hX.hN]; exact hX.nd
  obtain ⟨l1, l2⟩ := hX.loc x hl
  obtain ⟨F, W, S⟩ := S
  obtain ⟨W', S'⟩ := S.setF (i := i)
  exact of_pg (pg_name nd (hX.get hi.get) l1 l2) (r n _ _ H q ⟨F, W', S'⟩ (wipe_set hv))
def EvGvs (X : Cx) (C : Addr) (vs : List Nat) (tgs : List Expr) (ds : List D) (n : Nat) (env : En) (Q : QN) : Prop := ∀ B ts F W ws σ H (R : St → Hp → Prop), ws.length = ds.length → Reps X.K C F ws ds → Stt X.K C B F W ts n env σ H →
  (∀ n' env' σ' H', Q n' env' → Sta X.K C B ts n' env' σ' H' → wipe σ' vs = wipe σ vs → R σ' H') → tGs X tgs ws σ H R
theorem egvs_nil {vs : List Nat} {QG : QN} (q : QG n env) : EvGvs X C vs [] [] n env QG := fun B ts F W ws σ H R hl rs S r => by
  cases rs
  exact of_pgs pgs_nil ⟨rfl, r n env σ H q ⟨F, W, S⟩ rfl⟩
theorem egvs_name {i : Nat} {vs : List Nat} {QG : QN} {ds : List D} (hX : XOk X k N Vn Ln Gn) (hi : Ix N x i) (hl : x ∈ Ln) (hv : i ∈ vs) (h : EvGvs X C vs es ds n (env.set i (.dat d)) QG) (hs : (assignEach ((.Name x pos) :: es) X.env).map (·.2) = assign (.Name x pos) X.env :: (assignEach es X.env).map (·.2) := by rfl) : EvGvs X C vs ((.Name x pos) :: es) (d :: ds) n env QG := fun B ts F W ws σ H R hl' rs S r => by
  have nd : X.N.Nodup := by rw [hX.hN]; exact hX.nd
  obtain ⟨l1, l2⟩ := hX.loc x hl
  cases rs with
  | cons r1 r2 =>
    refine of_pgs (pgs_cons (pg_name nd (hX.get hi.get) l1 l2) pgs_t hs) ⟨_, _, rfl, ?_⟩
    refine h B ts F W _ _ H R (by simpa using hl') r2 (S.push r1).setD fun n' env' σ' H' q S' hw => r n' env' σ' H' q S' (hw.trans (wipe_set hv))
theorem egv_tup {kk : Nat} {vs : List Nat} {QG : QN} {ds : List D} (hX : XOk X k N Vn Ln Gn) (h : EvGvs X C vs es ds n env QG) (hn : (assignEach es X.env).length = ds.length := by rfl) (hst : (assignEach es X.env).findIdx? (·.1) = none := by rfl) : EvGv X C vs (.Tuple es kk pos) (.dat (.tup ds)) n env QG := fun B ts v σ H R S r => by
  obtain ⟨F, W, S⟩ := S
  have t := S.temps.1
  generalize hv : v = v' at t
  cases t with
  | dat rp =>
    have rp : Rep X.K C F v' (.tup ds) := rp
    cases rp with
    | @tup a vs _ h1 h2 =>
      subst hv
      refine of_pg (pg_tup hX.calm pgs_t hn hst) ⟨a, vs, rfl, SqT.of (S.ex2 _ _ h1), h2.length, ?_⟩
      exact h B ts F W vs σ H R h2.length h2 S.pop r
/-- the last target of several, itself a tuple of names -/
theorem egvs_last {vs : List Nat} {QG : QN} (h : ∀ QG' : QN, (∀ n env, QG n env → QG' n env) → EvGv X C vs e (.dat d) n env QG') (hs : (assignEach [e] X.env).map (·.2) = assign e X.env :: (assignEach [] X.env).map (·.2) := by rfl) : EvGvs X C vs [e] [d] n env QG := fun B ts F W ws σ H R hl' rs S r => by
  cases rs with
  | cons r1 r2 =>
    cases r2
    refine of_pgs (pgs_cons pg_t pgs_nil hs) ⟨_, _, rfl, ?_⟩
    exact h QG (fun _ _ z => z) B ts _ σ H _ ⟨F, W, S.push r1⟩ fun n' env' σ' H' q S' hw => ⟨rfl, r n' env' σ' H' q S' hw⟩
/-- whatever the block's own frame -/
def AllB (X : Cx) (scope : Scope) (k : Nat) (N V' L' G' C' : List Str) (P : Cx → Prop) : Prop := ∀ (s : Shared) (H0 : Hp) (Cc : Addr) (cl : List (Str × Addr)) (fp : List Addr), XOk (X.blk s H0 scope (compEnvC scope cl Cc X.env) fp) k N V' L' G' → XCap (X.blk s H0 scope (compEnvC scope cl Cc X.env) fp) C' → P (X.blk s H0 scope (compEnvC scope cl Cc X.env) fp)
/-- [elt for tg in iter if ..] -/
def LcTurn (X : Cx) (C : Addr) (scope : Scope) (k : Nat) (N V' L' G' C' : List Str) (vs : List Nat) (tg : Expr) (ifs : List Expr) (elt : Expr) (Pv : Nat → List D → Nat → En → Prop) (ds : List D) : Prop :=
  ∀ (i : Nat) d acc n' env', ds[i]? = some d → Pv i acc n' env' → AllB X scope k N V' L' G' C' fun X' => EvGv X' C vs tg (.dat d) n' env' fun n2 env2 => AllB X scope k N V' L' G' C' fun X' => EvPT X' C ifs n2 env2 fun b n3 env3 =>
    if b = true then AllB X scope k N V' L' G' C' fun X' => Ev X' C elt n3 env3 fun y n4 env4 => acc.length < 100000 ∧ Pv (i + 1) (acc ++ [y]) n4 (wipeE env4 vs) else Pv (i + 1) acc n3 (wipeE env3 vs)
theorem lc_go (V' L' G' C' : List Str) (own : List (Str × Nat)) (hX : XOk X k N Vn Ln Gn) (hC : XCap X Cn) (hb2 : blkV scope V' L' G' C' = true)
    (h : EvI X C tg iter n env fun ds n1 env1 => ∃ Pv : Nat → List D → Nat → En → Prop, Pv 0 [] n1 (wipeE env1 (own.map (·.2))) ∧ LcTurn X C scope k N V' L' G' C' (own.map (·.2)) tg ifs elt Pv ds ∧ ∀ acc n' env', Pv ds.length acc n' env' → wipeE env' (own.map (·.2)) = env' ∧ QR' (.fl acc) n' env')
    {B : Bs} {ts : List (V × TD)} {σ : St} {H : Hp} {R : VK} (S : Sta X.K C B ts n env σ H) (q : ∀ v H' td n' env', QR' td n' env' → Sta X.K C B ((v, td) :: ts) n' env' σ H' → R v H') :
    tLc (tI X tg iter) (fun v σ H Q => ∀ s H0 Cc cl fp, tG (X.blk s H0 scope (compEnvC scope cl Cc X.env) fp) tg v σ H Q) (fun σ H Q => ∀ s H0 Cc cl fp, tPT (X.blk s H0 scope (compEnvC scope cl Cc X.env) fp) ifs σ H Q) (fun σ H Q => ∀ s H0 Cc cl fp, tE (X.blk s H0 scope (compEnvC scope cl Cc X.env) fp) elt σ H Q) (own.map (·.2)) σ H R := by
  generalize hvs : own.map (·.2) = vs at h
  refine h B ts σ H _ S fun J H1 ds us n1 env1 ⟨Pv, p0, turn, fin⟩ S1 ok Dn hD => ?_
  obtain ⟨F1, W1, S1⟩ := S1
  obtain ⟨W2, S2⟩ := S1.newF hD (.nil : Reps X.K C F1 [] [])
  refine ⟨fun i m H' => m = ds.length - i ∧ i ≤ ds.length ∧ ∃ acc n' env', Pv i acc n' env' ∧ Sta X.K C B ((.ref Dn, .fl acc) :: (us ++ ts)) n' env' (wipe σ vs) H', ⟨ds.length, by simp, Nat.zero_le _, [], n1, _, p0, F1, W2, S2.wipe vs⟩, ?_⟩
  rintro i m H' ⟨rfl, hi, acc, n', env', hp, S'⟩
  by_cases hlt : i < ds.length
  · have hd : ds[i]? = some ds[i] := by simp [hlt]
    obtain ⟨go, yld⟩ := ok.item [(.ref Dn, .fl acc)] i _ n' env' _ H' hd S'
    refine .inr ⟨go, fun H2 => ∃ acc n' env', Pv (i + 1) acc n' env' ∧ Sta X.K C B ((.ref Dn, .fl acc) :: (us ++ ts)) n' env' (wipe σ vs) H2, fun H2 ⟨acc2, n2, env2, hp2, S2⟩ => ⟨ds.length - (i + 1), by omega, rfl, hlt, acc2, n2, env2, hp2, S2⟩, fun v H2 hy => ?_⟩
    intro s H0 Cc cl fp
    obtain ⟨x1, x2⟩ := blk_xok hX hb2 s H0 Cc cl fp
    refine turn i _ acc n' env' hd hp s H0 Cc cl fp x1 x2 B _ v _ H2 _ (yld v H2 hy) fun n3 env3 σ3 H3 hb S3 hw => ?_
    have hw' : wipe σ3 vs = wipe σ vs := hw.trans (wipe_wipe fun _ z => z)
    refine ⟨hw', fun s H0 Cc cl fp => ?_⟩
    obtain ⟨x1, x2⟩ := blk_xok hX hb2 s H0 Cc cl fp
    refine hb s H0 Cc cl fp x1 x2 B _ σ3 H3 _ S3 fun b H4 n4 env4 hq S4 => ?_
    cases b with
    | false =>
      simp only [Bool.false_eq_true, if_false] at hq ⊢
      obtain ⟨F4, W4, S4⟩ := S4
      have S4 := S4.wipe vs
      rw [hw'] at S4
      exact ⟨acc, n4, _, hq, F4, W4, S4⟩
    | true =>
      simp only [if_true] at hq ⊢
      intro s H0 Cc cl fp
      obtain ⟨x1, x2⟩ := blk_xok hX hb2 s H0 Cc cl fp
      refine hq s H0 Cc cl fp x1 x2 B _ σ3 H4 _ S4 fun y H5 d n5 env5 ⟨hz, hq⟩ S5 => ?_
      obtain ⟨F5, W5, S5⟩ := S5
      obtain ⟨t1, t2, t3⟩ := S5.temps
      cases t1 with
      | dat rp =>
        generalize ha : (V.ref Dn, TD.fl acc).1 = aa at t2
        cases t2 with
        | @fl a2 vs2 _ w2 g2 r2 =>
          cases ha
          refine ⟨vs2, g2, Nat.lt_of_lt_of_le (by rw [r2.length]; exact hz) (by decide), acc ++ [d], n5, _, hq, F5, W5, ?_⟩
          have S6 := (S5.pop.growF g2 rp).wipe vs
          rw [hw'] at S6
          exact S6
  · have e : i = ds.length := by omega
    subst e
    obtain ⟨f1, f2⟩ := fin acc n' env' hp
    refine .inl ⟨ok.stop [(.ref Dn, .fl acc)] n' env' _ H' S', ?_⟩
    obtain ⟨F3, W3, S3⟩ := S'
    have S4 := S3.unwipe f1
    -- take the walked thing off the pile
    have t := S4.temps.1
    generalize ha : (V.ref Dn, TD.fl acc).1 = aa at t
    cases t with
    | @fl a2 vs2 _ w2 g2 r2 =>
      cases ha
      obtain ⟨W5, S5⟩ := (show Stt X.K C B F3 W3 (((.ref Dn, .fl acc) : V × TD) :: (us ++ ts)) n' env' σ H' from S4).dropUnder
      exact q _ H' _ n' env' f2 ⟨F3, W5, S5⟩
theorem evr_lc (V' L' G' C' : List Str) (own : List (Str × Nat)) (hX : XOk X k N Vn Ln Gn) (hC : XCap X Cn) (hb1 : blkN N Cn scope own = true) (hb2 : blkV scope V' L' G' C' = true)
    (h : EvI X C tg iter n env fun ds n1 env1 => ∃ Pv : Nat → List D → Nat → En → Prop, Pv 0 [] n1 (wipeE env1 (own.map (·.2))) ∧ LcTurn X C scope k N V' L' G' C' (own.map (·.2)) tg ifs elt Pv ds ∧ ∀ acc n' env', Pv ds.length acc n' env' → wipeE env' (own.map (·.2)) = env' ∧ QR' (.fl acc) n' env')
    (hs : ∀ x, foldedSetIterable iter X.env x = pure x := by intro _; rfl) : EvR X C (.ListComp elt [⟨tg, iter, ifs, 0⟩] scope pos) n env QR' := fun B ts σ H R S q => by
  have nd : X.N.Nodup := by rw [hX.hN]; exact hX.nd
  exact of_pe (pe_lc (own := own) hX.calm nd pi_t (blk_of hX hC hb1) (fun s H0 Cc cl fp => ⟨fun pins s' σ H v u Q I r h => h s H0 Cc cl fp pins s' u I r⟩) (fun s H0 Cc cl fp => ⟨fun pins s' σ H Q I h => h s H0 Cc cl fp pins s' I⟩) (fun s H0 Cc cl fp => ⟨fun pins s' σ H Q I h => h s H0 Cc cl fp pins s' I⟩) hs)
    (lc_go V' L' G' C' own hX hC hb2 h S q)
/-- name = [..] -/
theorem st_setLc {i : Nat} {spos py : Pos} (V' L' G' C' : List Str) (own : List (Str × Nat)) (hX : XOk X k N Vn Ln Gn) (hC : XCap X Cn) (hi : Ix N x i) (hx : X.env.scope.names.lookup x = some .local) (hb1 : blkN N Cn scope own = true) (hb2 : blkV scope V' L' G' C' = true)
    (h : EvI X C tg iter n env fun ds n1 env1 => ∃ Pv : Nat → List D → Nat → En → Prop, Pv 0 [] n1 (wipeE env1 (own.map (·.2))) ∧ LcTurn X C scope k N V' L' G' C' (own.map (·.2)) tg ifs elt Pv ds ∧ ∀ acc n' env', Pv ds.length acc n' env' → wipeE env' (own.map (·.2)) = env' ∧ E.nx n' (env'.set i (.lst acc)))
    (hk : X.env.scope.kind = .function) (hl : (py.line == pos.line) = true := by rfl) (ha : (scope.names.any fun (n, k) => n == x && (k == .local || k == .cell)) = false := by decide +kernel)
    (hs : ∀ x, foldedSetIterable iter X.env x = pure x := by intro _; rfl) : StS X C (.Assign [.Name x py] (.ListComp elt [⟨tg, iter, ifs, 0⟩] scope pos) spos) n env E := fun B ts σ H Z S h1 _ _ _ => by
  have nd : X.N.Nodup := by rw [hX.hN]; exact hX.nd
  refine of_ps (ps_setLc (own := own) (g := fun v σ H Q => ∀ s H0 Cc cl fp, tG (X.blk s H0 scope (compEnvC scope cl Cc X.env) fp) tg v σ H Q) (tt := fun σ H Q => ∀ s H0 Cc cl fp, tPT (X.blk s H0 scope (compEnvC scope cl Cc X.env) fp) ifs σ H Q) (te := fun σ H Q => ∀ s H0 Cc cl fp, tE (X.blk s H0 scope (compEnvC scope cl Cc X.env) fp) elt σ H Q) hX.calm nd (hX.get hi.get) hx (sw_true hk hx hl ha) pi_t (blk_of hX hC hb1) (fun s H0 Cc cl fp => ⟨fun pins s' σ H v u Q I r h => h s H0 Cc cl fp pins s' u I r⟩) (fun s H0 Cc cl fp => ⟨fun pins s' σ H Q I h => h s H0 Cc cl fp pins s' I⟩) (fun s H0 Cc cl fp => ⟨fun pins s' σ H Q I h => h s H0 Cc cl fp pins s' I⟩) hs) ?_
  refine lc_go (QR' := fun td n' env' => ∃ acc, td = .fl acc ∧ E.nx n' (env'.set i (.lst acc))) V' L' G' C' own hX hC hb2 ?_ S ?_
  · intro B ts σ H R S q
    refine h B ts σ H R S fun J H' ds us n' env' ⟨Pv, p0, p1, p2⟩ S' ok => q J H' ds us n' env' ⟨Pv, p0, p1, fun acc n env hp => ⟨(p2 acc n env hp).1, acc, rfl, (p2 acc n env hp).2⟩⟩ S' ok
  · intro v H' td n' env' ⟨acc, htd, hq⟩ S'
    subst htd
    obtain ⟨F, W, S'⟩ := S'
    obtain ⟨W', S''⟩ := S'.setF (i := i)
    exact h1 n' _ _ H' hq ⟨F, W', S''⟩
end
/-! ## DL6 -/
/-! ### a def keeps its promise -/
def argE : Bool → List D → En
  | true, ds => .pool :: ds.map .dat
  | false, ds => ds.map .dat
def defB (N Gn Cn : List Str) (sc : Scope) : Bool :=
  (N.all fun x => (match sc.names.lookup x with | some .local => true | some .cell => true | _ => false) && !odd1 x && !odd2 x) &&
  (Gn.all fun x => (match sc.names.lookup x with | some .globalImplicit => true | _ => false) && !odd1 x && !odd3 x) &&
  (Cn.all fun x => (match sc.names.lookup x with | some .cell => true | some .free => true | _ => false))
theorem xok_def {X : Cx} {k : Nat} {N Gn Cn : List Str} (h : defB N Gn Cn X.env.scope = true) (hN : X.N = N) (nd : N.Nodup) (hf : ∀ x, X.fn x = true) (hc : X.calm = true) (hr : Room k X.A) (hp : PassesOwn (model X.prog X.w) X.A X.env X.xe) :
    XOk X k N N N Gn ∧ XCap X Cn := by
  unfold defB at h
  simp only [Bool.and_eq_true, List.all_eq_true] at h
  obtain ⟨⟨h1, h3⟩, h4⟩ := h
  refine ⟨⟨hN, nd, fun x hx => ?_, fun x hx => ?_, fun x hx => ?_, hc, hr, hp⟩, ⟨fun x hx => ?_⟩⟩
  · obtain ⟨⟨q, q2⟩, q3⟩ := h1 x hx
    refine ⟨?_, by simpa [odd1] using q2, by simpa [odd2] using q3⟩
    split at q
    · rename_i e; exact .inl e
    · rename_i e; exact .inr (.inl e)
    · cases q
  · obtain ⟨⟨q, q2⟩, q3⟩ := h1 x hx
    refine ⟨?_, .inl (hf x)⟩
    split at q
    · rename_i e; exact .inl e
    · rename_i e; exact .inr e
    · cases q
  · obtain ⟨⟨q, q2⟩, q3⟩ := h3 x hx
    refine ⟨?_, by simpa [odd1] using q2, by simpa [odd3] using q3⟩
    show X.env.scope.names.lookup x = some .globalImplicit
    split at q
    · assumption
    · cases q
  · have q := h4 x hx
    split at q
    · rename_i e; exact .inl e
    · rename_i e; exact .inr e
    · cases q
section
variable {P : Program} {w : World} {K : PySem.W.Frag} {mg : Str → Option Value} {base : Heap} {C : Addr}
theorem sta_start {pl : Bool} {B : Bs} {n : Nat} {vs vs' : List V} {ds : List D} {H : Hp} {N ps : List Str} (hpl : B.pl = pl) (hH : B.H = H) (hvs : vs = (if pl then .ref B.p :: vs' else vs')) (hex : Ex B.F H) (hr : Reps K C B.F vs' ds) (hpool : pl = true → B.F B.p = none ∧ PoolOk H B.p n)
    (hlen : vs.length = ps.length) (hN : ps.length ≤ N.length) : Sta K C B [] n (argE pl ds ++ List.replicate (N.length - ps.length) .no) (L2.start N vs) H := by
  have hl := hr.length
  have l1 : (argE pl ds).length = vs.length := by
    subst hvs
    cases pl <;> simp [hl, argE]
  refine ⟨B.F, fun _ => none, Ex.refl _, hex, fun a o h _ => by rw [← hH]; exact h, fun a o h => .inl h, fun a i h => (by cases h), fun hp => ?_, ?_, fun i sl h => ?_, trivial⟩
  · obtain ⟨p1, p2⟩ := hpool (hpl ▸ hp)
    refine ⟨p1, ?_, p2⟩
    obtain ⟨x, y, z, q, _⟩ := p2
    exact ⟨_, by rw [hH]; exact q⟩
  · unfold L2.start
    rw [List.length_append, List.length_append, List.length_map, List.length_replicate, List.length_replicate, l1, hlen]
  · by_cases hi : i < vs.length
    · have e1 : (L2.start N vs)[i]? = (vs.map some)[i]? := by unfold L2.start; rw [List.getElem?_append_left (by simpa using hi)]
      rw [e1, List.getElem?_map]
      rw [List.getElem?_append_left (by rw [l1]; exact hi)] at h
      cases pl with
      | false =>
        have hvs : vs = vs' := hvs
        have h : (ds.map Sl.dat)[i]? = some sl := h
        rw [List.getElem?_map] at h
        cases hd : ds[i]? with
        | none => rw [hd] at h; cases h
        | some d =>
          rw [hd] at h
          cases h
          obtain ⟨v, hv, rv⟩ := hr.get hd
          rw [hvs, hv]
          exact .dat rv
      | true =>
        have hvs : vs = .ref B.p :: vs' := hvs
        have h : (Sl.pool :: ds.map Sl.dat)[i]? = some sl := h
        subst hvs
        cases i with
        | zero => cases h; exact .pool hpl
        | succ i =>
          rw [List.getElem?_cons_succ, List.getElem?_map] at h
          rw [List.getElem?_cons_succ]
          cases hd : ds[i]? with
          | none => rw [hd] at h; cases h
          | some d =>
            rw [hd] at h
            cases h
            obtain ⟨v, hv, rv⟩ := hr.get hd
            rw [hv]
            exact .dat rv
    · rw [List.getElem?_append_right (by rw [l1]; omega), List.getElem?_replicate] at h
      split at h
      · cases h; exact .no _
      · cases h
theorem fnD_of (no : En) {x qual : Str} {st : Stmt} {f : Addr} {fd : FuncData} {N ps : List Str} {k : Nat} {pl : Bool} {R : List D → Nat → (D → Nat → Prop) → Prop} (Gn Cn : List Str) (F : Fun K x qual st f fd) (hm : mg x = some (.ref f)) (S : FnScope N ps (defScope st)) (hb : Binds K fd ps [])
    (hsc : defB N Gn Cn (defScope st) = true) (mono : ∀ ds n (p q : D → Nat → Prop), (∀ d m, p d m → q d m) → R ds n p → R ds n q) (len : ∀ ds n p, R ds n p → (argE pl ds).length = ps.length)
    (body : ∀ X : Cx, X.prog = P → X.w = w → X.K = K → X.mg = mg → X.base = base → X.env.scope = defScope st → XOk X k N N N Gn → XCap X Cn → ∀ ds n (p : D → Nat → Prop), R ds n p →
      StB X C (defBody st) n (argE pl ds ++ no) { nx := fun n _ => p .non n, rt := p }) (hno : List.replicate (N.length - ps.length) Sl.no = no := by rfl) : FnD P w K mg base C x (k + 1) pl R := by
  subst hno
  have lenV : ∀ vs H Q E, spD K C pl R vs H Q E → vs.length = ps.length := by
    rintro vs H Q E ⟨B, n, vs', ds, h1, h2, h3, h4, h5, h6, h7⟩
    rw [← len ds n _ h7, h3]
    have := h5.length
    cases pl <;> simp [this, argE]
  have hN : ps.length ≤ N.length := by
    have := congrArg List.length S.pre
    rw [List.length_take] at this
    omega
  refine ⟨⟨f, fd, ps, CX0, hm, F.kp, hb, F.ok S lenV (fun cdv A outer s H vs Q E hr h => ?_), fun X _ _ => pass0⟩, mono⟩
  have lv := lenV _ _ _ _ h
  obtain ⟨B, n, vs', ds, h1, h2, h3, h4, h5, h6, h7⟩ := h
  refine ⟨_, pss_t, ?_⟩
  obtain ⟨x1, x2⟩ := xok_def (X := (cxOf CX0 P w K mg base N qual (defScope st) f cdv A outer s H E).nox) (k := k) (N := N) (Gn := Gn) (Cn := Cn) hsc rfl S.nd (fun _ => rfl) rfl hr PassesOwn.never
  refine body _ rfl rfl rfl rfl rfl rfl x1 x2 ds n _ h7 B [] _ H _ (sta_start h1 h2 h3 h4 h5 h6 lv hN) (fun n' env' σ' H' q S' => ?_) (fun d n' v H' q S' => q v H' S') (fun _ _ _ _ q _ => q.elim) (fun _ _ _ _ q _ => q.elim)
  refine q .non H' ?_
  obtain ⟨F', W', S'⟩ := S'
  exact Sta.ret (ts := []) ⟨F', W', S'.push .non⟩
end
/-! ### built-in names -/
theorem bt_len : bootBuiltins "len" = some (.builtin "len") := by decide +kernel
theorem bt_isinstance : bootBuiltins "isinstance" = some (.builtin "isinstance") := by decide +kernel
theorem bt_int : bootBuiltins "int" = some (.type "int") := by decide +kernel
theorem bt_bool : bootBuiltins "bool" = some (.type "bool") := by decide +kernel
theorem bt_list : bootBuiltins "list" = some (.type "list") := by decide +kernel
theorem bt_tuple : bootBuiltins "tuple" = some (.type "tuple") := by decide +kernel
theorem bt_dict : bootBuiltins "dict" = some (.type "dict") := by decide +kernel
theorem bt_str : bootBuiltins "str" = some (.type "str") := by decide +kernel
theorem bt_range : bootBuiltins "range" = some (.type "range") := by decide +kernel
theorem bt_enumerate : bootBuiltins "enumerate" = some (.type "enumerate") := by decide +kernel
theorem bt_zip : bootBuiltins "zip" = some (.type "zip") := by decide +kernel
theorem bt_set : bootBuiltins "set" = some (.type "set") := by decide +kernel
theorem bt_sorted : bootBuiltins "sorted" = some (.builtin "sorted") := by decide +kernel
theorem bt_sum : bootBuiltins "sum" = some (.builtin "sum") := by decide +kernel
theorem bt_max : bootBuiltins "max" = some (.builtin "max") := by decide +kernel
theorem bt_abs : bootBuiltins "abs" = some (.builtin "abs") := by decide +kernel
theorem bt_any : bootBuiltins "any" = some (.builtin "any") := by decide +kernel
theorem bt_all : bootBuiltins "all" = some (.builtin "all") := by decide +kernel
/-! ### the rules, one for each operator and each built-in name -/
section
variable {X : Cx} {C : Addr} {k : Nat} {N Vn Ln Gn : List Str} {n : Nat} {env : En} {Q : QE} {QT : QB} {QR' : QR} {p pos : Pos} {e a b c : Expr} {es : List Expr}
theorem ev_add (h : Ev X C a n env fun d1 n1 env1 => Ev X C b n1 env1 fun d2 n2 env2 => Op2 X.K C (rAddA X.K) d1 d2 fun d => Q d n2 env2) : Ev X C (.BinOp a .Add b pos) n env Q := ev_bin op_addA h
theorem ev_sub (h : Ev X C a n env fun d1 n1 env1 => Ev X C b n1 env1 fun d2 n2 env2 => Op2 X.K C (rI0 fun i j => .int (i - j)) d1 d2 fun d => Q d n2 env2) : Ev X C (.BinOp a .Sub b pos) n env Q := ev_bin op_sub h
theorem ev_mul (h : Ev X C a n env fun d1 n1 env1 => Ev X C b n1 env1 fun d2 n2 env2 => Op2 X.K C rMulA d1 d2 fun d => Q d n2 env2) : Ev X C (.BinOp a .Mult b pos) n env Q := ev_bin op_mulA h
theorem ev_mod (h : Ev X C a n env fun d1 n1 env1 => Ev X C b n1 env1 fun d2 n2 env2 => Op2 X.K C (rI (fun _ j => 0 < j) fun i j => .int (i % j)) d1 d2 fun d => Q d n2 env2) : Ev X C (.BinOp a .Mod b pos) n env Q := ev_bin op_mod h
theorem ev_fdiv (h : Ev X C a n env fun d1 n1 env1 => Ev X C b n1 env1 fun d2 n2 env2 => Op2 X.K C (rI CDiv fun i j => .int (i / j)) d1 d2 fun d => Q d n2 env2) : Ev X C (.BinOp a .FloorDiv b pos) n env Q := ev_bin op_fdiv h
theorem ev_pow (h : Ev X C a n env fun d1 n1 env1 => Ev X C b n1 env1 fun d2 n2 env2 => Op2 X.K C (rI CPow fun i j => .int (i ^ j.toNat)) d1 d2 fun d => Q d n2 env2) : Ev X C (.BinOp a .Pow b pos) n env Q := ev_bin op_pow h
theorem ev_lt (h : Ev X C a n env fun d1 n1 env1 => Ev X C b n1 env1 fun d2 n2 env2 => Op2 X.K C (rI0 fun i j => .bl (decide (i < j))) d1 d2 fun d => Q d n2 env2) : Ev X C (.Compare a [.Lt] [b] pos) n env Q := ev_cmp op_lt (nomark _) h
theorem evt_lt (h : Ev X C a n env fun d1 n1 env1 => Ev X C b n1 env1 fun d2 n2 env2 => Op2 X.K C (rI0 fun i j => .bl (decide (i < j))) d1 d2 fun d => ∃ k, d = .bl k ∧ QT k n2 env2) : EvT X C (.Compare a [.Lt] [b] pos) n env QT := evt_cmp op_lt (nomark _) h
theorem ev_le (h : Ev X C a n env fun d1 n1 env1 => Ev X C b n1 env1 fun d2 n2 env2 => Op2 X.K C (rI0 fun i j => .bl (decide (i ≤ j))) d1 d2 fun d => Q d n2 env2) : Ev X C (.Compare a [.LtE] [b] pos) n env Q := ev_cmp op_le (nomark _) h
theorem evt_le (h : Ev X C a n env fun d1 n1 env1 => Ev X C b n1 env1 fun d2 n2 env2 => Op2 X.K C (rI0 fun i j => .bl (decide (i ≤ j))) d1 d2 fun d => ∃ k, d = .bl k ∧ QT k n2 env2) : EvT X C (.Compare a [.LtE] [b] pos) n env QT := evt_cmp op_le (nomark _) h
theorem ev_gt (h : Ev X C a n env fun d1 n1 env1 => Ev X C b n1 env1 fun d2 n2 env2 => Op2 X.K C (rI0 fun i j => .bl (decide (j < i))) d1 d2 fun d => Q d n2 env2) : Ev X C (.Compare a [.Gt] [b] pos) n env Q := ev_cmp op_gt (nomark _) h
theorem evt_gt (h : Ev X C a n env fun d1 n1 env1 => Ev X C b n1 env1 fun d2 n2 env2 => Op2 X.K C (rI0 fun i j => .bl (decide (j < i))) d1 d2 fun d => ∃ k, d = .bl k ∧ QT k n2 env2) : EvT X C (.Compare a [.Gt] [b] pos) n env QT := evt_cmp op_gt (nomark _) h
theorem ev_ge (h : Ev X C a n env fun d1 n1 env1 => Ev X C b n1 env1 fun d2 n2 env2 => Op2 X.K C (rI0 fun i j => .bl (decide (j ≤ i))) d1 d2 fun d => Q d n2 env2) : Ev X C (.Compare a [.GtE] [b] pos) n env Q := ev_cmp op_ge (nomark _) h
theorem evt_ge (h : Ev X C a n env fun d1 n1 env1 => Ev X C b n1 env1 fun d2 n2 env2 => Op2 X.K C (rI0 fun i j => .bl (decide (j ≤ i))) d1 d2 fun d => ∃ k, d = .bl k ∧ QT k n2 env2) : EvT X C (.Compare a [.GtE] [b] pos) n env QT := evt_cmp op_ge (nomark _) h
theorem ev_eq (hX : XOk X k N Vn Ln Gn) (h : Ev X C a n env fun d1 n1 env1 => Ev X C b n1 env1 fun d2 n2 env2 => Op2 X.K C (rEqA X.K) d1 d2 fun d => Q d n2 env2) : Ev X C (.Compare a [.Eq] [b] pos) n env Q := ev_cmp (op_eqA hX.hu64) (nomark _) h
theorem evt_eq (hX : XOk X k N Vn Ln Gn) (h : Ev X C a n env fun d1 n1 env1 => Ev X C b n1 env1 fun d2 n2 env2 => Op2 X.K C (rEqA X.K) d1 d2 fun d => ∃ k, d = .bl k ∧ QT k n2 env2) : EvT X C (.Compare a [.Eq] [b] pos) n env QT := evt_cmp (op_eqA hX.hu64) (nomark _) h
theorem ev_ne (hX : XOk X k N Vn Ln Gn) (h : Ev X C a n env fun d1 n1 env1 => Ev X C b n1 env1 fun d2 n2 env2 => Op2 X.K C (rNeA X.K) d1 d2 fun d => Q d n2 env2) : Ev X C (.Compare a [.NotEq] [b] pos) n env Q := ev_cmp (op_neA hX.hu64) (nomark _) h
theorem evt_ne (hX : XOk X k N Vn Ln Gn) (h : Ev X C a n env fun d1 n1 env1 => Ev X C b n1 env1 fun d2 n2 env2 => Op2 X.K C (rNeA X.K) d1 d2 fun d => ∃ k, d = .bl k ∧ QT k n2 env2) : EvT X C (.Compare a [.NotEq] [b] pos) n env QT := evt_cmp (op_neA hX.hu64) (nomark _) h
theorem ev_is (h : Ev X C a n env fun d1 n1 env1 => Ev X C b n1 env1 fun d2 n2 env2 => Op2 X.K C (fun x y H Q => y = .non ∧ Q (.bl (decide (x = .non))) H) d1 d2 fun d => Q d n2 env2) : Ev X C (.Compare a [.Is] [b] pos) n env Q := ev_cmp op_isN (nomark _) h
theorem evt_is (h : Ev X C a n env fun d1 n1 env1 => Ev X C b n1 env1 fun d2 n2 env2 => Op2 X.K C (fun x y H Q => y = .non ∧ Q (.bl (decide (x = .non))) H) d1 d2 fun d => ∃ k, d = .bl k ∧ QT k n2 env2) : EvT X C (.Compare a [.Is] [b] pos) n env QT := evt_cmp op_isN (nomark _) h
theorem ev_isnot (h : Ev X C a n env fun d1 n1 env1 => Ev X C b n1 env1 fun d2 n2 env2 => Op2 X.K C (fun x y H Q => y = .non ∧ Q (.bl (!decide (x = .non))) H) d1 d2 fun d => Q d n2 env2) : Ev X C (.Compare a [.IsNot] [b] pos) n env Q := ev_cmp op_notN (nomark _) h
theorem evt_isnot (h : Ev X C a n env fun d1 n1 env1 => Ev X C b n1 env1 fun d2 n2 env2 => Op2 X.K C (fun x y H Q => y = .non ∧ Q (.bl (!decide (x = .non))) H) d1 d2 fun d => ∃ k, d = .bl k ∧ QT k n2 env2) : EvT X C (.Compare a [.IsNot] [b] pos) n env QT := evt_cmp op_notN (nomark _) h
theorem ev_in (hX : XOk X k N Vn Ln Gn) (hm : behindInMarks .In b = false) (h : Ev X C a n env fun d1 n1 env1 => Ev X C b n1 env1 fun d2 n2 env2 => Op2 X.K C (rInA X.K) d1 d2 fun d => Q d n2 env2) : Ev X C (.Compare a [.In] [b] pos) n env Q := ev_cmp (op_inA hX.hu) hm h
theorem evt_in (hX : XOk X k N Vn Ln Gn) (hm : behindInMarks .In b = false) (h : Ev X C a n env fun d1 n1 env1 => Ev X C b n1 env1 fun d2 n2 env2 => Op2 X.K C (rInA X.K) d1 d2 fun d => ∃ k, d = .bl k ∧ QT k n2 env2) : EvT X C (.Compare a [.In] [b] pos) n env QT := evt_cmp (op_inA hX.hu) hm h
theorem ev_notin (hX : XOk X k N Vn Ln Gn) (hm : behindInMarks .NotIn b = false) (h : Ev X C a n env fun d1 n1 env1 => Ev X C b n1 env1 fun d2 n2 env2 => Op2 X.K C (rNotInA X.K) d1 d2 fun d => Q d n2 env2) : Ev X C (.Compare a [.NotIn] [b] pos) n env Q := ev_cmp (op_notinA hX.hu) hm h
theorem evt_notin (hX : XOk X k N Vn Ln Gn) (hm : behindInMarks .NotIn b = false) (h : Ev X C a n env fun d1 n1 env1 => Ev X C b n1 env1 fun d2 n2 env2 => Op2 X.K C (rNotInA X.K) d1 d2 fun d => ∃ k, d = .bl k ∧ QT k n2 env2) : EvT X C (.Compare a [.NotIn] [b] pos) n env QT := evt_cmp (op_notinA hX.hu) hm h
theorem ev_sub1 (hX : XOk X k N Vn Ln Gn) (hs : PlainIx b) (h : Ev X C a n env fun d1 n1 env1 => Ev X C b n1 env1 fun d2 n2 env2 => Op2 X.K C (rIxA X.K) d1 d2 fun d => Q d n2 env2) : Ev X C (.Subscript a b pos) n env Q := ev_ix (ix_any hX.hu) hs h
theorem ev_ch_lt (hm : lastMarks [.Lt, .Lt] [b, c] = false) (h : Ev X C a n env fun d1 n1 env1 => Ev X C b n1 env1 fun d2 n2 env2 => Op2 X.K C (rI0 fun i j => .bl (decide (i < j))) d1 d2 fun d => ∃ k, d = .bl k ∧ if k = true then Ev X C c n2 env2 fun d3 n3 env3 => Op2 X.K C (rI0 fun i j => .bl (decide (i < j))) d2 d3 fun d => Q d n3 env3 else Q (.bl false) n2 env2) : Ev X C (.Compare a [.Lt, .Lt] [b, c] pos) n env Q := ev_chain op_lt op_lt h hm
theorem ev_ch_le (hm : lastMarks [.LtE, .LtE] [b, c] = false) (h : Ev X C a n env fun d1 n1 env1 => Ev X C b n1 env1 fun d2 n2 env2 => Op2 X.K C (rI0 fun i j => .bl (decide (i ≤ j))) d1 d2 fun d => ∃ k, d = .bl k ∧ if k = true then Ev X C c n2 env2 fun d3 n3 env3 => Op2 X.K C (rI0 fun i j => .bl (decide (i ≤ j))) d2 d3 fun d => Q d n3 env3 else Q (.bl false) n2 env2) : Ev X C (.Compare a [.LtE, .LtE] [b, c] pos) n env Q := ev_chain op_le op_le h hm
theorem ev_len (hX : XOk X k N Vn Ln Gn) (hm : X.mg "len" = none) (hg : ("len" : Str) ∈ Gn) (he : starEach (e :: es) X.env = (false, eval e X.env) :: starEach es X.env) (hpl : (backTo pos (starEach es X.env)).any (·.1) = false) (h : EvA X C (e :: es) n env fun tds n' env' => ∃ ds, tds = ds.map .dat ∧ OpN X.K C (rLenA X.K) ds fun d => Q d n' env') : Ev X C (.Call (.Name "len" p) (e :: es) [] pos) n env Q := evB hX cr_lenA hm bt_len hg h he hpl
theorem ev_isinstance (hX : XOk X k N Vn Ln Gn) (hm : X.mg "isinstance" = none) (hg : ("isinstance" : Str) ∈ Gn) (he : starEach (e :: es) X.env = (false, eval e X.env) :: starEach es X.env) (hpl : (backTo pos (starEach es X.env)).any (·.1) = false) (h : EvA X C (e :: es) n env fun tds n' env' => ∃ ds, tds = ds.map .dat ∧ OpN X.K C (rIsiA X.K) ds fun d => Q d n' env') : Ev X C (.Call (.Name "isinstance" p) (e :: es) [] pos) n env Q := evB hX cr_isiA hm bt_isinstance hg h he hpl
theorem ev_abs (hX : XOk X k N Vn Ln Gn) (hm : X.mg "abs" = none) (hg : ("abs" : Str) ∈ Gn) (he : starEach (e :: es) X.env = (false, eval e X.env) :: starEach es X.env) (hpl : (backTo pos (starEach es X.env)).any (·.1) = false) (h : EvA X C (e :: es) n env fun tds n' env' => ∃ ds, tds = ds.map .dat ∧ OpN X.K C (fun xs H Q => ∃ i, xs = [.int i] ∧ Q (.int (if i < 0 then -i else i)) H) ds fun d => Q d n' env') : Ev X C (.Call (.Name "abs" p) (e :: es) [] pos) n env Q := evB hX call_abs hm bt_abs hg h he hpl
theorem ev_max (hX : XOk X k N Vn Ln Gn) (hm : X.mg "max" = none) (hg : ("max" : Str) ∈ Gn) (he : starEach (e :: es) X.env = (false, eval e X.env) :: starEach es X.env) (hpl : (backTo pos (starEach es X.env)).any (·.1) = false) (h : EvA X C (e :: es) n env fun tds n' env' => ∃ ds, tds = ds.map .dat ∧ OpN X.K C (rMaxA X.K) ds fun d => Q d n' env') : Ev X C (.Call (.Name "max" p) (e :: es) [] pos) n env Q := evB hX (cr_maxA hX.calm) hm bt_max hg h he hpl
theorem ev_sum (hX : XOk X k N Vn Ln Gn) (hm : X.mg "sum" = none) (hg : ("sum" : Str) ∈ Gn) (he : starEach (e :: es) X.env = (false, eval e X.env) :: starEach es X.env) (hpl : (backTo pos (starEach es X.env)).any (·.1) = false) (h : EvA X C (e :: es) n env fun tds n' env' => ∃ ds, tds = ds.map .dat ∧ OpN X.K C (rSum X.K) ds fun d => Q d n' env') : Ev X C (.Call (.Name "sum" p) (e :: es) [] pos) n env Q := evB hX (cr_sum hX.calm) hm bt_sum hg h he hpl
theorem ev_any (hX : XOk X k N Vn Ln Gn) (hm : X.mg "any" = none) (hg : ("any" : Str) ∈ Gn) (he : starEach (e :: es) X.env = (false, eval e X.env) :: starEach es X.env) (hpl : (backTo pos (starEach es X.env)).any (·.1) = false) (h : EvA X C (e :: es) n env fun tds n' env' => ∃ ds, tds = ds.map .dat ∧ OpN X.K C (rAny X.K) ds fun d => Q d n' env') : Ev X C (.Call (.Name "any" p) (e :: es) [] pos) n env Q := evB hX (cr_any hX.calm) hm bt_any hg h he hpl
theorem ev_all (hX : XOk X k N Vn Ln Gn) (hm : X.mg "all" = none) (hg : ("all" : Str) ∈ Gn) (he : starEach (e :: es) X.env = (false, eval e X.env) :: starEach es X.env) (hpl : (backTo pos (starEach es X.env)).any (·.1) = false) (h : EvA X C (e :: es) n env fun tds n' env' => ∃ ds, tds = ds.map .dat ∧ OpN X.K C (rAll X.K) ds fun d => Q d n' env') : Ev X C (.Call (.Name "all" p) (e :: es) [] pos) n env Q := evB hX (cr_all hX.calm) hm bt_all hg h he hpl
theorem ev_intc (hX : XOk X k N Vn Ln Gn) (hm : X.mg "int" = none) (hg : ("int" : Str) ∈ Gn) (he : starEach (e :: es) X.env = (false, eval e X.env) :: starEach es X.env) (hpl : (backTo pos (starEach es X.env)).any (·.1) = false) (h : EvA X C (e :: es) n env fun tds n' env' => ∃ ds, tds = ds.map .dat ∧ OpN X.K C rInt1 ds fun d => Q d n' env') : Ev X C (.Call (.Name "int" p) (e :: es) [] pos) n env Q := evTy hX cr_int1 hm bt_int hg h he hpl
theorem ev_tuple (hX : XOk X k N Vn Ln Gn) (hm : X.mg "tuple" = none) (hg : ("tuple" : Str) ∈ Gn) (he : starEach (e :: es) X.env = (false, eval e X.env) :: starEach es X.env) (hpl : (backTo pos (starEach es X.env)).any (·.1) = false) (h : EvA X C (e :: es) n env fun tds n' env' => ∃ ds, tds = ds.map .dat ∧ OpN X.K C (fun xs H Q => ∃ p ys, xs = [.ref p] ∧ ((SqL X.K H p ys ∧ ∀ l, H l = none → Q (.ref l) (upd H l (.tup ys))) ∨ (SqT X.K H p ys ∧ Q (.ref p) H))) ds fun d => Q d n' env') : Ev X C (.Call (.Name "tuple" p) (e :: es) [] pos) n env Q := evTy hX call_tuple_of hm bt_tuple hg h he hpl
theorem evr_list (hX : XOk X k N Vn Ln Gn) (hm : X.mg "list" = none) (hg : ("list" : Str) ∈ Gn) (he : starEach (e :: es) X.env = (false, eval e X.env) :: starEach es X.env) (hpl : (backTo pos (starEach es X.env)).any (·.1) = false) (h : EvA X C (e :: es) n env fun tds n' env' => ∃ ds, tds = ds.map .dat ∧ OpF X.K C (fun xs H Q => ∃ p ys, xs = [.ref p] ∧ (SqL X.K H p ys ∨ SqT X.K H p ys) ∧ ∀ l, H l = none → Q (.ref l) (upd H l (.lst ys))) ds fun td => QR' td n' env') : EvR X C (.Call (.Name "list" p) (e :: es) [] pos) n env QR' := evTyF hX call_list_of hm bt_list hg h he hpl
theorem ev_ty_int (hX : XOk X k N Vn Ln Gn) (hm : X.mg "int" = none) (hg : ("int" : Str) ∈ Gn) (q : Q (.ty "int") n env) : Ev X C (.Name "int" pos) n env Q := ev_ty hX hm bt_int hg q
theorem ev_ty_bool (hX : XOk X k N Vn Ln Gn) (hm : X.mg "bool" = none) (hg : ("bool" : Str) ∈ Gn) (q : Q (.ty "bool") n env) : Ev X C (.Name "bool" pos) n env Q := ev_ty hX hm bt_bool hg q
theorem ev_ty_list (hX : XOk X k N Vn Ln Gn) (hm : X.mg "list" = none) (hg : ("list" : Str) ∈ Gn) (q : Q (.ty "list") n env) : Ev X C (.Name "list" pos) n env Q := ev_ty hX hm bt_list hg q
theorem ev_ty_tuple (hX : XOk X k N Vn Ln Gn) (hm : X.mg "tuple" = none) (hg : ("tuple" : Str) ∈ Gn) (q : Q (.ty "tuple") n env) : Ev X C (.Name "tuple" pos) n env Q := ev_ty hX hm bt_tuple hg q
theorem ev_ty_dict (hX : XOk X k N Vn Ln Gn) (hm : X.mg "dict" = none) (hg : ("dict" : Str) ∈ Gn) (q : Q (.ty "dict") n env) : Ev X C (.Name "dict" pos) n env Q := ev_ty hX hm bt_dict hg q
theorem ev_ty_str (hX : XOk X k N Vn Ln Gn) (hm : X.mg "str" = none) (hg : ("str" : Str) ∈ Gn) (q : Q (.ty "str") n env) : Ev X C (.Name "str" pos) n env Q := ev_ty hX hm bt_str hg q
end
/-! ### arguments that are data -/
section
variable {Q : List D → Prop} {d1 d2 d3 d4 : D}
theorem dats0 (h : Q []) : ∃ ds : List D, ([] : List TD) = ds.map .dat ∧ Q ds := ⟨[], rfl, h⟩
theorem dats1 (h : Q [d1]) : ∃ ds : List D, [TD.dat d1] = ds.map .dat ∧ Q ds := ⟨[d1], rfl, h⟩
theorem dats2 (h : Q [d1, d2]) : ∃ ds : List D, [TD.dat d1, .dat d2] = ds.map .dat ∧ Q ds := ⟨[d1, d2], rfl, h⟩
theorem dats3 (h : Q [d1, d2, d3]) : ∃ ds : List D, [TD.dat d1, .dat d2, .dat d3] = ds.map .dat ∧ Q ds := ⟨[d1, d2, d3], rfl, h⟩
theorem dats4 (h : Q [d1, d2, d3, d4]) : ∃ ds : List D, [TD.dat d1, .dat d2, .dat d3, .dat d4] = ds.map .dat ∧ Q ds := ⟨[d1, d2, d3, d4], rfl, h⟩
theorem dats5 {d5 : D} (h : Q [d1, d2, d3, d4, d5]) : ∃ ds : List D, [TD.dat d1, .dat d2, .dat d3, .dat d4, .dat d5] = ds.map .dat ∧ Q ds := ⟨[d1, d2, d3, d4, d5], rfl, h⟩
theorem dats6 {d5 d6 : D} (h : Q [d1, d2, d3, d4, d5, d6]) : ∃ ds : List D, [TD.dat d1, .dat d2, .dat d3, .dat d4, .dat d5, .dat d6] = ds.map .dat ∧ Q ds := ⟨[d1, d2, d3, d4, d5, d6], rfl, h⟩
theorem dats7 {d5 d6 d7 : D} (h : Q [d1, d2, d3, d4, d5, d6, d7]) : ∃ ds : List D, [TD.dat d1, .dat d2, .dat d3, .dat d4, .dat d5, .dat d6, .dat d7] = ds.map .dat ∧ Q ds := ⟨[d1, d2, d3, d4, d5, d6, d7], rfl, h⟩
theorem dats8 {d5 d6 d7 d8 : D} (h : Q [d1, d2, d3, d4, d5, d6, d7, d8]) : ∃ ds : List D, [TD.dat d1, .dat d2, .dat d3, .dat d4, .dat d5, .dat d6, .dat d7, .dat d8] = ds.map .dat ∧ Q ds := ⟨[d1, d2, d3, d4, d5, d6, d7, d8], rfl, h⟩
theorem pats0 (h : Q []) : ∃ ds : List D, [TD.pool] = .pool :: ds.map .dat ∧ Q ds := ⟨[], rfl, h⟩
theorem pats1 (h : Q [d1]) : ∃ ds : List D, [TD.pool, TD.dat d1] = .pool :: ds.map .dat ∧ Q ds := ⟨[d1], rfl, h⟩
theorem pats2 (h : Q [d1, d2]) : ∃ ds : List D, [TD.pool, TD.dat d1, .dat d2] = .pool :: ds.map .dat ∧ Q ds := ⟨[d1, d2], rfl, h⟩
theorem pats3 (h : Q [d1, d2, d3]) : ∃ ds : List D, [TD.pool, TD.dat d1, .dat d2, .dat d3] = .pool :: ds.map .dat ∧ Q ds := ⟨[d1, d2, d3], rfl, h⟩
end
/-! ## K1 -/
end DL
namespace PySem
set_option maxHeartbeats 1000000 in
theorem meets_enumerate_new1B {v : Value} {o : Obj} {H : Heap → Prop} (B : Begins v o H) :
    Meets (Builtin.«enumerate.__new__» ⟨[.type "enumerate", v], []⟩) (fun _ R s => H s.heap ∧
      R (.ok (.ret (.ref (s.heap.push o).objs.size))) { s with heap := (s.heap.push o).push { cls := .type "enumerate", data := .fields #[.none, .bool false, .ref s.heap.objs.size, rawInt 0, .none, .none] } }) :=
  .of_wp fun prog w A R s h => by
    obtain ⟨hp, g, d, tk, os⟩ := s; obtain ⟨h1, h⟩ := h
    have hsub := sub_enumerate
    have q1 : ∀ {A' : Around} {E : Value → Shared → Prop} {Q : Value → Shared → Prop}, Q (.ref hp.objs.size) ⟨hp.push o, g, d, tk, os⟩ → wpAny (model prog w) A' (pyIter v) Q E ⟨hp, g, d, tk, os⟩ :=
      fun q => B.iter prog w _ _ ⟨hp, g, d, tk, os⟩ _ h1 q
    wp_walk using q1
    refine wpAny_stack_any fun st => wpAny_pure ?_
    split
    · rename_i c _ _ _ _ _
      cases (c == Value.type "enumerate")
      · wp_walk using q1
        exact ⟨_, rfl, h⟩
      · wp_walk using q1
        exact ⟨_, rfl, h⟩
    · wp_walk using q1
      exact ⟨_, rfl, h⟩
theorem call_enumerate_tuple {prog : Program} {w : World} {A : Around} {E : Value → Shared → Prop} {s : Shared} {l : Addr} {items : Array Value} {Q : Value → Shared → Prop} (hL : s.heap.IsTuple l items)
    (h : ∀ h', IsEnum h' (s.heap.objs.size + 1) s.heap.objs.size 0 .none → h'.IsTupleIter s.heap.objs.size l 0 → h'.objs.size = s.heap.objs.size + 2 →
      (∀ b o, s.heap.get? b = some o → h'.get? b = some o) → Q (.ref (s.heap.objs.size + 1)) { s with heap := h' }) :
    wpAny (model prog w) A (call (.type "enumerate") [.ref l]) Q E s := by
  refine callType_new F.called_enumerate (by decide) (F.typeCall_enumerate_1 _) (F.newCall_enumerate_1 _) (fun obj => F.args_object_init_2 obj _) F.entry_enumerate_new
    (meets_enumerate_new1B (begins_tuple l items)) ⟨hL, ?_⟩
  have hz : (s.heap.push { cls := .type "tuple_iterator", data := .fields #[.ref l, .int 0 0] }).objs.size = s.heap.objs.size + 1 := Heap.size_push ..
  show _ ∧ _
  rw [hz]
  have he : IsEnum ((s.heap.push { cls := .type "tuple_iterator", data := .fields #[.ref l, .int 0 0] }).push
      { cls := .type "enumerate", data := .fields #[.none, .bool false, .ref s.heap.objs.size, rawInt 0, .none, .none] }) (s.heap.objs.size + 1) s.heap.objs.size 0 .none := by
    have := Heap.get?_push_size (s.heap.push { cls := .type "tuple_iterator", data := .fields #[.ref l, .int 0 0] })
      (o := { cls := .type "enumerate", data := .fields #[.none, .bool false, .ref s.heap.objs.size, rawInt 0, .none, .none] }) rfl
    rw [hz] at this; exact this
  refine ⟨⟨_, he, rfl⟩, h _ he ⟨_, Heap.get?_push_of_some _ (Heap.get?_push_size _ rfl), rfl, rfl⟩ (by rw [Heap.size_push, hz]) fun b o x => Heap.get?_push_of_some _ (Heap.get?_push_of_some _ x)⟩
end PySem
namespace DL
open PySem PySem.Spec PyProof.Rows L2
open Evl (Ex)
/-! ### enumerate of a tuple -/
def IteT (K : PySem.W.Frag) (a : Addr) : It :=
  ⟨fun i H => ∃ (xs : List V) (x : V), SqT K H a xs ∧ xs[i]? = some x, fun i H v H' => ∃ T x, v = .ref T ∧ H T = none ∧ H' = upd H T (.tup [.int (i : Nat), x]) ∧ ∀ xs, SqT K H a xs → xs[i]? = some x, fun i H => ∃ xs : List V, SqT K H a xs ∧ xs.length ≤ i⟩
theorem turn_enumT {P : Program} {w : World} {K : PySem.W.Frag} {elts : List Expr} {kk : Nat} {tpos : Pos} (a e it : Addr) (hae : a ≠ e) (hai : a ≠ it) :
    Turn P w K (.Tuple elts kk tpos) (IteT K a) [e, it] e (fun i h => (∃ old, IsEnum h e it ((i : Nat) : Int) old) ∧ h.IsTupleIter it a i ∧ e ≠ it) where
  mem := by simp
  obj := fun i h st b hb => by
    obtain ⟨⟨old, he⟩, ⟨o, ho, hc, hd⟩, _⟩ := st
    have e' : b = e ∨ b = it := by simpa using hb
    rcases e' with z | z
    · rw [z]; exact ⟨_, he, fun v q => nomatch q⟩
    · rw [z]; exact ⟨o, ho, fun v q => by rw [hd] at q; cases q⟩
  keep := fun i h h' st k => let ⟨⟨old, he⟩, hi, hne⟩ := st; ⟨⟨old, k e (by simp) _ he⟩, hi.at fun o q => k it (by simp) o q, hne⟩
  item := by
    intro X hP hw hK hc i pins s σ H E I hf st hg
    subst hP hw hK
    obtain ⟨⟨old, he⟩, hit, hne⟩ := st
    obtain ⟨xs, x, hq, hx⟩ := hg
    obtain ⟨its, rv, p, hz⟩ := I.tuple hq
    obtain ⟨u, hu, ru⟩ := rv.get hx
    have hel : e < s.heap.objs.size := Heap.lt_size he
    have hil : it < s.heap.objs.size := by obtain ⟨_, q, _⟩ := hit; exact Heap.lt_size q
    have hil2 : i < its.length := (List.getElem?_eq_some_iff.mp hu).1
    refine wpAny_pyNext_enum_itemD (fp := [it, a]) (Draws.tuple (prog := X.prog) (w := X.w) (A := X.A.in1) (show X.A.in1.handled = none from I.ok.hd hc) it a hai its.toArray) he ⟨hit, p⟩ (by simpa using hil2) hne (by simp [hne, Ne.symm hae]) fun u' h' tk hP ho hst' hT hsz hk => ?_
    have hu' : u' = u := by
      have : its.toArray[i]? = some u' := hP
      rw [List.getElem?_toArray, hu] at this
      exact (Option.some.inj this).symm
    subst hu'
    refine ⟨_, rfl, wpAny_letOwnedTupleGo_enum (s := { s with heap := h', toks := tk + 1 }) ho fun h'' he' sb => ?_⟩
    have hT2 : h''.get? s.heap.objs.size = some { cls := .type "tuple", data := .seq #[.int i tk, u'] } := (sb.2 _ (Nat.ne_of_gt hel)).trans hT
    have new : ObjOk X.prog X.w (upd H s.heap.objs.size (.tup [.int (i : Nat), x])) h'' s.heap.objs.size (.tup [.int (i : Nat), x]) :=
      ⟨by show 2 ≤ sizeLine; decide, [.int i tk, u'], .cons ⟨_, rfl⟩ (.cons ru .nil), ⟨_, hT2, rfl, _, rfl⟩⟩
    have I1 : Inv X pins σ (upd H s.heap.objs.size (.tup [.int (i : Nat), x])) { s with heap := h'', toks := tk + 1 } :=
      I.turnedNew (ch := [e, it]) (fun b ob hb q => (sb.2 b (fun z => hb (by simp [z]))).trans (hk b ob (fun z => hb (by simp [z])) (fun z => hb (by simp [z])) q)) hf (Nat.le_refl _) new
    refine ⟨.ref s.heap.objs.size, _, I1, rfl, ⟨_, x, rfl, I.hok.fresh (Nat.le_refl _), rfl, fun ys hy => by rw [I.tuple_inj hy hq]; exact hx⟩, ⟨⟨u', ?_⟩, hst'.1.at fun o q => (sb.2 it (Ne.symm hne)).trans q, hne⟩, fun b hb => ?_⟩
    · have e1 : ((i + 1 : Nat) : Int) = (i : Int) + 1 := by omega
      rw [e1]; exact he'
    · have hb' : b < s.heap.objs.size := by
        have e' : b = e ∨ b = it := by simpa using hb
        rcases e' with z | z
        · rw [z]; exact hel
        · rw [z]; exact hil
      rw [upd_ne (Nat.ne_of_lt hb')]
      exact (hf b hb).1
  done := by
    intro X hP hw hK hc i pins s σ H E I hf st hg
    subst hP hw hK
    obtain ⟨⟨old, he⟩, hit, hne⟩ := st
    obtain ⟨xs, hq, hx⟩ := hg
    obtain ⟨its, rv, p, hz⟩ := I.tuple hq
    obtain ⟨f0, f1, f2, f3, f4, f5⟩ := hf it (by simp)
    have hl := rv.length
    have hT : s.TypeIs (.ref e) "enumerate" := ⟨_, he, rfl⟩
    unfold pyNext
    refine wpAny_bind (wpAny_attempt (wpAny_callSpecial?_slot (name := Str.ofString "__next__") hT F.slot_enumerate_next
      (wpAny_call_entry F.slot_enumerate_next hT F.entry_enumerate_next ?_ (F.args_enumerate_next_1 _))))
    show wpAny _ _ (field (.ref e) 2 >>= _) _ _ _
    refine wpAny_bind (wpAny_field he rfl (x := .ref it) rfl ?_)
    refine wpAny_bind (wpAny_nextOf_tuple_end (I.ok.hd hc) hit p (by simp; omega) fun h' x he' hx' => ?_)
    obtain ⟨o, ho, hc'⟩ := hx'
    refine wpAny_bind (wpAny_isInstance (T := "StopIteration") (b := true) ⟨o, ho, hc'⟩ isSubtype_stop ?_)
    exact wpAny_pure ⟨rfl, I.turned (t' := s.toks) (fun b o hb q => he' b o hb q) f0 f1 f3 f4 f5⟩
  self := fun A i s Q E st h => let ⟨⟨_, he⟩, _⟩ := st; wpAny_pyIter_enum he h
def iEnumT (K : PySem.W.Frag) (ta : TA) : TI := fun σ H R => ta σ H fun vs H1 => ∃ a xs, vs = [.ref a] ∧ SqT K H1 a xs ∧ R (IteT K a) H1
theorem pi_enumT {X : Cx} {e : Expr} {ta : TA} {p pos tpos : Pos} {elts : List Expr} {kk : Nat} (hg : Gl X "enumerate") (hm : X.mg "enumerate" = none) (ha : PA X [e] ta) (hs : starEach [e] X.env = [(false, eval e X.env)] := by rfl) :
    PI X (.Tuple elts kk tpos) (.Call (.Name "enumerate" p) [e] [] pos) (iEnumT X.K ta) := by
  refine ⟨fun pins s σ H R I h => ?_⟩
  refine Call_ (ld_blt I hg hm boot_enumerate (PyProof.Rows.callWith_type1 (thn (ha.run pos pins s σ H _ I h) fun us s1 ⟨vs, H1, I1, r1, q1⟩ => ?_) hs rfl))
  obtain ⟨a, xs, ex, hq, q⟩ := q1
  subst ex
  cases r1 with
  | cons r rr =>
    cases rr
    cases r
    obtain ⟨its, rv, p', hz⟩ := I1.tuple hq
    obtain ⟨oa, hoa, _⟩ := id p'
    have hal : a < s1.heap.objs.size := Heap.lt_size hoa
    refine call_enumerate_tuple p' fun h' he hit hsz hk => wpAny_pyIter_enum he ?_
    have I2 : Inv X pins σ H1 { s1 with heap := h' } := I1.kept (t' := s1.toks) hk
    refine ⟨s1.heap.objs.size + 1, [s1.heap.objs.size + 1, s1.heap.objs.size], _, _, H1, rfl, I2, turn_enumT a (s1.heap.objs.size + 1) s1.heap.objs.size (Nat.ne_of_lt (Nat.lt_succ_of_lt hal)) (Nat.ne_of_lt hal), ⟨⟨.none, he⟩, hit, Nat.succ_ne_self _⟩, fun b hb => ?_, q⟩
    have e' : b = s1.heap.objs.size + 1 ∨ b = s1.heap.objs.size := by simpa using hb
    have hle : s1.heap.objs.size ≤ b := by
      rcases e' with z | z
      · rw [z]; exact Nat.le_add_right _ _
      · rw [z]; exact Nat.le_refl _
    exact I1.fpOk hle (I1.hok.fresh hle)
/-! ## K2 -/
section
variable {X : Cx} {C : Addr} {k : Nat} {N Vn Ln Gn : List Str} {n : Nat} {env : En} {Q : QE} {QT : QB} {QR' : QR} {QA' : QA} {x y : Str} {p pos : Pos} {e a b c : Expr} {es : List Expr} {d : D} {E : EnD} {st : Stmt} {sts : List Stmt}
theorem ev_lookX (x : Str) (i : Nat) {sl : Sl} (hX : XOk X k N Vn Ln Gn) (hi : Lk N env x i sl) (hd : dOf sl = some d) (h : Ev X C e n ((hide env).set i (.dat d)) fun d' n' _ => flatD d' = true ∧ Q d' n' env) : Ev X C e n env Q := ev_look hi hd h
theorem evt_lookX (x : Str) (i : Nat) {sl : Sl} (hX : XOk X k N Vn Ln Gn) (hi : Lk N env x i sl) (hd : dOf sl = some d) (h : EvT X C e n ((hide env).set i (.dat d)) fun k n' _ => QT k n' env) : EvT X C e n env QT := evt_look hi hd h
/-- the items of an enumerated tuple -/
def enumD (ds : List D) : List D := (List.range ds.length).map fun i => .tup [.int (i : Nat), ds.getD i .non]
theorem enumD_get {ds : List D} {i : Nat} {d : D} (h : (enumD ds)[i]? = some d) : ∃ d', ds[i]? = some d' ∧ d = .tup [.int (i : Nat), d'] := by
  unfold enumD at h
  rw [List.getElem?_map] at h
  by_cases hi : i < ds.length
  · rw [List.getElem?_range hi] at h
    cases h
    exact ⟨ds[i], by simp [hi], by simp [hi]⟩
  · rw [List.getElem?_eq_none (by simp; omega)] at h; cases h
theorem enumD_length {ds : List D} : (enumD ds).length = ds.length := by unfold enumD; simp
theorem ei_enumT {kk : Nat} {tpos : Pos} {tgs : List Expr} {QI' : QI} (hX : XOk X k N Vn Ln Gn) (hg : ("enumerate" : Str) ∈ Gn) (hm : X.mg "enumerate" = none) (h : Ev X C a n env fun d n' env' => ∃ ds, d = .tup ds ∧ QI' (enumD ds) n' env') (hs : starEach [a] X.env = [(false, eval a X.env)] := by rfl) : EvI X C (.Tuple tgs kk tpos) (.Call (.Name "enumerate" p) [a] [] pos) n env QI' := fun B ts σ H R S q => by
  refine of_pi (pi_enumT (hX.gl _ hg).1 hm (pa_cons pe_t pa_nil hs) hs) (h B ts σ H _ S fun v H1 d n1 env1 ⟨ds, hd, hq⟩ S1 => ?_)
  subst hd
  obtain ⟨F, W, Z⟩ := id S1
  have t := Z.temps.1
  generalize hv : v = v' at t
  cases t with
  | dat rp =>
    have rp : Rep X.K C F v' (.tup ds) := rp
    cases rp with
    | @tup a vs _ g1 hr =>
      subst hv
      refine ⟨a, vs, rfl, SqT.of (Z.ex2 _ _ g1), q _ H1 (enumD ds) [(.ref a, .dat (.tup ds))] n1 env1 hq S1 ⟨fun us' i d' n env σ H hi S2 => ?_, fun us' n env σ H S2 => ?_⟩⟩
      · obtain ⟨F2, W2, Z2⟩ := S2
        have t := Z2.drop.temps.1
        cases t with
        | dat rp2 =>
          have rp2 : Rep X.K C F2 (.ref a) (.tup ds) := rp2
          cases rp2 with
          | @tup _ vs2 _ g2 hr2 =>
            obtain ⟨d0, hd0, ed⟩ := enumD_get hi
            subst ed
            obtain ⟨v, hv, rv⟩ := hr2.get hd0
            refine ⟨⟨vs2, v, SqT.of (Z2.ex2 _ _ g2), hv⟩, fun w H' ⟨T, x, e1, e2, e3, hw⟩ => ?_⟩
            subst e1 e3
            have e3 := hw vs2 (SqT.of (Z2.ex2 _ _ g2))
            rw [hv] at e3
            cases e3
            have hf : F2 T = none := Evl.fresh_back Z2.ex2 e2
            refine ⟨_, _, (Z2.fresh e2).push (.tup upd_same (.cons (.int _) (.cons (rv.mono (LeR.of (Ex.new hf))) .nil)))⟩
      · obtain ⟨F2, W2, Z2⟩ := S2
        have t := Z2.drop.temps.1
        cases t with
        | dat rp2 =>
          have rp2 : Rep X.K C F2 (.ref a) (.tup ds) := rp2
          cases rp2 with
          | @tup _ vs2 _ g2 hr2 => exact ⟨vs2, SqT.of (Z2.ex2 _ _ g2), by rw [enumD_length]; exact Nat.le_of_eq hr2.length⟩
end
/-! ### a dict under lock -/
section
variable {K : PySem.W.Frag} {C : Addr} {F H : Hp} {W : Addr → Option Tg} {B : Bs} {ts : List (V × TD)} {n : Nat} {env : En} {σ : St}
theorem sq_lock {F2 : Hp} {a : Addr} {od : Obj} {kvs : List (Key × V)} (h2 : F2 a = some (.frz od (.dK kvs))) : LeR K F2 (upd F2 a (.dK kvs)) := by
  have ne : ∀ b o, F2 b = some o → (∀ od' kvs', o ≠ .frz od' (.dK kvs')) → b ≠ a := fun b o e q z => by subst z; rw [h2] at e; cases e; exact q _ _ rfl
  refine ⟨fun b vs e => ?_, fun b vs e => ?_, fun b ks e => ?_, fun b C dx fs e => ?_, fun b xs e => ?_⟩
  · rw [upd_ne (ne b _ e fun _ _ z => nomatch z)]; exact e
  · rw [upd_ne (ne b _ e fun _ _ z => nomatch z)]; exact e
  · by_cases z : b = a
    · subst z
      rcases e with e | ⟨o, e⟩
      · rw [h2] at e; cases e
      · rw [h2] at e; cases e; exact .inl upd_same
    · rcases e with e | ⟨o, e⟩
      · exact .inl (by rw [upd_ne z]; exact e)
      · exact .inr ⟨o, by rw [upd_ne z]; exact e⟩
  · rw [upd_ne (ne b _ e fun _ _ z => nomatch z)]; exact e
  · rcases e with e | e
    · rcases e with e | ⟨o, e⟩
      · exact .inl (.inl (by rw [upd_ne (ne b _ e fun _ _ z => nomatch z)]; exact e))
      · exact .inl (.inr ⟨o, by rw [upd_ne (ne b _ e fun _ _ z => nomatch z)]; exact e⟩)
    · exact .inr e
theorem sq_unlock {F : Hp} {a : Addr} {od : Obj} {kvs : List (Key × V)} (h : F a = some (.dK kvs)) : LeR K F (upd F a (.frz od (.dK kvs))) := by
  have ne : ∀ b o, F b = some o → (∀ kvs', o ≠ .dK kvs') → b ≠ a := fun b o e q z => by subst z; rw [h] at e; cases e; exact q _ rfl
  refine ⟨fun b vs e => ?_, fun b vs e => ?_, fun b ks e => ?_, fun b C dx fs e => ?_, fun b xs e => ?_⟩
  · rw [upd_ne (ne b _ e fun _ z => nomatch z)]; exact e
  · rw [upd_ne (ne b _ e fun _ z => nomatch z)]; exact e
  · by_cases z : b = a
    · subst z
      rcases e with e | ⟨o, e⟩
      · rw [h] at e; cases e; exact .inr ⟨_, upd_same⟩
      · rw [h] at e; cases e
    · rcases e with e | ⟨o, e⟩
      · exact .inl (by rw [upd_ne z]; exact e)
      · exact .inr ⟨o, by rw [upd_ne z]; exact e⟩
  · rw [upd_ne (ne b _ e fun _ z => nomatch z)]; exact e
  · rcases e with e | e
    · rcases e with e | ⟨o, e⟩
      · exact .inl (.inl (by rw [upd_ne (ne b _ e fun _ z => nomatch z)]; exact e))
      · exact .inl (.inr ⟨o, by rw [upd_ne (ne b _ e fun _ z => nomatch z)]; exact e⟩)
    · exact .inr e
def Stt.B1 (B : Bs) (F H : Hp) (W : Addr → Option Tg) : Bs := ⟨F, fun b => if W b = none then H b else none, B.p, B.pl⟩
theorem Stt.lockG {a : Addr} {o0 o1 : HO} (S : Stt K C B F W ts n env σ H) (ha : F a = some o0) (l1 : LeR K F (upd F a o1)) (l2 : ∀ F2 : Hp, F2 a = some o1 → LeR K F2 (upd F2 a o0)) :
    Stt K C (Stt.B1 B (upd F a o1) (upd H a o1) W) (upd F a o1) W ts n env σ (upd H a o1) ∧
    ((Stt.B1 B (upd F a o1) (upd H a o1) W).H a = some o1 ∧ a ≠ B.p ∨ B.pl = false ∧ (Stt.B1 B (upd F a o1) (upd H a o1) W).H a = some o1) ∧
    ∀ {F2 H2 : Hp} {W2 : Addr → Option Tg} {ts2 : List (V × TD)} {n2 : Nat} {env2 : En} {σ2 : St}, Stt K C (Stt.B1 B (upd F a o1) (upd H a o1) W) F2 W2 ts2 n2 env2 σ2 H2 → H2 a = some o1 ∧ Stt K C B (upd F2 a o0) W2 ts2 n2 env2 σ2 (upd H2 a o0) := by
  have hw : W a = none := by
    cases e : W a with
    | none => rfl
    | some t => rw [(S.own a t e).1] at ha; cases ha
  have hHa : H a = some o0 := S.ex2 a o0 ha
  have nw : ∀ b t, W b = some t → b ≠ a := fun b t e z => by subst z; rw [hw] at e; cases e
  have np : B.pl = true → B.p ≠ a := fun hp z => by rw [← z, (S.pool hp).1] at ha; cases ha
  have h1a : (Stt.B1 B (upd F a o1) (upd H a o1) W).H a = some o1 := by
    show (if W a = none then (upd H a o1) a else none) = _
    rw [if_pos hw, upd_same]
  refine ⟨⟨Ex.refl _, fun b o h => ?_, fun b o h _ => ?_, fun b o h => .inl h, fun b t h => ?_, fun hp => ?_, S.len, fun i sl h => ?_, ?_⟩, ?_, ?_⟩
  · by_cases z : b = a
    · subst z; rw [upd_same] at h ⊢; exact h
    · rw [upd_ne z] at h ⊢; exact S.ex2 b o h
  · have h : (if W b = none then (upd H a o1) b else none) = some o := h
    by_cases z : W b = none
    · rw [if_pos z] at h; exact h
    · rw [if_neg z] at h; cases h
  · obtain ⟨q1, q2, o, q3⟩ := S.own b t h
    refine ⟨by rw [upd_ne (nw b t h)]; exact q1, ?_, o, by rw [upd_ne (nw b t h)]; exact q3⟩
    show (if W b = none then (upd H a o1) b else none) = none
    rw [if_neg (by rw [h]; exact fun z => nomatch z)]
  · obtain ⟨q1, ⟨o, q2⟩, q3⟩ := S.pool hp
    have hwp : W B.p = none := by
      cases e : W B.p with
      | none => rfl
      | some t => rw [(S.own _ t e).2.1] at q2; cases q2
    refine ⟨by show (upd F a o1) B.p = none; rw [upd_ne (np hp)]; exact q1, ?_, q3.mono (upd_ne (np hp)) (Nat.le_refl _)⟩
    obtain ⟨x, y, c, hq, _⟩ := q3
    exact ⟨_, by show (if W B.p = none then (upd H a o1) B.p else none) = _; rw [if_pos hwp, upd_ne (np hp)]; exact hq⟩
  · have key : SlOk K C (upd F a o1) (upd H a o1) W B i σ[i]? sl := (S.slots i sl h).mono l1 (fun b o w h => by rw [upd_ne (nw b _ w)]; exact h) fun _ h => h
    generalize σ[i]? = o at key
    cases key with
    | no => exact .no _
    | dat r => exact .dat r
    | pool hp => exact SlOk.pool (B := Stt.B1 B (upd F a o1) (upd H a o1) W) hp
    | lst w g r => exact .lst w g r
    | dct w g r => exact .dct w g r
    | dcl w g r => exact .dcl w g r
    | slf w w2 g g2 r => exact .slf w w2 g g2 r
  · have key : TsOk K C (upd F a o1) (upd H a o1) W B ts := TsOk.mono l1 (fun b o i _ w h => by rw [upd_ne (nw b _ w)]; exact h) (fun _ _ _ h => h) S.temps
    clear S
    induction ts with
    | nil => trivial
    | cons t ts ih =>
      refine ⟨?_, ih key.2⟩
      have k1 := key.1
      obtain ⟨v, td⟩ := t
      cases k1 with
      | dat r => exact .dat r
      | pool hp => exact TdOk.pool (B := Stt.B1 B (upd F a o1) (upd H a o1) W) hp
      | fl w g r => exact .fl w g r
      | fd w g r => exact .fd w g r
  · by_cases hp : B.pl = true
    · exact .inl ⟨h1a, (np hp).symm⟩
    · exact .inr ⟨by simpa using hp, h1a⟩
  · intro F2 H2 W2 ts2 n2 env2 σ2 Z
    have hF2 : F2 a = some o1 := Z.ex1 a o1 upd_same
    have hH2 : H2 a = some o1 := Z.ex2 a o1 hF2
    have ne2 : ∀ b t, W2 b = some t → b ≠ a := fun b t e z => by subst z; rw [(Z.own _ t e).1] at hF2; cases hF2
    have bn : ∀ b, (Stt.B1 B (upd F a o1) (upd H a o1) W).H b = none → b ≠ a → B.H b = none := fun b h hb => by
      have h : (if W b = none then (upd H a o1) b else none) = none := h
      by_cases z : W b = none
      · rw [if_pos z, upd_ne hb] at h
        cases q : B.H b with
        | none => rfl
        | some u =>
          by_cases z2 : B.pl = true ∧ b = B.p
          · obtain ⟨z1, z2⟩ := z2
            obtain ⟨_, _, x, y, c, hp, _⟩ := S.pool z1
            rw [z2, hp] at h; cases h
          · have := S.base b u q (fun q1 q2 => z2 ⟨q1, q2⟩)
            rw [h] at this; cases this
      · cases e : W b with
        | none => exact absurd e z
        | some t => exact (S.own b t e).2.1
    refine ⟨hH2, ?_, ?_, ?_, ?_, ?_, ?_, Z.len, ?_, ?_⟩
    · intro b o h
      by_cases z : b = a
      · subst z; rw [upd_same]; rw [S.ex1 b o h] at ha; cases ha; rfl
      · rw [upd_ne z]; exact Z.ex1 b o (by show (upd F a o1) b = some o; rw [upd_ne z]; exact S.ex1 b o h)
    · intro b o h
      by_cases z : b = a
      · subst z; rw [upd_same] at h ⊢; exact h
      · rw [upd_ne z] at h ⊢; exact Z.ex2 b o h
    · intro b o h q
      have hb := S.base b o h q
      by_cases z : b = a
      · subst z; rw [upd_same]; rw [hHa] at hb; cases hb; rfl
      · rw [upd_ne z]
        refine Z.base b o ?_ q
        show (if W b = none then (upd H a o1) b else none) = some o
        rw [if_pos, upd_ne z]
        · exact hb
        · cases e : W b with
          | none => rfl
          | some t => rw [(S.own b t e).2.1] at h; cases h
    · intro b o h
      by_cases z : b = a
      · subst z
        exact S.new b o0 ha |>.imp (fun e => by rw [upd_same] at h; cases h; exact e) id
      · rw [upd_ne z] at h
        rcases Z.new b o h with h | h
        · have h : (upd F a o1) b = some o := h
          rw [upd_ne z] at h
          exact S.new b o h
        · exact .inr (bn b h z)
    · intro b t h
      obtain ⟨q1, q2, o, q3⟩ := Z.own b t h
      exact ⟨by rw [upd_ne (ne2 b t h)]; exact q1, bn b q2 (ne2 b t h), o, by rw [upd_ne (ne2 b t h)]; exact q3⟩
    · intro hp
      obtain ⟨q1, q2, q3⟩ := Z.pool hp
      exact ⟨by rw [upd_ne (np hp)]; exact q1, (S.pool hp).2.1, q3.mono (upd_ne (np hp)) (Nat.le_refl _)⟩
    · intro i sl h
      have key : SlOk K C (upd F2 a o0) (upd H2 a o0) W2 (Stt.B1 B (upd F a o1) (upd H a o1) W) i σ2[i]? sl := (Z.slots i sl h).mono (l2 F2 hF2) (fun b o w h => by rw [upd_ne (ne2 b _ w)]; exact h) fun _ h => h
      generalize σ2[i]? = o at key
      cases key with
      | no => exact .no _
      | dat r => exact .dat r
      | pool hp => exact SlOk.pool (B := B) hp
      | lst w g r => exact .lst w g r
      | dct w g r => exact .dct w g r
      | dcl w g r => exact .dcl w g r
      | slf w w2 g g2 r => exact .slf w w2 g g2 r
    · have key : TsOk K C (upd F2 a o0) (upd H2 a o0) W2 (Stt.B1 B (upd F a o1) (upd H a o1) W) ts2 := TsOk.mono (l2 F2 hF2) (fun b o i _ w h => by rw [upd_ne (ne2 b _ w)]; exact h) (fun _ _ _ h => h) Z.temps
      clear Z
      induction ts2 with
      | nil => trivial
      | cons t ts ih =>
        refine ⟨?_, ih key.2⟩
        have k1 := key.1
        obtain ⟨v, td⟩ := t
        cases k1 with
        | dat r => exact .dat r
        | pool hp => exact TdOk.pool (B := B) hp
        | fl w g r => exact .fl w g r
        | fd w g r => exact .fd w g r
end
/-! ## K3 -/
/-! ### loops over dicts -/
inductive Kd | keys | vals | items
def itemsK : Kd → List (Str × D) → List D
  | .keys, ks => ks.map fun p => .str p.1
  | .vals, ks => ks.map fun p => p.2
  | .items, ks => ks.map fun p => .tup [.str p.1, p.2]
def itK : Kd → Addr → Obj → List (Key × V) → It
  | .keys => Itk
  | .vals => Itd
  | .items => Iti
def wiK : Kd → TE → TI
  | .keys => iKeys
  | .vals => iVals
  | .items => iItems
theorem wiK_of {kd : Kd} {te : TE} {σ : St} {H : Hp} {R : It → Hp → Prop} {a : Addr} {o : Obj} {kvs : List (Key × V)} (h : ∀ Q : VK, Q (.ref a) H → te σ H Q) (ha : H a = some (.frz o (.dK kvs))) (hr : R (itK kd a o kvs) H) : wiK kd te σ H R := by
  cases kd with
  | keys => exact h _ ⟨a, o, rfl, .inl ⟨kvs, ha, hr⟩⟩
  | vals => exact h _ ⟨a, o, kvs, rfl, ha, hr⟩
  | items => exact h _ ⟨a, o, kvs, rfl, ha, hr⟩
section
variable {K : PySem.W.Frag} {C : Addr} {B : Bs}
theorem RepK.at {F : Hp} : ∀ {kvs : List (Key × V)} {ks : List (Str × D)} {i : Nat} {p : Str × D}, RepK K C F kvs ks → ks[i]? = some p → ∃ v, kvs[i]? = some (.inr p.1, v) ∧ Rep K C F v p.2
  | _, _, _, _, .nil, e => by simp at e
  | _, _, 0, _, .cons h _, e => by simp at e; subst e; exact ⟨_, rfl, h⟩
  | _, _, i + 1, p, .cons _ r, e => by
    obtain ⟨v, h1, h2⟩ := RepK.at (i := i) (p := p) r (by simpa using e)
    exact ⟨v, by simpa using h1, h2⟩
theorem itK_ok {kd : Kd} {a : Addr} {o : Obj} {kvs : List (Key × V)} {ks : List (Str × D)} {ts : List (V × TD)} (hB : B.H a = some (.frz o (.dK kvs)) ∧ a ≠ B.p ∨ B.pl = false ∧ B.H a = some (.frz o (.dK kvs))) (hr : RepK K C B.F kvs ks) : ItOk K C B ts (itK kd a o kvs) (itemsK kd ks) := by
  have hH : ∀ {us n env σ H}, Sta K C B us n env σ H → H a = some (.frz o (.dK kvs)) := fun ⟨F, W, S⟩ => by
    rcases hB with ⟨h1, h2⟩ | ⟨h1, h2⟩
    · exact S.base a _ h1 fun _ => h2
    · exact S.base a _ h2 fun z => by rw [h1] at z; cases z
  have hl : (itemsK kd ks).length = kvs.length := by cases kd <;> (unfold itemsK; rw [List.length_map, hr.length])
  refine ⟨fun us i d n env σ H hi S => ?_, fun us n env σ H S => ?_⟩
  · have hlt : i < kvs.length := by have := (List.getElem?_eq_some_iff.mp hi).1; omega
    have hlt2 : i < ks.length := by rw [← hr.length]; exact hlt
    obtain ⟨v0, hv0, rv0⟩ := hr.at (i := i) (p := ks[i]) (by simp [hlt2])
    have hHa := hH S
    obtain ⟨F2, W2, Z⟩ := S
    cases kd with
    | keys =>
      have ed : d = .str (ks[i]).1 := by
        unfold itemsK at hi
        rw [List.getElem?_map, List.getElem?_eq_getElem hlt2] at hi
        exact (Option.some.inj hi).symm
      subst ed
      refine ⟨⟨hHa, hlt⟩, fun w H' ⟨e1, k, v, e2, e3⟩ => ?_⟩
      subst e1 e3
      rw [hv0] at e2
      cases e2
      exact ⟨F2, W2, Z.push (.str _)⟩
    | vals =>
      have ed : d = (ks[i]).2 := by
        unfold itemsK at hi
        rw [List.getElem?_map, List.getElem?_eq_getElem hlt2] at hi
        exact (Option.some.inj hi).symm
      subst ed
      refine ⟨⟨hHa, hlt⟩, fun w H' ⟨e1, k, e2⟩ => ?_⟩
      subst e1
      rw [hv0] at e2
      cases e2
      exact ⟨F2, W2, Z.push (rv0.mono (LeR.of Z.ex1))⟩
    | items =>
      have ed : d = .tup [.str (ks[i]).1, (ks[i]).2] := by
        unfold itemsK at hi
        rw [List.getElem?_map, List.getElem?_eq_getElem hlt2] at hi
        exact (Option.some.inj hi).symm
      subst ed
      refine ⟨⟨hHa, hlt⟩, fun w H' ⟨T, k, v, e2, e1, e3, e4⟩ => ?_⟩
      subst e1 e4
      rw [hv0] at e2
      cases e2
      have hf : F2 T = none := Evl.fresh_back Z.ex2 e3
      exact ⟨_, _, (Z.fresh e3).push (.tup upd_same (.cons (.str _) (.cons ((rv0.mono (LeR.of Z.ex1)).mono (LeR.of (Ex.new hf))) .nil)))⟩
  · have hHa := hH S
    cases kd with
    | keys => exact ⟨hHa, Nat.le_of_eq hl.symm⟩
    | vals => exact ⟨hHa, Nat.le_of_eq hl.symm⟩
    | items => exact ⟨hHa, Nat.le_of_eq hl.symm⟩
end
section
variable {X : Cx} {C : Addr} {k : Nat} {N Vn Ln Gn Cn : List Str} {n : Nat} {env : En} {Q : QE} {QT : QB} {QR' : QR} {QA' : QA} {x y : Str} {p pos : Pos} {e a b c tg iter elt : Expr} {es ifs : List Expr} {d : D} {E : EnD} {st : Stmt} {sts body : List Stmt} {scope : Scope} {own : List (Str × Nat)}
/-- e is a dict of data, now and while others are made -/
def DAt (X : Cx) (C : Addr) (e : Expr) (env : En) (ks : List (Str × D)) : Prop := ∀ B F W ts n σ H, Stt X.K C B F W ts n env σ H → ∃ (a : Addr) (kvs : List (Key × V)), Rd F a (.dK kvs) ∧ RepK X.K C F kvs ks ∧ ∀ (F1 H1 : Hp) (Q : VK), LeR X.K F F1 → Ex F1 H1 → (∀ b t, W b = some t → H1 b = H b) → Q (.ref a) H1 → tE X e σ H1 Q
theorem da_name {i : Nat} {ks : List (Str × D)} (hX : XOk X k N Vn Ln Gn) (hl : Lk N env x i (.dat (.dct ks))) (hv : x ∈ Vn) : DAt X C (.Name x pos) env ks := fun B F W ts n σ H S => by
  obtain ⟨h1, h2⟩ := hl.ix
  obtain ⟨v1, v2, v3⟩ := hX.vis x hv
  have s := S.slots i _ h2
  generalize hx : σ[i]? = o at s
  cases s with
  | @dat v _ rp =>
    cases rp with
    | @dct a kvs _ g1 g2 => exact ⟨a, kvs, g1, g2, fun F1 H1 Q l e1 _ q => of_pe (pe_var (hX.get h1) v1 v2 v3) ⟨.ref a, hx, q⟩⟩
theorem da_fld {i : Nat} {f : Str} {fs : List (Str × D)} {ks : List (Str × D)} (hX : XOk X k N Vn Ln Gn) (hl : Lk N env x i (.dat (.obj fs))) (hv : x ∈ Vn) (hc : Cls X.K C) (hn : NoAttr X.K C f) (hf : fs.lookup f = some (.dct ks))
    (hb : attributeBase (.Name x p) f X.env (eval (.Name x p) X.env) = eval (.Name x p) X.env := by rfl) : DAt X C (.Attribute (.Name x p) f pos) env ks := fun B F W ts n σ H S => by
  obtain ⟨h1, h2⟩ := hl.ix
  obtain ⟨v1, v2, v3⟩ := hX.vis x hv
  have s := S.slots i _ h2
  generalize hx : σ[i]? = o at s
  cases s with
  | @dat v _ rp =>
    cases rp with
    | @obj a0 dx gs _ h3 h4 =>
      have look : ∀ {gs : List (Str × V)} {fs : List (Str × D)}, RepF X.K C F gs fs → fs.lookup f = some (.dct ks) → ∃ v, gs.lookup f = some v ∧ Rep X.K C F v (.dct ks) := by
        intro gs fs r
        induction fs generalizing gs with
        | nil => intro z; simp at z
        | cons p fs ih =>
          intro z
          cases r with
          | @cons g v d _ _ r1 r2 =>
            cases hg : f == g with
            | true =>
              simp only [List.lookup_cons, hg] at z ⊢
              cases z
              exact ⟨v, rfl, r1⟩
            | false =>
              simp only [List.lookup_cons, hg] at z ⊢
              exact ih r2 z
      obtain ⟨v, g1, g2⟩ := look h4 hf
      generalize hv : v = v' at g2
      cases g2 with
      | @dct a kvs _ g1' g2' =>
        subst hv
        exact ⟨a, kvs, g1', g2', fun F1 H1 Q l e1 _ q => of_pe (pe_fld (pe_var (hX.get h1) v1 v2 v3) hb) ⟨.ref a0, hx, a0, C, dx, gs, .ref a, rfl, e1 _ _ (l.ins _ _ _ _ h3), hc, hn, g1, q⟩⟩
def PiK (X : Cx) (kd : Kd) (tg e iter : Expr) : Prop := PI X tg iter (wiK kd (tE X e))
theorem pk_keys : PiK X .keys tg e e := pi_keys pe_t
theorem pk_vals {apos cpos : Pos} (hbase : attributeBase e "values" X.env (eval e X.env) = eval e X.env := by rfl) (hline : (apos.endLine == cpos.line) = true := by rfl) : PiK X .vals tg e (.Call (.Attribute e "values" apos) [] [] cpos) := pi_values pe_t hbase hline
theorem pk_items {apos cpos : Pos} {elts : List Expr} {kk : Nat} {tpos : Pos} (hbase : attributeBase e "items" X.env (eval e X.env) = eval e X.env := by rfl) (hline : (apos.endLine == cpos.line) = true := by rfl) : PiK X .items (.Tuple elts kk tpos) e (.Call (.Attribute e "items" apos) [] [] cpos) := pi_items pe_t hbase hline
theorem mem_lock {F : Hp} {a : Addr} {kvs : List (Key × V)} (h : F a = some (.dK kvs)) (od : Obj) : (∀ K : PySem.W.Frag, LeR K F (upd F a (.frz od (.dK kvs)))) ∧ ∀ (K : PySem.W.Frag) (F2 : Hp), F2 a = some (.frz od (.dK kvs)) → LeR K F2 (upd F2 a (.dK kvs)) :=
  ⟨fun _ => sq_unlock h, fun _ _ h2 => sq_lock h2⟩
theorem upd_id {F : Hp} {a : Addr} {o : HO} (h : F a = some o) : upd F a o = F := by
  funext b
  by_cases z : b = a
  · subst z; rw [upd_same, h]
  · rw [upd_ne z]
theorem forK_go (kd : Kd) (hX : XOk X k N Vn Ln Gn) {ks : List (Str × D)} {B : Bs} {ts : List (V × TD)} {σ : St} {H : Hp} {F : Hp} {W : Addr → Option Tg} {Z : Ends} {a : Addr} {od : Obj} {kvs : List (Key × V)} (S : Stt X.K C B F W ts n env σ H) (hB : B.H a = some (.frz od (.dK kvs)) ∧ a ≠ B.p ∨ B.pl = false ∧ B.H a = some (.frz od (.dK kvs))) (hF : RepK X.K C B.F kvs ks)
    (he : ∀ Q : VK, Q (.ref a) H → tE X e σ H Q)
    (h : ∃ Pv : Nat → Nat → En → Prop, Pv 0 n env ∧ (∀ (i : Nat) d n' env', (itemsK kd ks)[i]? = some d → Pv i n' env' → EvG X C tg (.dat d) n' env' fun n2 env2 => StB X C body n2 env2 { E with nx := Pv (i + 1), ct := Pv (i + 1), bk := E.nx }) ∧ ∀ n' env', Pv (itemsK kd ks).length n' env' → E.nx n' env')
    (h1 : ∀ n' env' σ' H', E.nx n' env' → Sta X.K C B ts n' env' σ' H' → Z.nx σ' H') (h2 : ∀ d n' v H', E.rt d n' → Sta X.K C B [(v, .dat d)] n' [] [] H' → Z.rt v H') :
    tFor (wiK kd (tE X e)) (tG X tg) (tSs X body) Z σ H := by
  obtain ⟨Pv, p0, turn, fin⟩ := h
  have ok : ItOk X.K C B ts (itK kd a od kvs) (itemsK kd ks) := itK_ok hB hF
  have hHa : H a = some (.frz od (.dK kvs)) := by
    rcases hB with ⟨q1, q2⟩ | ⟨q1, q2⟩
    · exact S.base a _ q1 fun _ => q2
    · exact S.base a _ q2 fun z => by rw [q1] at z; cases z
  refine wiK_of he hHa ?_
  refine ⟨fun i m σ' H' => m = (itemsK kd ks).length - i ∧ i ≤ (itemsK kd ks).length ∧ ∃ n' env', Pv i n' env' ∧ Sta X.K C B ts n' env' σ' H', ⟨(itemsK kd ks).length, by simp, Nat.zero_le _, n, env, p0, F, W, S⟩, ?_⟩
  rintro i m σ' H' ⟨rfl, hi, n', env', hp, S'⟩
  by_cases hlt : i < (itemsK kd ks).length
  · have hd : (itemsK kd ks)[i]? = some (itemsK kd ks)[i] := by simp [hlt]
    obtain ⟨go, yld⟩ := ok.item [] i _ n' env' σ' H' hd S'
    refine .inr ⟨go, fun σ2 H2 => ∃ n' env', Pv (i + 1) n' env' ∧ Sta X.K C B ts n' env' σ2 H2, fun σ2 H2 ⟨n2, env2, hp2, S2⟩ => ⟨(itemsK kd ks).length - (i + 1), by omega, rfl, hlt, n2, env2, hp2, S2⟩, fun v H2 hy => ?_⟩
    refine turn i _ n' env' hd hp B _ v σ' H2 _ (yld v H2 hy) fun n3 env3 σ3 H3 hb S3 => ?_
    exact hb B _ σ3 H3 _ S3 (fun n4 env4 σ4 H4 q S4 => ⟨n4, env4, q, S4⟩) h2 (fun n4 env4 σ4 H4 q S4 => h1 n4 env4 σ4 H4 q S4) (fun n4 env4 σ4 H4 q S4 => ⟨n4, env4, q, S4⟩)
  · have e : i = (itemsK kd ks).length := by omega
    subst e
    exact .inl ⟨ok.stop [] n' env' σ' H' S', h1 n' env' σ' H' (fin n' env' hp) S'⟩
theorem st_forK (kd : Kd) {ks : List (Str × D)} (hX : XOk X k N Vn Ln Gn) (hd : DAt X C e env ks) (hpi : PiK X kd tg e iter)
    (h : ∃ Pv : Nat → Nat → En → Prop, Pv 0 n env ∧ (∀ (i : Nat) d n' env', (itemsK kd ks)[i]? = some d → Pv i n' env' → EvG X C tg (.dat d) n' env' fun n2 env2 => StB X C body n2 env2 { E with nx := Pv (i + 1), ct := Pv (i + 1), bk := E.nx }) ∧ ∀ n' env', Pv (itemsK kd ks).length n' env' → E.nx n' env')
    (hs : ∀ x, foldedSetIterable iter X.env x = pure x := by intro _; rfl) : StS X C (.For tg iter body [] pos) n env E := fun B ts σ H Z S h1 h2 h3 h4 => by
  obtain ⟨F, W, S⟩ := S
  obtain ⟨a, kvs, hr, hrep, hev⟩ := hd B F W ts n σ H S
  have hps := ps_for (pos := pos) hX.pass hX.calm hpi (pg_t (X := X) (e := tg)) (pss_t (X := X) (sts := body)) hs
  rcases hr with hr | ⟨od, hr⟩
  · refine of_ps (ps_lock hps) ⟨a, .dK kvs, S.ex2 _ _ hr, trivial, fun od => ?_⟩
    obtain ⟨l1, l2⟩ := mem_lock hr od
    obtain ⟨S1, hB, back⟩ := S.lockG hr (l1 X.K) (l2 X.K)
    refine forK_go kd hX S1 hB (hrep.mono (l1 X.K)) (fun Q q => hev _ _ Q (l1 X.K) S1.ex2 (fun b t hb => upd_ne fun z => by subst z; rw [(S.own b t hb).1] at hr; cases hr) q) h (fun n' env' σ' H' q S' => ?_) (fun d n' v H' q S' => ?_)
    · obtain ⟨F2, W2, S2⟩ := S'
      obtain ⟨b1, b2⟩ := back S2
      exact ⟨b1, h1 n' env' σ' _ q ⟨_, _, b2⟩⟩
    · obtain ⟨F2, W2, S2⟩ := S'
      obtain ⟨b1, b2⟩ := back S2
      exact ⟨b1, h2 d n' v _ q ⟨_, _, b2⟩⟩
  · have hid := upd_id hr
    have hidH := upd_id (S.ex2 _ _ hr)
    obtain ⟨S1, hB, back⟩ := S.lockG hr (by rw [hid]; exact LeR.refl) (fun F2 h => by rw [upd_id h]; exact LeR.refl)
    rw [hid, hidH] at S1 hB back
    refine of_ps hps ?_
    refine forK_go kd hX S1 hB hrep (fun Q q => hev _ _ Q LeR.refl S1.ex2 (fun _ _ _ => rfl) q) h (fun n' env' σ' H' q S' => ?_) (fun d n' v H' q S' => ?_)
    · obtain ⟨F2, W2, S2⟩ := S'
      obtain ⟨b1, b2⟩ := back S2
      rw [upd_id b1] at b2
      exact h1 n' env' σ' _ q ⟨_, _, b2⟩
    · obtain ⟨F2, W2, S2⟩ := S'
      obtain ⟨b1, b2⟩ := back S2
      rw [upd_id b1] at b2
      exact h2 d n' v _ q ⟨_, _, b2⟩
end
/-! ## K4 -/
/-! ### blocks over dicts -/
section
variable {X : Cx} {C : Addr} {k : Nat} {N Vn Ln Gn Cn : List Str} {n : Nat} {env : En} {Q : QE} {QT : QB} {QR' : QR} {QA' : QA} {x y : Str} {p pos : Pos} {e a b c tg iter elt : Expr} {es ifs : List Expr} {d : D} {E : EnD} {st : Stmt} {sts body : List Stmt} {scope : Scope} {own : List (Str × Nat)}
/-- as lc_go, at one state alone -/
theorem lc_goB (V' L' G' C' : List Str) (own : List (Str × Nat)) (hX : XOk X k N Vn Ln Gn) (hb2 : blkV scope V' L' G' C' = true) {wi : TI} {J : It} {ds : List D} {Pv : Nat → List D → Nat → En → Prop}
    {B : Bs} {ts : List (V × TD)} {σ : St} {H : Hp} {R : VK}
    (hwi : ∀ R : It → Hp → Prop, R J H → wi σ H R) (ok : ItOk X.K C B ts J ds) (p0 : Pv 0 [] n (wipeE env (own.map (·.2)))) (turn : LcTurn X C scope k N V' L' G' C' (own.map (·.2)) tg ifs elt Pv ds)
    (fin : ∀ acc n' env', Pv ds.length acc n' env' → wipeE env' (own.map (·.2)) = env' ∧ QR' (.fl acc) n' env')
    (S : Sta X.K C B ts n env σ H) (q : ∀ v H' td n' env', QR' td n' env' → Sta X.K C B ((v, td) :: ts) n' env' σ H' → R v H') :
    tLc wi (fun v σ H Q => ∀ s H0 Cc cl fp, tG (X.blk s H0 scope (compEnvC scope cl Cc X.env) fp) tg v σ H Q) (fun σ H Q => ∀ s H0 Cc cl fp, tPT (X.blk s H0 scope (compEnvC scope cl Cc X.env) fp) ifs σ H Q) (fun σ H Q => ∀ s H0 Cc cl fp, tE (X.blk s H0 scope (compEnvC scope cl Cc X.env) fp) elt σ H Q) (own.map (·.2)) σ H R := by
  generalize hvs : own.map (·.2) = vs at p0 turn fin
  refine hwi _ fun Dn hD => ?_
  obtain ⟨F1, W1, S1⟩ := S
  obtain ⟨W2, S2⟩ := S1.newF hD (.nil : Reps X.K C F1 [] [])
  refine ⟨fun i m H' => m = ds.length - i ∧ i ≤ ds.length ∧ ∃ acc n' env', Pv i acc n' env' ∧ Sta X.K C B ((.ref Dn, .fl acc) :: ts) n' env' (wipe σ vs) H', ⟨ds.length, by simp, Nat.zero_le _, [], n, _, p0, F1, W2, S2.wipe vs⟩, ?_⟩
  rintro i m H' ⟨rfl, hi, acc, n', env', hp, S'⟩
  by_cases hlt : i < ds.length
  · have hd : ds[i]? = some ds[i] := by simp [hlt]
    obtain ⟨go, yld⟩ := ok.item [(.ref Dn, .fl acc)] i _ n' env' _ H' hd S'
    refine .inr ⟨go, fun H2 => ∃ acc n' env', Pv (i + 1) acc n' env' ∧ Sta X.K C B ((.ref Dn, .fl acc) :: ts) n' env' (wipe σ vs) H2, fun H2 ⟨acc2, n2, env2, hp2, S2⟩ => ⟨ds.length - (i + 1), by omega, rfl, hlt, acc2, n2, env2, hp2, S2⟩, fun v H2 hy => ?_⟩
    intro s H0 Cc cl fp
    obtain ⟨x1, x2⟩ := blk_xok hX hb2 s H0 Cc cl fp
    refine turn i _ acc n' env' hd hp s H0 Cc cl fp x1 x2 B _ v _ H2 _ (yld v H2 hy) fun n3 env3 σ3 H3 hb S3 hw => ?_
    have hw' : wipe σ3 vs = wipe σ vs := hw.trans (wipe_wipe fun _ z => z)
    refine ⟨hw', fun s H0 Cc cl fp => ?_⟩
    obtain ⟨x1, x2⟩ := blk_xok hX hb2 s H0 Cc cl fp
    refine hb s H0 Cc cl fp x1 x2 B _ σ3 H3 _ S3 fun b H4 n4 env4 hq S4 => ?_
    cases b with
    | false =>
      simp only [Bool.false_eq_true, if_false] at hq ⊢
      obtain ⟨F4, W4, S4⟩ := S4
      have S4 := S4.wipe vs
      rw [hw'] at S4
      exact ⟨acc, n4, _, hq, F4, W4, S4⟩
    | true =>
      simp only [if_true] at hq ⊢
      intro s H0 Cc cl fp
      obtain ⟨x1, x2⟩ := blk_xok hX hb2 s H0 Cc cl fp
      refine hq s H0 Cc cl fp x1 x2 B _ σ3 H4 _ S4 fun y H5 d n5 env5 ⟨hz, hq⟩ S5 => ?_
      obtain ⟨F5, W5, S5⟩ := S5
      obtain ⟨t1, t2, t3⟩ := S5.temps
      cases t1 with
      | dat rp =>
        generalize ha : (V.ref Dn, TD.fl acc).1 = aa at t2
        cases t2 with
        | @fl a2 vs2 _ w2 g2 r2 =>
          cases ha
          refine ⟨vs2, g2, Nat.lt_of_lt_of_le (by rw [r2.length]; exact hz) (by decide), acc ++ [d], n5, _, hq, F5, W5, ?_⟩
          have S6 := (S5.pop.growF g2 rp).wipe vs
          rw [hw'] at S6
          exact S6
  · have e : i = ds.length := by omega
    subst e
    obtain ⟨f1, f2⟩ := fin acc n' env' hp
    refine .inl ⟨ok.stop [(.ref Dn, .fl acc)] n' env' _ H' S', ?_⟩
    obtain ⟨F3, W3, S3⟩ := S'
    have S4 := S3.unwipe f1
    exact q _ H' _ n' env' f2 ⟨F3, W3, S4⟩
/-- the block over a dict, under lock -/
theorem lcK_go (kd : Kd) (V' L' G' C' : List Str) (own : List (Str × Nat)) (hX : XOk X k N Vn Ln Gn) (hb2 : blkV scope V' L' G' C' = true) {ks : List (Str × D)} {B : Bs} {ts : List (V × TD)} {σ : St} {H : Hp} {F : Hp} {W : Addr → Option Tg} {R : VK} {a : Addr} {od : Obj} {kvs : List (Key × V)} (S : Stt X.K C B F W ts n env σ H) (hB : B.H a = some (.frz od (.dK kvs)) ∧ a ≠ B.p ∨ B.pl = false ∧ B.H a = some (.frz od (.dK kvs))) (hF : RepK X.K C B.F kvs ks)
    (he : ∀ Q : VK, Q (.ref a) H → tE X e σ H Q)
    (h : ∃ Pv : Nat → List D → Nat → En → Prop, Pv 0 [] n (wipeE env (own.map (·.2))) ∧ LcTurn X C scope k N V' L' G' C' (own.map (·.2)) tg ifs elt Pv (itemsK kd ks) ∧ ∀ acc n' env', Pv (itemsK kd ks).length acc n' env' → wipeE env' (own.map (·.2)) = env' ∧ QR' (.fl acc) n' env')
    (q : ∀ v H' td n' env', QR' td n' env' → Sta X.K C B ((v, td) :: ts) n' env' σ H' → R v H') :
    tLc (wiK kd (tE X e)) (fun v σ H Q => ∀ s H0 Cc cl fp, tG (X.blk s H0 scope (compEnvC scope cl Cc X.env) fp) tg v σ H Q) (fun σ H Q => ∀ s H0 Cc cl fp, tPT (X.blk s H0 scope (compEnvC scope cl Cc X.env) fp) ifs σ H Q) (fun σ H Q => ∀ s H0 Cc cl fp, tE (X.blk s H0 scope (compEnvC scope cl Cc X.env) fp) elt σ H Q) (own.map (·.2)) σ H R := by
  obtain ⟨Pv, p0, turn, fin⟩ := h
  have hHa : H a = some (.frz od (.dK kvs)) := by
    rcases hB with ⟨q1, q2⟩ | ⟨q1, q2⟩
    · exact S.base a _ q1 fun _ => q2
    · exact S.base a _ q2 fun z => by rw [q1] at z; cases z
  exact lc_goB V' L' G' C' own hX hb2 (fun R hR => wiK_of he hHa hR) (itK_ok hB hF) p0 turn fin ⟨F, W, S⟩ q
theorem evr_lcK (kd : Kd) {ks : List (Str × D)} (V' L' G' C' : List Str) (own : List (Str × Nat)) (hX : XOk X k N Vn Ln Gn) (hC : XCap X Cn) (hb1 : blkN N Cn scope own = true) (hb2 : blkV scope V' L' G' C' = true) (hd : DAt X C e env ks) (hpi : PiK X kd tg e iter)
    (h : ∃ Pv : Nat → List D → Nat → En → Prop, Pv 0 [] n (wipeE env (own.map (·.2))) ∧ LcTurn X C scope k N V' L' G' C' (own.map (·.2)) tg ifs elt Pv (itemsK kd ks) ∧ ∀ acc n' env', Pv (itemsK kd ks).length acc n' env' → wipeE env' (own.map (·.2)) = env' ∧ QR' (.fl acc) n' env')
    (hs : ∀ x, foldedSetIterable iter X.env x = pure x := by intro _; rfl) : EvR X C (.ListComp elt [⟨tg, iter, ifs, 0⟩] scope pos) n env QR' := fun B ts σ H R S q => by
  have nd : X.N.Nodup := by rw [hX.hN]; exact hX.nd
  obtain ⟨F, W, S⟩ := S
  obtain ⟨a, kvs, hr, hrep, hev⟩ := hd B F W ts n σ H S
  have hpe := pe_lc (pos := pos) (own := own) (elt := elt) (ifs := ifs) hX.calm nd hpi (blk_of hX hC hb1) (g := fun v σ H Q => ∀ s H0 Cc cl fp, tG (X.blk s H0 scope (compEnvC scope cl Cc X.env) fp) tg v σ H Q) (tt := fun σ H Q => ∀ s H0 Cc cl fp, tPT (X.blk s H0 scope (compEnvC scope cl Cc X.env) fp) ifs σ H Q) (te := fun σ H Q => ∀ s H0 Cc cl fp, tE (X.blk s H0 scope (compEnvC scope cl Cc X.env) fp) elt σ H Q) (fun s H0 Cc cl fp => ⟨fun pins s' σ H v u Q I r h => h s H0 Cc cl fp pins s' u I r⟩) (fun s H0 Cc cl fp => ⟨fun pins s' σ H Q I h => h s H0 Cc cl fp pins s' I⟩) (fun s H0 Cc cl fp => ⟨fun pins s' σ H Q I h => h s H0 Cc cl fp pins s' I⟩) hs
  rcases hr with hr | ⟨od, hr⟩
  · refine of_pe (pe_lock hpe) ⟨a, .dK kvs, S.ex2 _ _ hr, trivial, fun od => ?_⟩
    obtain ⟨l1, l2⟩ := mem_lock hr od
    obtain ⟨S1, hB, back⟩ := S.lockG hr (l1 X.K) (l2 X.K)
    refine lcK_go (QR' := QR') kd V' L' G' C' own hX hb2 S1 hB (hrep.mono (l1 X.K)) (fun Q q => hev _ _ Q (l1 X.K) S1.ex2 (fun b t hb => upd_ne fun z => by subst z; rw [(S.own b t hb).1] at hr; cases hr) q) h (fun v H' td n' env' hq S' => ?_)
    obtain ⟨F2, W2, S2⟩ := S'
    obtain ⟨b1, b2⟩ := back S2
    exact ⟨b1, q v _ td n' env' hq ⟨_, _, b2⟩⟩
  · have hid := upd_id hr
    have hidH := upd_id (S.ex2 _ _ hr)
    obtain ⟨S1, hB, back⟩ := S.lockG hr (by rw [hid]; exact LeR.refl) (fun F2 h => by rw [upd_id h]; exact LeR.refl)
    rw [hid, hidH] at S1 hB back
    refine of_pe hpe ?_
    refine lcK_go (QR' := QR') kd V' L' G' C' own hX hb2 S1 hB hrep (fun Q q => hev _ _ Q LeR.refl S1.ex2 (fun _ _ _ => rfl) q) h (fun v H' td n' env' hq S' => ?_)
    obtain ⟨F2, W2, S2⟩ := S'
    obtain ⟨b1, b2⟩ := back S2
    rw [upd_id b1] at b2
    exact q v _ td n' env' hq ⟨_, _, b2⟩
theorem st_setLcK (kd : Kd) {ks : List (Str × D)} {i : Nat} {spos py : Pos} (V' L' G' C' : List Str) (own : List (Str × Nat)) (hX : XOk X k N Vn Ln Gn) (hC : XCap X Cn) (hi : Ix N x i) (hx : X.env.scope.names.lookup x = some .local) (hb1 : blkN N Cn scope own = true) (hb2 : blkV scope V' L' G' C' = true) (hd : DAt X C e env ks) (hpi : PiK X kd tg e iter)
    (h : ∃ Pv : Nat → List D → Nat → En → Prop, Pv 0 [] n (wipeE env (own.map (·.2))) ∧ LcTurn X C scope k N V' L' G' C' (own.map (·.2)) tg ifs elt Pv (itemsK kd ks) ∧ ∀ acc n' env', Pv (itemsK kd ks).length acc n' env' → wipeE env' (own.map (·.2)) = env' ∧ E.nx n' (env'.set i (.lst acc)))
    (hk : X.env.scope.kind = .function) (hl : (py.line == pos.line) = true := by rfl) (ha : (scope.names.any fun (n, k) => n == x && (k == .local || k == .cell)) = false := by decide +kernel)
    (hs : ∀ x, foldedSetIterable iter X.env x = pure x := by intro _; rfl) : StS X C (.Assign [.Name x py] (.ListComp elt [⟨tg, iter, ifs, 0⟩] scope pos) spos) n env E := fun B ts σ H Z S h1 _ _ _ => by
  have nd : X.N.Nodup := by rw [hX.hN]; exact hX.nd
  obtain ⟨F, W, S⟩ := S
  obtain ⟨a, kvs, hr, hrep, hev⟩ := hd B F W ts n σ H S
  have hps : PS X (.Assign [.Name x py] (.ListComp elt [⟨tg, iter, ifs, 0⟩] scope pos) spos) _ := ps_setLc (own := own) (elt := elt) (ifs := ifs) (g := fun v σ H Q => ∀ s H0 Cc cl fp, tG (X.blk s H0 scope (compEnvC scope cl Cc X.env) fp) tg v σ H Q) (tt := fun σ H Q => ∀ s H0 Cc cl fp, tPT (X.blk s H0 scope (compEnvC scope cl Cc X.env) fp) ifs σ H Q) (te := fun σ H Q => ∀ s H0 Cc cl fp, tE (X.blk s H0 scope (compEnvC scope cl Cc X.env) fp) elt σ H Q) hX.calm nd (hX.get hi.get) hx (sw_true hk hx hl ha) hpi (blk_of hX hC hb1) (fun s H0 Cc cl fp => ⟨fun pins s' σ H v u Q I r h => h s H0 Cc cl fp pins s' u I r⟩) (fun s H0 Cc cl fp => ⟨fun pins s' σ H Q I h => h s H0 Cc cl fp pins s' I⟩) (fun s H0 Cc cl fp => ⟨fun pins s' σ H Q I h => h s H0 Cc cl fp pins s' I⟩) hs
  have h' : ∃ Pv : Nat → List D → Nat → En → Prop, Pv 0 [] n (wipeE env (own.map (·.2))) ∧ LcTurn X C scope k N V' L' G' C' (own.map (·.2)) tg ifs elt Pv (itemsK kd ks) ∧ ∀ acc n' env', Pv (itemsK kd ks).length acc n' env' → wipeE env' (own.map (·.2)) = env' ∧ ∃ acc', TD.fl acc = .fl acc' ∧ E.nx n' (env'.set i (.lst acc')) := by
    obtain ⟨Pv, p0, p1, p2⟩ := h
    exact ⟨Pv, p0, p1, fun acc n env hp => ⟨(p2 acc n env hp).1, acc, rfl, (p2 acc n env hp).2⟩⟩
  rcases hr with hr | ⟨od, hr⟩
  · refine of_ps (ps_lock hps) ⟨a, .dK kvs, S.ex2 _ _ hr, trivial, fun od => ?_⟩
    obtain ⟨l1, l2⟩ := mem_lock hr od
    obtain ⟨S1, hB, back⟩ := S.lockG hr (l1 X.K) (l2 X.K)
    refine lcK_go (QR' := fun td n' env' => ∃ acc', td = .fl acc' ∧ E.nx n' (env'.set i (.lst acc'))) kd V' L' G' C' own hX hb2 S1 hB (hrep.mono (l1 X.K)) (fun Q q => hev _ _ Q (l1 X.K) S1.ex2 (fun b t hb => upd_ne fun z => by subst z; rw [(S.own b t hb).1] at hr; cases hr) q) h' (fun v H' td n' env' ⟨acc, htd, hq⟩ S' => ?_)
    subst htd
    obtain ⟨F2, W2, S2⟩ := S'
    obtain ⟨W3, S3⟩ := S2.setF (i := i)
    obtain ⟨b1, b2⟩ := back S3
    exact ⟨b1, h1 n' _ _ _ hq ⟨_, _, b2⟩⟩
  · have hid := upd_id hr
    have hidH := upd_id (S.ex2 _ _ hr)
    obtain ⟨S1, hB, back⟩ := S.lockG hr (by rw [hid]; exact LeR.refl) (fun F2 h => by rw [upd_id h]; exact LeR.refl)
    rw [hid, hidH] at S1 hB back
    refine of_ps hps ?_
    refine lcK_go (QR' := fun td n' env' => ∃ acc', td = .fl acc' ∧ E.nx n' (env'.set i (.lst acc'))) kd V' L' G' C' own hX hb2 S1 hB hrep (fun Q q => hev _ _ Q LeR.refl S1.ex2 (fun _ _ _ => rfl) q) h' (fun v H' td n' env' ⟨acc, htd, hq⟩ S' => ?_)
    subst htd
    obtain ⟨F2, W2, S2⟩ := S'
    obtain ⟨W3, S3⟩ := S2.setF (i := i)
    obtain ⟨b1, b2⟩ := back S3
    rw [upd_id b1] at b2
    exact h1 n' _ _ _ hq ⟨_, _, b2⟩
end
/-! ## K5 -/
section
variable {K : PySem.W.Frag} {C : Addr} {Qd : D → Prop} {d0 d1 d2 : D} {r : List D}
theorem o_ixT0 (q : Qd d0) : Op2 K C (rIxA K) (.tup (d0 :: r)) (.int 0) Qd := o_ixT (j := 0) rfl q
theorem o_ixT1 (q : Qd d1) : Op2 K C (rIxA K) (.tup (d0 :: d1 :: r)) (.int 1) Qd := o_ixT (j := 1) rfl q
theorem o_ixT2 (q : Qd d2) : Op2 K C (rIxA K) (.tup (d0 :: d1 :: d2 :: r)) (.int 2) Qd := o_ixT (j := 2) rfl q
theorem o_ixL0 (q : Qd d0) : Op2 K C (rIxA K) (.lst (d0 :: r)) (.int 0) Qd := o_ixL (j := 0) rfl q
theorem o_ixL1 (q : Qd d1) : Op2 K C (rIxA K) (.lst (d0 :: d1 :: r)) (.int 1) Qd := o_ixL (j := 1) rfl q
theorem o_ixL2 (q : Qd d2) : Op2 K C (rIxA K) (.lst (d0 :: d1 :: d2 :: r)) (.int 2) Qd := o_ixL (j := 2) rfl q
end
theorem exEq {α : Type} {a : α} {p : α → Prop} (h : p a) : ∃ x, a = x ∧ p x := ⟨a, rfl, h⟩
theorem exBl {a : Bool} {p : Bool → Prop} (h : p a) : ∃ x, D.bl a = D.bl x ∧ p x := ⟨a, rfl, h⟩
theorem exInt {a : Int} {p : Int → Prop} (h : p a) : ∃ x, D.int a = D.int x ∧ p x := ⟨a, rfl, h⟩
theorem exStr {a : Str} {p : Str → Prop} (h : p a) : ∃ x, D.str a = D.str x ∧ p x := ⟨a, rfl, h⟩
theorem exTup {a : List D} {p : List D → Prop} (h : p a) : ∃ x, D.tup a = D.tup x ∧ p x := ⟨a, rfl, h⟩
theorem exLst {a : List D} {p : List D → Prop} (h : p a) : ∃ x, D.lst a = D.lst x ∧ p x := ⟨a, rfl, h⟩
theorem exDct {a : List (Str × D)} {p : List (Str × D) → Prop} (h : p a) : ∃ x, D.dct a = D.dct x ∧ p x := ⟨a, rfl, h⟩
theorem exFl {a : List D} {p : D → Prop} (h : p (.lst a)) : ∃ x, (TD.fl a).d = some x ∧ p x := ⟨_, rfl, h⟩
theorem exFd {a : List (Str × D)} {p : D → Prop} (h : p (.dct a)) : ∃ x, (TD.fd a).d = some x ∧ p x := ⟨_, rfl, h⟩
theorem exDat {a : D} {p : D → Prop} (h : p a) : ∃ x, (TD.dat a).d = some x ∧ p x := ⟨_, rfl, h⟩
theorem exItl {a : List D} {p : List D → Prop} (h : p a) : ∃ x, itemsD (.lst a) = some x ∧ p x := ⟨_, rfl, h⟩
/-! ## K6 -/
end DL
namespace LZ
open PySem
open PySem.Sem (wp)
open RZ
/-- the zip iterator, whose last tuple somebody else holds -/
abbrev IsZipO (h : Heap) (z TI TO T : Addr) (f : Bool) : Prop :=
  h.get? z = some { cls := .type "zip", dict := none, data := .fields #[rawInt T, .bool f, .bool false, .ref TI, .ref TO], slots := #[] }
section
variable {prog : Program} {w : World} {A : Around} {E : Value → Shared → Prop} {s : Shared}
theorem free_no {z TI TO T : Addr} {f : Bool} {oT : Obj} {Q : Bool → Shared → Prop} (hz : IsZipO s.heap z TI TO T f) (hT : s.heap.get? T = some oT)
    (hQ : ∀ h', IsZipO h' z TI TO T true → Heap.SameBut z s.heap h' → Q false { s with heap := h' }) : wpAny (model prog w) A (Builtin.SmallTypes.ownedTupleIsFree (.ref z)) Q E s := by
  unfold Builtin.SmallTypes.ownedTupleIsFree
  refine wpAny_bind (wpAny_field hz rfl (x := rawInt T) rfl ?_)
  show wpAny _ _ (loadIfAlive ((T : Int).toNat) >>= _) _ _ _
  rw [Int.toNat_natCast]
  refine wpAny_bind (PySem.W.kdx_alive hT ?_)
  simp only [Option.isNone_some, Bool.false_eq_true, if_false]
  refine wpAny_bind (wpAny_field hz rfl (x := .bool f) rfl ?_)
  cases f with
  | true =>
    rw [if_neg (show ¬ ((Value.bool true != Value.bool true) = true) from Bool.false_ne_true)]
    exact wpAny_pure (hQ s.heap hz (Heap.SameBut.refl _ _))
  | false =>
    rw [if_pos (show (Value.bool false != Value.bool true) = true from rfl)]
    refine wpAny_bind (wpAny_setField_rec hz (by simp) fun h₃ he₃ hs₃ => ?_)
    exact wpAny_pure (hQ h₃ he₃ hs₃)
theorem zipO_next_item {z TI TO i1 i2 l1 l2 T : Addr} {f : Bool} {oT : Obj} {k1 k2 : Nat} {xs ys : Array Value} {x y : Value} {Q : Value → Shared → Prop} (D : ZipApart z TI TO i1 i2 l1 l2)
    (hz : IsZipO s.heap z TI TO T f) (hT : s.heap.get? T = some oT) (hTI : IsPair s.heap TI (.ref i1) (.ref i2))
    (h1 : s.heap.IsTupleIter i1 l1 k1) (h2 : s.heap.IsTupleIter i2 l2 k2) (hl1 : s.heap.IsTuple l1 xs) (hl2 : s.heap.IsTuple l2 ys) (hx : xs[k1]? = some x) (hy : ys[k2]? = some y)
    (hQ : ∀ h', IsZipO h' z TI TO T true → h'.IsTupleIter i1 l1 (k1 + 1) → h'.IsTupleIter i2 l2 (k2 + 1) → IsPair h' s.heap.objs.size x y → h'.objs.size = s.heap.objs.size + 1 →
      (∀ c o, c ≠ z → c ≠ i1 → c ≠ i2 → s.heap.get? c = some o → h'.get? c = some o) → Q (.ref s.heap.objs.size) { s with heap := h' }) :
    wpAny (model prog w) A (Builtin.«zip.__next__» ⟨[.ref z], []⟩) (fun fin s' => ∃ v, fin = .done (.ret v) ∧ Q v s') E s := by
  show wpAny _ _ (field (.ref z) 2 >>= _) _ _ _
  refine wpAny_bind (wpAny_field hz rfl (x := .bool false) rfl ?_)
  show wpAny _ _ (field (.ref z) 3 >>= _) _ _ _
  refine wpAny_bind (wpAny_field hz rfl (x := .ref TI) rfl ?_)
  refine wpAny_bind (wpAny_seqItems hTI rfl ?_)
  show wpAny _ _ (Builtin.SmallTypes.ownedTupleIsFree (.ref z) >>= _) _ _ _
  refine wpAny_bind (free_no hz hT fun h₁ hz₁ hs₁ => ?_)
  simp only [Bool.false_eq_true, if_false]
  refine wpAny_bind ?_
  simp only [← Array.forIn_toList, List.forIn_cons, List.forIn_nil]
  refine wpAny_bind (wpAny_bind (wpAny_holding ?_))
  show wpAny _ _ (Builtin.SmallTypes.nextOf (.ref i1) >>= _) _ _ _
  refine wpAny_bind (nextOf_tuple_item (h1.extBut hs₁.extBut D.i1z) (hl1.extBut hs₁.extBut D.l1z) hx fun h₂ h1₂ hs₂ => wpAny_pure ?_)
  refine wpAny_pure ?_
  refine wpAny_bind (wpAny_bind (wpAny_holding ?_))
  show wpAny _ _ (Builtin.SmallTypes.nextOf (.ref i2) >>= _) _ _ _
  refine wpAny_bind (nextOf_tuple_item ((h2.extBut hs₁.extBut D.i2z).extBut hs₂.extBut D.i12.symm)
    ((hl2.extBut hs₁.extBut D.l2z).extBut hs₂.extBut D.l2i1) hy fun h₄ h2₄ hs₄ => wpAny_pure ?_)
  refine wpAny_pure (wpAny_pure ?_)
  show wpAny _ _ (newTuple [x, y] >>= _) _ _ _
  refine wpAny_bind (wpAny_newTuple ?_)
  have hsz : h₄.objs.size = s.heap.objs.size := by rw [hs₄.1, hs₂.1, hs₁.1]
  have hz₄ : IsZipO h₄ z TI TO T true := hs₄.extBut _ _ D.i2z.symm (hs₂.extBut _ _ D.i1z.symm hz₁)
  refine wpAny_pure ⟨_, rfl, ?_⟩
  show Q (.ref h₄.objs.size) _
  rw [hsz]
  refine hQ _ (Heap.get?_push_of_some _ hz₄) (((h1₂.extBut hs₄.extBut D.i12)).at fun o e => Heap.get?_push_of_some _ e) (h2₄.at fun o e => Heap.get?_push_of_some _ e) ?_ (by rw [Heap.size_push, hsz]) fun c o c1 c2 c3 e => Heap.get?_push_of_some _ (hs₄.extBut _ _ c3 (hs₂.extBut _ _ c2 (hs₁.extBut _ _ c1 e)))
  rw [← hsz]
  exact Heap.get?_push_size _ rfl
theorem zipO_next_end {z TI TO i1 i2 l1 l2 T : Addr} {f : Bool} {oT : Obj} {k1 k2 : Nat} {xs ys : Array Value} {Q : Fin → Shared → Prop} (hh : A.handled = none) (D : ZipApart z TI TO i1 i2 l1 l2)
    (hz : IsZipO s.heap z TI TO T f) (hT : s.heap.get? T = some oT) (hTI : IsPair s.heap TI (.ref i1) (.ref i2))
    (h1 : s.heap.IsTupleIter i1 l1 k1) (h2 : s.heap.IsTupleIter i2 l2 k2) (hl1 : s.heap.IsTuple l1 xs) (hl2 : s.heap.IsTuple l2 ys) (hend : xs[k1]? = none ∨ ys[k2]? = none)
    (hE : ∀ h' e, (∀ c o, c ≠ z → c ≠ i1 → c ≠ i2 → s.heap.get? c = some o → h'.get? c = some o) → (∃ o, h'.get? e = some o ∧ o.cls = .type "StopIteration") → E (.ref e) { s with heap := h' }) :
    wpAny (model prog w) A (Builtin.«zip.__next__» ⟨[.ref z], []⟩) Q E s := by
  show wpAny _ _ (field (.ref z) 2 >>= _) _ _ _
  refine wpAny_bind (wpAny_field hz rfl (x := .bool false) rfl ?_)
  show wpAny _ _ (field (.ref z) 3 >>= _) _ _ _
  refine wpAny_bind (wpAny_field hz rfl (x := .ref TI) rfl ?_)
  refine wpAny_bind (wpAny_seqItems hTI rfl ?_)
  show wpAny _ _ (Builtin.SmallTypes.ownedTupleIsFree (.ref z) >>= _) _ _ _
  refine wpAny_bind (free_no hz hT fun h₁ hz₁ hs₁ => ?_)
  simp only [Bool.false_eq_true, if_false]
  refine wpAny_bind ?_
  simp only [← Array.forIn_toList, List.forIn_cons, List.forIn_nil]
  refine wpAny_bind (wpAny_bind (wpAny_holding ?_))
  show wpAny _ _ (Builtin.SmallTypes.nextOf (.ref i1) >>= _) _ _ _
  cases hx : xs[k1]? with
  | none =>
    refine wpAny_bind (nextOf_tuple_end hh (h1.extBut hs₁.extBut D.i1z) (hl1.extBut hs₁.extBut D.l1z) hx fun h₂ e hs₂ he => ?_)
    exact hE h₂ e (fun c o c1 c3 _ x => hs₂ _ _ c3 (hs₁.extBut _ _ c1 x)) he
  | some x =>
    have hy : ys[k2]? = none := by rcases hend with h | h; rw [hx] at h; cases h; exact h
    refine wpAny_bind (nextOf_tuple_item (h1.extBut hs₁.extBut D.i1z) (hl1.extBut hs₁.extBut D.l1z) hx fun h₂ h1₂ hs₂ => wpAny_pure ?_)
    refine wpAny_pure ?_
    refine wpAny_bind (wpAny_bind (wpAny_holding ?_))
    show wpAny _ _ (Builtin.SmallTypes.nextOf (.ref i2) >>= _) _ _ _
    refine wpAny_bind (nextOf_tuple_end hh ((h2.extBut hs₁.extBut D.i2z).extBut hs₂.extBut D.i12.symm)
      ((hl2.extBut hs₁.extBut D.l2z).extBut hs₂.extBut D.l2i1) hy fun h₄ e hs₄ he => ?_)
    exact hE h₄ e (fun c o c1 c3 c4 x => hs₄ _ _ c4 (hs₂.extBut _ _ c3 (hs₁.extBut _ _ c1 x))) he
def ZSt (h : Heap) (z TI TO i1 i2 l1 l2 S : Addr) (xs ys : Array Value) (i : Nat) : Prop :=
  ((IsZip h z TI TO .none ∧ ∃ a b, IsPair h TO a b) ∨ ∃ T f oT, IsZipO h z TI TO T f ∧ h.get? T = some oT ∧ T ≠ z ∧ T ≠ i1 ∧ T ≠ i2 ∧ T ≠ S) ∧ IsPair h TI (.ref i1) (.ref i2) ∧ h.IsTupleIter i1 l1 i ∧ h.IsTupleIter i2 l2 i ∧ h.IsTuple l1 xs ∧ h.IsTuple l2 ys
theorem zst_item {z TI TO i1 i2 l1 l2 S : Addr} {xs ys : Array Value} {i : Nat} {x y : Value} {Q : Option Value → Shared → Prop} (D : ZipApart z TI TO i1 i2 l1 l2) (st : ZSt s.heap z TI TO i1 i2 l1 l2 S xs ys i) (hS : S < s.heap.objs.size) (hx : xs[i]? = some x) (hy : ys[i]? = some y)
    (hQ : ∀ h', ZSt h' z TI TO i1 i2 l1 l2 S xs ys (i + 1) → IsPair h' s.heap.objs.size x y → h'.objs.size = s.heap.objs.size + 1 → (∀ c o, c ≠ z → c ≠ TO → c ≠ i1 → c ≠ i2 → s.heap.get? c = some o → h'.get? c = some o) → Q (some (.ref s.heap.objs.size)) { s with heap := h' }) :
    wpAny (model prog w) A (pyNext (.ref z)) Q E s := by
  obtain ⟨hz, hTI, h1, h2, hl1, hl2⟩ := st
  have li1 : i1 < s.heap.objs.size := by obtain ⟨_, e, _⟩ := h1; exact Heap.lt_size e
  have li2 : i2 < s.heap.objs.size := by obtain ⟨_, e, _⟩ := h2; exact Heap.lt_size e
  rcases hz with ⟨hz, a, b, hTO⟩ | ⟨T, f, oT, hz, hT, t1, t2, t3, t4⟩
  · have lz : z < s.heap.objs.size := Heap.lt_size hz
    refine pyNext_zipT_item D hz hTI hTO h1 h2 hl1 hl2 hx hy fun h' a1 a2 a3 a4 a5 a6 a7 => hQ h' ⟨.inr ⟨_, _, _, a1, a5, Nat.ne_of_gt lz, Nat.ne_of_gt li1, Nat.ne_of_gt li2, Nat.ne_of_gt hS⟩, a7 _ _ D.TIz D.TITO D.TIi1 D.TIi2 hTI, a3, a4, ?_, ?_⟩ a5 a6 a7
    · exact hl1.at fun o e => a7 _ o D.l1z D.l1TO D.l1i1 D.l1i2 e
    · exact hl2.at fun o e => a7 _ o D.l2z D.l2TO D.l2i1 D.l2i2 e
  · have hTy : s.TypeIs (.ref z) "zip" := ⟨_, hz, rfl⟩
    unfold pyNext
    exact wpAny_bind (wpAny_attempt (wpAny_callSpecial?_slot (name := Str.ofString "__next__") hTy F.slot_zip_next
      (wpAny_call_entry F.slot_zip_next hTy F.entry_zip_next
        (zipO_next_item D hz hT hTI h1 h2 hl1 hl2 hx hy fun h' a1 a3 a4 a5 a6 a7 => wpAny_pure (hQ h' ⟨.inr ⟨_, _, _, a1, a7 _ _ t1 t2 t3 hT, t1, t2, t3, t4⟩, a7 _ _ D.TIz D.TIi1 D.TIi2 hTI, a3, a4,
          hl1.at fun o e => a7 _ o D.l1z D.l1i1 D.l1i2 e, hl2.at fun o e => a7 _ o D.l2z D.l2i1 D.l2i2 e⟩ a5 a6 fun c o c1 _ c3 c4 e => a7 c o c1 c3 c4 e)) (F.args_zip_next_1 _))))
theorem zst_end {z TI TO i1 i2 l1 l2 S : Addr} {xs ys : Array Value} {i : Nat} {Q : Option Value → Shared → Prop} (hh : A.handled = none) (D : ZipApart z TI TO i1 i2 l1 l2) (st : ZSt s.heap z TI TO i1 i2 l1 l2 S xs ys i) (hend : xs[i]? = none ∨ ys[i]? = none)
    (hQ : ∀ h', (∀ c o, c ≠ z → c ≠ TO → c ≠ i1 → c ≠ i2 → s.heap.get? c = some o → h'.get? c = some o) → Q none { s with heap := h' }) : wpAny (model prog w) A (pyNext (.ref z)) Q E s := by
  obtain ⟨hz, hTI, h1, h2, hl1, hl2⟩ := st
  rcases hz with ⟨hz, a, b, hTO⟩ | ⟨T, f, oT, hz, hT, t1, t2, t3, t4⟩
  · exact pyNext_zipT_end hh D hz hTI hTO h1 h2 hl1 hl2 hend hQ
  · have hTy : s.TypeIs (.ref z) "zip" := ⟨_, hz, rfl⟩
    unfold pyNext
    refine wpAny_bind (wpAny_attempt (wpAny_callSpecial?_slot (name := Str.ofString "__next__") hTy F.slot_zip_next
      (wpAny_call_entry F.slot_zip_next hTy F.entry_zip_next (zipO_next_end hh D hz hT hTI h1 h2 hl1 hl2 hend fun h' e hk he => ?_) (F.args_zip_next_1 _))))
    obtain ⟨o, ho, hc⟩ := he
    refine wpAny_bind (wpAny_isInstance (T := "StopIteration") (b := true) ⟨o, ho, hc⟩ isSubtype_stop ?_)
    exact wpAny_pure (hQ _ fun c o c1 _ c3 c4 e => hk c o c1 c3 c4 e)
end
/-- the pairs, laid one behind another -/
structure ZG (xs ys : Array Value) (lo : Addr) (h : Heap) (as : List Addr) : Prop where
  rise : as.Pairwise (· < ·)
  above : ∀ a ∈ as, lo < a
  pairs : ∀ (j : Nat) (a : Addr), as[j]? = some a → ∃ x y, xs[j]? = some x ∧ ys[j]? = some y ∧ IsPair h a x y
theorem ZG.there {xs ys : Array Value} {lo : Addr} {h : Heap} {as : List Addr} (g : ZG xs ys lo h as) {a : Addr} (ha : a ∈ as) : a < h.objs.size := by
  obtain ⟨j, hj⟩ := List.mem_iff_getElem?.mp ha
  obtain ⟨_, _, _, _, e⟩ := g.pairs j a hj
  exact Heap.lt_size e
theorem ZSt.keep {h h' : Heap} {z TI TO i1 i2 l1 l2 S : Addr} {xs ys : Array Value} {i : Nat} (x : ZSt h z TI TO i1 i2 l1 l2 S xs ys i) (hk : ∀ b o, b ≠ S → h.get? b = some o → h'.get? b = some o) (n1 : z ≠ S) (n2 : TI ≠ S) (n3 : TO ≠ S) (n4 : i1 ≠ S) (n5 : i2 ≠ S) (n6 : l1 ≠ S) (n7 : l2 ≠ S) : ZSt h' z TI TO i1 i2 l1 l2 S xs ys i := by
  obtain ⟨hz, hTI, h1, h2, hl1, hl2⟩ := x
  refine ⟨?_, hk _ _ n2 hTI, h1.at fun o e => hk _ o n4 e, h2.at fun o e => hk _ o n5 e, hl1.at fun o e => hk _ o n6 e, hl2.at fun o e => hk _ o n7 e⟩
  rcases hz with ⟨hz, a, b, hTO⟩ | ⟨T, f, oT, hz, hT, t1, t2, t3, t4⟩
  · exact .inl ⟨hk _ _ n1 hz, a, b, hk _ _ n3 hTO⟩
  · exact .inr ⟨T, f, oT, hk _ _ n1 hz, hk _ _ t4 hT, t1, t2, t3, t4⟩
section
variable {prog : Program} {w : World} {A : Around} {s : Shared} {R : Result → Shared → Prop}
theorem z_loop {S z TI TO i1 i2 l1 l2 lo : Addr} {xs ys : Array Value} (hh : A.handled = none) (D : ZipApart z TI TO i1 i2 l1 l2) (hS0 : S ≤ lo) (hlo : ∀ b, b = z ∨ b = TI ∨ b = TO ∨ b = i1 ∨ b = i2 → b ≤ lo) (n1 : z ≠ S) (n2 : TI ≠ S) (n3 : TO ≠ S) (n4 : i1 ≠ S) (n5 : i2 ≠ S) (n6 : l1 ≠ S) (n7 : l2 ≠ S) (hn : min xs.size ys.size ≤ sizeLine) (res : Value) {h₁ : Heap}
    (hR : ∀ h' tk acc c as, (∀ b o, b ≠ S → b ≠ z → b ≠ TO → b ≠ i1 → b ≠ i2 → h₁.get? b = some o → h'.get? b = some o) → h'.get? S = some { cls := .type "list", dict := none, data := .seq acc c, slots := #[] } → as.length = min xs.size ys.size → ZG xs ys lo h' as →
      acc.toList = as.map Value.ref → R (.ok (.ret res)) { s with heap := h', toks := tk }) :
    ∀ (k i : Nat) (h : Heap) (tk c : Nat) (acc : Array Value) (as : List Addr), min xs.size ys.size - i = k → i ≤ min xs.size ys.size → ZSt h z TI TO i1 i2 l1 l2 S xs ys i → (∀ b o, b ≠ S → b ≠ z → b ≠ TO → b ≠ i1 → b ≠ i2 → h₁.get? b = some o → h.get? b = some o) →
      h.get? S = some { cls := .type "list", dict := none, data := .seq acc c, slots := #[] } → acc.toList = as.map Value.ref → as.length = i → ZG xs ys lo h as → lo < h.objs.size →
      codeAny (model prog w) A (.builtin "list.extend.loop" ⟨[.ref S, .ref z, res], []⟩) R { s with heap := h, toks := tk } := by
  intro k
  induction k with
  | zero =>
    intro i h tk c acc as hk hi hst hkeep hS hacc hal hG hIs
    have hin : i = min xs.size ys.size := by omega
    refine codeAny_builtin PySem.F.entry_extend_loop ?_
    rw [Around.under_plainId PySem.F.plain_extend_loop _]
    show wpAny _ A.in1 (pyNext (.ref z) >>= _) _ _ _
    have hend : xs[i]? = none ∨ ys[i]? = none := by
      rcases Nat.le_total xs.size ys.size with q | q
      · exact .inl (Array.getElem?_eq_none (by omega))
      · exact .inr (Array.getElem?_eq_none (by omega))
    refine wpAny_bind (zst_end (s := { s with heap := h, toks := tk }) (A := A.in1) hh D hst hend fun h' he => ?_)
    refine wpAny_pure (hR h' tk acc c as (fun b o c0 c1 c2 c3 c4 e => he b o c1 c2 c3 c4 (hkeep b o c0 c1 c2 c3 c4 e)) (he S _ n1.symm n3.symm n4.symm n5.symm hS) (by omega) ⟨hG.rise, hG.above, fun j a hj => ?_⟩ hacc)
    obtain ⟨x, y, e1, e2, e3⟩ := hG.pairs j a hj
    have ab := hG.above a (List.mem_of_getElem? hj)
    have nn : ∀ b, b = z ∨ b = TI ∨ b = TO ∨ b = i1 ∨ b = i2 → a ≠ b := fun b hb => Nat.ne_of_gt (Nat.lt_of_le_of_lt (hlo b hb) ab)
    exact ⟨x, y, e1, e2, he a _ (nn z (by simp)) (nn TO (by simp)) (nn i1 (by simp)) (nn i2 (by simp)) e3⟩
  | succ k ih =>
    intro i h tk c acc as hk hi hst hkeep hS hacc hal hG hIs
    have hlt : i < min xs.size ys.size := by omega
    have hx : xs[i]? = some xs[i] := Array.getElem?_eq_getElem (by omega)
    have hy : ys[i]? = some ys[i] := Array.getElem?_eq_getElem (by omega)
    have hsz : acc.size = i := by rw [← Array.length_toList, hacc, List.length_map, hal]
    refine codeAny_builtin PySem.F.entry_extend_loop ?_
    rw [Around.under_plainId PySem.F.plain_extend_loop _]
    show wpAny _ A.in1 (pyNext (.ref z) >>= _) _ _ _
    refine wpAny_bind (zst_item (s := { s with heap := h, toks := tk }) (S := S) D hst (Heap.lt_size hS) hx hy fun h' hst' ht hz hkp => ?_)
    dsimp only at ht hz hkp ⊢
    have hS' := hkp S _ n1.symm n3.symm n4.symm n5.symm hS
    have up : ∀ b o, b ≠ S → h'.get? b = some o → (h'.update S (Obj.mapSeq (·.push (Value.ref h.objs.size)))).get? b = some o := fun b o hb e => (Heap.get?_update_other _ _ (Ne.symm hb)).trans e
    have hSl : S < h.objs.size := Heap.lt_size hS
    show wpAny _ A.in1 (updateSeq S (·.push (Value.ref h.objs.size)) >>= _) _ _ _
    refine wpAny_bind ?_
    refine wpAny_updateSeq hS' rfl (wpAny_pure ⟨plainId_quiet PySem.F.plain_extend_loop _, ih (i + 1) _ tk _ (acc.push (Value.ref h.objs.size)) (as ++ [h.objs.size]) (by omega) hlt (hst'.keep up n1 n2 n3 n4 n5 n6 n7)
      (fun b o c0 c1 c2 c3 c4 e => up b o c0 (hkp b o c1 c2 c3 c4 (hkeep b o c0 c1 c2 c3 c4 e))) (Heap.get?_update_self _ hS' rfl) (by rw [Array.toList_push, hacc, List.map_append]; rfl) (by rw [List.length_append, hal]; rfl) ⟨?_, ?_, ?_⟩ ?_⟩) (by rw [hsz]; omega) (by show (acc.push (Value.ref h.objs.size)).size ≤ sizeLine + 1; rw [Array.size_push, hsz]; omega)
    · refine List.pairwise_append.mpr ⟨hG.rise, List.pairwise_singleton _ _, fun a ha b hb => ?_⟩
      rw [List.mem_singleton.mp hb]
      exact hG.there ha
    · intro a ha
      rcases List.mem_append.mp ha with ha | ha
      · exact hG.above a ha
      · rw [List.mem_singleton.mp ha]; exact hIs
    · intro j b hj
      rcases Nat.lt_trichotomy j as.length with q1 | q1 | q1
      · rw [List.getElem?_append_left q1] at hj
        obtain ⟨x', y', e1, e2, e3⟩ := hG.pairs j b hj
        have ab := hG.above b (List.mem_of_getElem? hj)
        have nn : ∀ c, c = z ∨ c = TI ∨ c = TO ∨ c = i1 ∨ c = i2 → b ≠ c := fun c hc => Nat.ne_of_gt (Nat.lt_of_le_of_lt (hlo c hc) ab)
        exact ⟨x', y', e1, e2, up b _ (Nat.ne_of_gt (Nat.lt_of_le_of_lt hS0 ab)) (hkp b _ (nn z (by simp)) (nn TO (by simp)) (nn i1 (by simp)) (nn i2 (by simp)) e3)⟩
      · subst q1
        have hb : h.objs.size = b := by simpa using hj
        subst hb
        exact ⟨_, _, by rw [hal]; exact hx, by rw [hal]; exact hy, up _ _ (Nat.ne_of_gt hSl) ht⟩
      · have hnone : (as ++ [h.objs.size])[j]? = none := List.getElem?_eq_none (by rw [List.length_append, List.length_singleton]; omega)
        rw [hnone] at hj; cases hj
    · have e : (h'.update S (Obj.mapSeq (·.push (Value.ref h.objs.size)))).get? h.objs.size = _ := up _ _ (Nat.ne_of_gt hSl) ht
      exact Nat.lt_trans hIs (Heap.lt_size e)
theorem zip_no_len : typeLookup (.type "zip") "__len__" = pure none := by rw [typeLookup_type, builtinLookup_eq_fast]; kernel_rfl
theorem zip_no_hint : typeLookup (.type "zip") "__length_hint__" = pure none := by rw [typeLookup_type, builtinLookup_eq_fast]; kernel_rfl
theorem z_extend {z TI TO i1 i2 l1 l2 S : Addr} {xs ys : Array Value} (hh : A.handled = none) (D : ZipApart z TI TO i1 i2 l1 l2) (hz : IsZip s.heap z TI TO .none) (hTI : IsPair s.heap TI (.ref i1) (.ref i2)) (hTO : ∃ a b, IsPair s.heap TO a b) (h1 : s.heap.IsTupleIter i1 l1 0) (h2 : s.heap.IsTupleIter i2 l2 0) (hl1 : s.heap.IsTuple l1 xs) (hl2 : s.heap.IsTuple l2 ys)
    (hS0 : ∀ b, b = z ∨ b = TI ∨ b = TO ∨ b = i1 ∨ b = i2 → b < S) (m1 : l1 < S) (m2 : l2 < S) (hn : min xs.size ys.size ≤ sizeLine) (res : Value) (c₀ : Nat) (hS : s.heap.get? S = some { cls := .type "list", data := .seq #[] c₀ })
    (hR : ∀ h' tk acc c as, (∀ b o, b ≠ S → b ≠ z → b ≠ TO → b ≠ i1 → b ≠ i2 → s.heap.get? b = some o → h'.get? b = some o) → h'.get? S = some { cls := .type "list", dict := none, data := .seq acc c, slots := #[] } → as.length = min xs.size ys.size → ZG xs ys S h' as →
      acc.toList = as.map Value.ref → R (.ok (.ret res)) { s with heap := h', toks := tk }) :
    wpAny (model prog w) A.in1 (Builtin.List.listExtendWith (.ref S) (.ref z) res)
      (fun fin s' => match fin with | .done f => R (.ok f) s' | .again c' => c'.quiet = true ∧ codeAny (model prog w) A c' R s') (fun e s' => R (.error e) s') s := by
  have hT : s.TypeIs (.ref z) "zip" := ⟨_, hz, rfl⟩
  have nS : ∀ b, b = z ∨ b = TI ∨ b = TO ∨ b = i1 ∨ b = i2 → b ≠ S := fun b hb => Nat.ne_of_lt (hS0 b hb)
  have hSI : S ≠ z := (nS z (by simp)).symm
  unfold Builtin.List.listExtendWith
  refine wpAny_bind (wpAny_typeOf hT ?_)
  have q1 : Builtin.List.listSameRef (.ref S) (.ref z) = false := by simp [Builtin.List.listSameRef, hSI]
  have q2 : (Value.type "zip" == Value.type "list") = false := by decide
  have q3 : (Value.type "zip" == Value.type "tuple") = false := by decide
  simp only [q1, q2, q3, Bool.or_false, Bool.false_eq_true, if_false]
  refine wpAny_bind (wpAny_pyIter_zip hz ?_)
  refine wpAny_bind (wpAny_holding ?_)
  unfold Builtin.List.listLengthHint
  refine wpAny_bind (wpAny_specialOf hT zip_no_len ?_)
  show wpAny _ A.in1 (specialOf (Value.ref z) (Str.ofString "__length_hint__") >>= _) _ _ _
  refine wpAny_bind (wpAny_specialOf hT zip_no_hint ?_)
  refine wpAny_pure ?_
  show wpAny _ A.in1 (rule "list.extend.makes-room" >>= fun _ => Builtin.List.listTouch (.ref S) >>= fun _ =>
    again (.builtin "list.extend.loop" ⟨[.ref S, .ref z, res], []⟩)) _ _ _
  refine wpAny_bind (wpAny_rule ?_)
  refine wpAny_bind ?_
  show wpAny _ A.in1 (updateSeq S (·.push .none) >>= fun _ => updateSeq S (·.pop)) _ _ _
  refine wpAny_bind (wpAny_updateSeq hS rfl ?_)
  have hS₂ := Heap.get?_update_self (Obj.mapSeq (·.push Value.none)) hS rfl
  refine wpAny_updateSeq (hz := by seq_fits) hS₂ rfl ?_
  have hS₃ := Heap.get?_update_self (Obj.mapSeq (·.pop)) hS₂ rfl
  have oth : ∀ b o, b ≠ S → s.heap.get? b = some o → ((s.heap.update S (Obj.mapSeq (·.push Value.none))).update S (Obj.mapSeq (·.pop))).get? b = some o :=
    fun b o hb e => (Heap.get?_update_other _ _ (Ne.symm hb)).trans ((Heap.get?_update_other _ _ (Ne.symm hb)).trans e)
  obtain ⟨a, b, hTO⟩ := hTO
  refine wpAny_pure ⟨plainId_quiet PySem.F.plain_extend_loop _, z_loop (h₁ := s.heap) (S := S) (lo := S) hh D (Nat.le_refl _) (fun b hb => Nat.le_of_lt (hS0 b hb)) hSI.symm (nS TI (by simp)) (nS TO (by simp)) (nS i1 (by simp)) (nS i2 (by simp)) (Nat.ne_of_lt m1) (Nat.ne_of_lt m2) hn res
    (fun h' tk acc c as hk hS' hl hG hacc => hR h' tk acc c as hk hS' hl hG hacc) _ 0 _ s.toks _ _ [] (Nat.sub_zero _) (Nat.zero_le _) ?_ (fun b o c0 _ _ _ _ e => oth b o c0 e) hS₃ rfl rfl ⟨List.Pairwise.nil, (fun _ ha => nomatch ha), (fun j a hj => by simp at hj)⟩ ?_⟩
  · refine ⟨.inl ⟨oth _ _ hSI.symm hz, a, b, oth _ _ (nS TO (by simp)) hTO⟩, oth _ _ (nS TI (by simp)) hTI, h1.at fun o e => oth _ o (nS i1 (by simp)) e, h2.at fun o e => oth _ o (nS i2 (by simp)) e, hl1.at fun o e => oth _ o (Nat.ne_of_lt m1) e, hl2.at fun o e => oth _ o (Nat.ne_of_lt m2) e⟩
  · exact Heap.lt_size hS₃
theorem z_call {prog : Program} {w : World} {A : Around} {E : Value → Shared → Prop} {s : Shared} {z TI TO i1 i2 l1 l2 : Addr} {xs ys : Array Value} {Q : Value → Shared → Prop} (hh : A.handled = none) (D : ZipApart z TI TO i1 i2 l1 l2) (hz : IsZip s.heap z TI TO .none) (hTI : IsPair s.heap TI (.ref i1) (.ref i2)) (hTO : ∃ a b, IsPair s.heap TO a b) (h1 : s.heap.IsTupleIter i1 l1 0) (h2 : s.heap.IsTupleIter i2 l2 0) (hl1 : s.heap.IsTuple l1 xs) (hl2 : s.heap.IsTuple l2 ys)
    (hn : min xs.size ys.size ≤ sizeLine)
    (hQ : ∀ h' tk acc c as, (∀ b o, b ≠ z → b ≠ TO → b ≠ i1 → b ≠ i2 → s.heap.get? b = some o → h'.get? b = some o) → h'.get? s.heap.objs.size = some { cls := .type "list", dict := none, data := .seq acc c, slots := #[] } → as.length = min xs.size ys.size → ZG xs ys s.heap.objs.size h' as →
      acc.toList = as.map Value.ref → Q (.ref s.heap.objs.size) { s with heap := h', toks := tk }) :
    wpAny (model prog w) A (call (.type "list") [.ref z]) Q E s := by
  refine callType_codes (Q₁ := fun obj s₁ => obj = .ref s.heap.objs.size ∧ s₁ = { s with heap := s.heap.push { cls := .type "list", data := .seq #[] } }) PySem.F.called_list (PySem.F.typeCall_list_1 _) PySem.F.entry_list_init
    (code_list_new _ ⟨rfl, rfl⟩) fun obj s₁ h₁ => ?_
  obtain ⟨rfl, rfl⟩ := h₁
  have hS : (s.heap.push { cls := .type "list", data := .seq #[] }).get? s.heap.objs.size = some { cls := .type "list", data := .seq #[] } := Heap.get?_push_size _ rfl
  refine ⟨⟨_, hS, rfl⟩, PySem.F.args_list_init_2 _ _, ?_⟩
  show wpAny _ _ (do let old ← Builtin.List.listItems (.ref s.heap.objs.size); Builtin.List.listUpdate (.ref s.heap.objs.size) (fun _ => #[]); letGo old.toList.reverse; Builtin.List.listExtendWith (.ref s.heap.objs.size) (.ref z) .none) _ _ _
  refine wpAny_bind ?_
  unfold Builtin.List.listItems
  refine wpAny_bind (wpAny_seqItems hS rfl (wpAny_pure ?_))
  show wpAny _ _ (updateSeq s.heap.objs.size (fun _ => #[]) >>= fun _ => letGo (#[] : Array Value).toList.reverse >>= fun _ => Builtin.List.listExtendWith (.ref s.heap.objs.size) (.ref z) .none) _ _ _
  refine wpAny_bind (wpAny_updateSeq hS rfl ?_)
  have hS₂ := Heap.get?_update_self (Obj.mapSeq (fun _ => (#[] : Array Value))) hS rfl
  have oth : ∀ b o, s.heap.get? b = some o → ((s.heap.push { cls := .type "list", data := .seq #[] }).update s.heap.objs.size (Obj.mapSeq (fun _ => (#[] : Array Value)))).get? b = some o :=
    fun b o e => (Heap.get?_update_other _ _ (Nat.ne_of_gt (Heap.lt_size e))).trans (Heap.get?_push_of_some _ e)
  refine wpAny_bind (wpAny_letGo ?_)
  obtain ⟨a, b, hTO⟩ := hTO
  refine z_extend (A := A.in1) hh D (oth _ _ hz) (oth _ _ hTI) ⟨a, b, oth _ _ hTO⟩ (h1.at fun o e => oth _ o e) (h2.at fun o e => oth _ o e) (hl1.at fun o e => oth _ o e) (hl2.at fun o e => oth _ o e) (fun b hb => ?_) ?_ ?_ hn .none _ hS₂ (fun h' tk acc c as hk hS' hl hG hacc => ?_)
  · rcases hb with e | e | e | e | e
    · rw [e]; exact Heap.lt_size hz
    · rw [e]; exact Heap.lt_size hTI
    · rw [e]; exact Heap.lt_size hTO
    · rw [e]; obtain ⟨_, q, _⟩ := h1; exact Heap.lt_size q
    · rw [e]; obtain ⟨_, q, _⟩ := h2; exact Heap.lt_size q
  · obtain ⟨_, q, _⟩ := hl1; exact Heap.lt_size q
  · obtain ⟨_, q, _⟩ := hl2; exact Heap.lt_size q
  · exact ⟨rfl, hQ h' tk acc c as (fun b o c1 c2 c3 c4 e => hk b o (Nat.ne_of_lt (Heap.lt_size e)) c1 c2 c3 c4 (oth b o e)) hS' hl hG hacc⟩
end
end LZ
namespace DL
open PySem PySem.Spec PyProof.Rows L2
open Evl (Ex)
def putP : Hp → List Addr → List (V × V) → Hp
  | H, a :: as, p :: ps => upd (putP H as ps) a (.tup [p.1, p.2])
  | H, _, _ => H
theorem putP_off {b : Addr} : ∀ (as : List Addr) (ps : List (V × V)) (H : Hp), b ∉ as → putP H as ps b = H b
  | [], _, _, _ => rfl
  | _ :: _, [], _, _ => rfl
  | a :: as, p :: ps, H, h => by
    show upd (putP H as ps) a _ b = _
    rw [upd_ne (fun e => h (by simp [e])), putP_off as ps H (fun z => h (by simp [z]))]
theorem putP_at : ∀ (as : List Addr) (ps : List (V × V)) (H : Hp), as.Nodup → ∀ (j : Nat) t p, as[j]? = some t → ps[j]? = some p → putP H as ps t = some (.tup [p.1, p.2])
  | [], _, _, _, _, _, _, e, _ => by simp at e
  | _ :: _, [], _, _, _, _, _, _, e => by simp at e
  | a :: as, p :: ps, H, nd, 0, t, q, e1, e2 => by
    simp at e1 e2; subst e1 e2; exact upd_same
  | a :: as, p :: ps, H, nd, j + 1, t, q, e1, e2 => by
    have e1 : as[j]? = some t := by simpa using e1
    have e2 : ps[j]? = some q := by simpa using e2
    have ht : t ∈ as := List.mem_of_getElem? e1
    have nd' := List.nodup_cons.mp nd
    show upd (putP H as ps) a _ t = _
    rw [upd_ne (fun z => nd'.1 (by rw [← z]; exact ht))]
    exact putP_at as ps H nd'.2 j t q e1 e2
theorem zip_laid {X : Cx} {pins : List (Addr × Obj)} {σ : L2.St} {H : Hp} {s : Shared} {h' : Heap} {tk : Nat} {xs ys : List V} {us ws : List Value} {acc : Array Value} {c : Nat} {S : Addr} {as : List Addr} (I : Inv X pins σ H s) (hSs : s.heap.objs.size ≤ S) (hz : as.length ≤ sizeLine) (rx : Vals xs us) (ry : Vals ys ws)
    (hk : ∀ b o, s.heap.get? b = some o → h'.get? b = some o) (hS : h'.get? S = some { cls := .type "list", dict := none, data := .seq acc c, slots := #[] }) (hl : as.length = min us.length ws.length) (hG : LZ.ZG us.toArray ws.toArray S h' as) (hacc : acc.toList = as.map Value.ref) :
    ∃ H' : Hp, (∀ b o, H b = some o → H' b = some o) ∧ H S = none ∧ (∀ t ∈ as, H t = none) ∧ S ∉ as ∧ H' S = some (.lst (as.map V.ref)) ∧ (∀ (j : Nat) t, as[j]? = some t → ∃ x y, xs[j]? = some x ∧ ys[j]? = some y ∧ H' t = some (.tup [x, y])) ∧ Inv X pins σ H' { s with heap := h', toks := tk } := by
  have l1 := rx.length
  have l2 := ry.length
  have hSn : S ∉ as := fun z => Nat.lt_irrefl _ (hG.above _ z)
  have nd : as.Nodup := List.Pairwise.imp (fun {a b} (h : a < b) => Nat.ne_of_lt h) hG.rise
  have new : ∀ t ∈ as, H t = none := fun t ht => I.hok.fresh (Nat.le_trans hSs (Nat.le_of_lt (hG.above t ht)))
  have newS : H S = none := I.hok.fresh hSs
  have lz : (xs.zip ys).length = min xs.length ys.length := List.length_zip
  have atP := putP_at as (xs.zip ys) (upd H S (.lst (as.map V.ref))) nd
  have off : ∀ b, b ∉ as → b ≠ S → putP (upd H S (.lst (as.map V.ref))) as (xs.zip ys) b = H b := fun b h1 h2 => by rw [putP_off as _ _ h1, upd_ne h2]
  have low : ∀ b o, s.heap.get? b = some o → b ∉ as ∧ b ≠ S := fun b o e => ⟨fun z => absurd (Heap.lt_size e) (Nat.not_lt.mpr (Nat.le_trans hSs (Nat.le_of_lt (hG.above b z)))), fun z => absurd (Heap.lt_size e) (Nat.not_lt.mpr (z ▸ hSs))⟩
  have kp : ∀ b u, H b = some u → (putP (upd H S (.lst (as.map V.ref))) as (xs.zip ys)) b = some u := fun b u e => by
    rw [off b (fun z => by rw [new b z] at e; cases e) (fun z => by rw [z, newS] at e; cases e)]
    exact e
  have eS : putP (upd H S (.lst (as.map V.ref))) as (xs.zip ys) S = some (.lst (as.map V.ref)) := by rw [putP_off as _ _ hSn, upd_same]
  have pr : ∀ (j : Nat) t, as[j]? = some t → ∃ x y, xs[j]? = some x ∧ ys[j]? = some y ∧ putP (upd H S (.lst (as.map V.ref))) as (xs.zip ys) t = some (.tup [x, y]) := fun j t hj => by
    have hjl := (List.getElem?_eq_some_iff.mp hj).1
    have jx : j < xs.length := by omega
    have jy : j < ys.length := by omega
    refine ⟨xs[j], ys[j], by simp [jx], by simp [jy], ?_⟩
    exact atP j t (xs[j], ys[j]) hj (by rw [List.getElem?_eq_getElem (by rw [lz]; omega)]; simp)
  refine ⟨putP (upd H S (.lst (as.map V.ref))) as (xs.zip ys), kp, newS, new, hSn, eS, pr, ?_⟩
  refine I.call' (ch := []) rfl ⟨fun b o q _ _ _ => hk b o q, fun b o q _ _ _ => ⟨o.slots, hk b o q⟩, fun b o q n _ => ?_, fun b o q _ => ⟨o, hk b o q⟩, fun b xs q => kp b _ q, fun b o u q => kp b _ q, fun b ps q => ⟨#[], by rw [kp b _ q]; simp⟩⟩ (fun b u q => ?_) I.bare fun b z => by simp at z
  · obtain ⟨z1, z2⟩ := low b o q
    rw [off b z1 z2]
    exact n
  · by_cases hb : b ∈ as
    · obtain ⟨j, hj⟩ := List.mem_iff_getElem?.mp hb
      obtain ⟨x, y, e1, e2, e3⟩ := pr j b hj
      rw [e3] at q
      cases q
      obtain ⟨u, w, f1, f2, f3⟩ := hG.pairs j b hj
      obtain ⟨u', g1, g2⟩ := rx.get e1
      obtain ⟨w', g3, g4⟩ := ry.get e2
      have f1 : us[j]? = some u := by simpa using f1
      have f2 : ws[j]? = some w := by simpa using f2
      rw [f1] at g1
      rw [f2] at g3
      cases g1; cases g3
      exact ⟨by show 2 ≤ sizeLine; decide, [u, w], .cons g2 (.cons g4 .nil), ⟨_, f3, rfl, _, rfl⟩⟩
    · by_cases hb2 : b = S
      · rw [hb2] at q ⊢
        rw [eS] at q
        cases q
        refine ⟨by rw [List.length_map]; omega, acc.toList, c, by rw [hacc]; exact LiI.vals_refs as, ?_⟩
        rw [Array.toArray_toList]
        exact hS
      · rw [off b hb hb2] at q
        exact (I.hok b u q).stay (fun d v _ y => hk d v y) (fun d y => kp d _ y) fun d xs y => kp d _ y
/-- list(zip(e1, e2)) of two tuples -/
def rZipL (K : PySem.W.Frag) : List V → Hp → VK → Prop := fun vs H Q => ∃ (a b : Addr) (xs ys : List V), vs = [.ref a, .ref b] ∧ SqT K H a xs ∧ SqT K H b ys ∧
  ∀ (H' : Hp) (p : Addr) (ts : List Addr), (∀ b o, H b = some o → H' b = some o) → H p = none → (∀ t ∈ ts, H t = none) → p ∉ ts → H' p = some (.lst (ts.map V.ref)) → ts.length = min xs.length ys.length → (∀ (j : Nat) t, ts[j]? = some t → ∃ x y, xs[j]? = some x ∧ ys[j]? = some y ∧ H' t = some (.tup [x, y])) → Q (.ref p) H'
theorem pe_listZip {X : Cx} {e e2 : Expr} {ta : TA} {p p2 pos pos2 : Pos} (hc : X.calm = true) (hg : Gl X "list") (hm : X.mg "list" = none) (hg2 : Gl X "zip") (hm2 : X.mg "zip" = none) (ha : PA X [e, e2] ta)
    (hs : starEach [e, e2] X.env = (false, eval e X.env) :: starEach [e2] X.env := by rfl) (hpl : (backTo pos2 (starEach [e2] X.env)).any (·.1) = false := by rfl)
    (hs1 : starEach [.Call (.Name "zip" p2) [e, e2] [] pos2] X.env = (false, eval (.Call (.Name "zip" p2) [e, e2] [] pos2) X.env) :: starEach [] X.env := by rfl) :
    PE X (.Call (.Name "list" p) [.Call (.Name "zip" p2) [e, e2] [] pos2] [] pos) (fun σ H Q => ta σ H fun vs H1 => rZipL X.K vs H1 Q) := by
  refine ⟨fun pins s σ H Q I hq => ?_⟩
  refine wpAny_Call_Name_kw (ld_blt I hg hm bt_list ?_)
  refine PyProof.Rows.callWith_type1 ?_ hs1 rfl
  rw [hs1]
  show wpAny _ _ (spliced ((false, eval (.Call (.Name "zip" p2) [e, e2] [] pos2) X.env) :: backTo pos (starEach [] X.env))) _ _ s
  refine Calls.spliced_cons ?_
  refine Call_ (ld_blt I hg2 hm2 PyProof.Rows.boot_zip (PyProof.Rows.callWith_type1 (thn (ha.run pos2 pins s σ H _ I hq) fun us s1 ⟨vs, H1, I1, r1, q1⟩ => ?_) hs hpl))
  obtain ⟨a, b, xs, ys, ex, hqx, hqy, q⟩ := q1
  subst ex
  cases r1 with
  | cons r rr =>
    cases rr with
    | cons r' rr =>
      cases rr
      cases r
      cases r'
      obtain ⟨its, rv, p1, z1⟩ := I1.tuple hqx
      obtain ⟨its2, rv2, p2, z2⟩ := I1.tuple hqy
      obtain ⟨o1, ho1, _⟩ := id p1
      obtain ⟨o2, ho2, _⟩ := id p2
      refine RZ.call_zipT (show s1.heap.IsTuple a its.toArray from p1) (show s1.heap.IsTuple b its2.toArray from p2) fun h' hz hTI hTO h1 h2 hsz hk => ?_
      have I2 : Inv X pins σ H1 { s1 with heap := h' } := I1.kept (t' := s1.toks) hk
      refine Calls.spliced_nil ?_
      refine LZ.z_call (s := { s1 with heap := h' }) (I1.ok.hd hc) (PySem.W.ktu_apart s1.heap.objs.size a b (Heap.lt_size ho1) (Heap.lt_size ho2)) hz hTI ⟨_, _, hTO⟩ h1 h2 ((show s1.heap.IsTuple a its.toArray from p1).at fun o e => hk _ o e) ((show s1.heap.IsTuple b its2.toArray from p2).at fun o e => hk _ o e) ?_ fun h2' tk acc c as hk2 hS hl hG hacc => ?_
      · have := rv.length; simp; omega
      · have l1 := rv.length
        have l2 := rv2.length
        have hk3 : ∀ b o, s1.heap.get? b = some o → h2'.get? b = some o := fun c o e => by
          have lt := Heap.lt_size e
          have ne : ∀ k : Nat, c ≠ s1.heap.objs.size + k := fun k => Nat.ne_of_lt (Nat.lt_of_lt_of_le lt (Nat.le_add_right _ _))
          exact hk2 c o (ne 4) (ne 3) (ne 0) (ne 1) (hk c o e)
        obtain ⟨H', k1, k2, k3, k4, k5, k6, J⟩ := zip_laid (tk := tk) (S := h'.objs.size) I1 (by omega) (by rw [hl]; simp; omega) rv rv2 hk3 hS (by rw [hl]; simp) hG hacc
        exact ⟨.ref _, H', J, rfl, q H' _ as k1 k2 k3 k4 k5 (by rw [hl]; simp; omega) k6⟩
/-! ## K7 -/
/-! ### dicts of one's own: put, update; new ones from pairs; sorted -/
section
variable {K : PySem.W.Frag} {C : Addr} {F : Hp}
theorem RepK.anyK {s : Str} : ∀ {vs : List (Key × V)} {ks : List (Str × D)}, RepK K C F vs ks → (vs.any fun kv => decide (kv.1 = Sum.inr s)) = ks.any fun p => decide (p.1 = s)
  | _, _, .nil => rfl
  | _, _, .cons (k := k) h r => by
    rw [List.any_cons, List.any_cons, RepK.anyK r, inr_dec]
theorem RepK.mapK {s : Str} {v : V} {d : D} (hv : Rep K C F v d) : ∀ {vs : List (Key × V)} {ks : List (Str × D)}, RepK K C F vs ks → RepK K C F (vs.map fun kv => if kv.1 = Sum.inr s then (kv.1, v) else kv) (ks.map fun p => if p.1 = s then (s, d) else p)
  | _, _, .nil => .nil
  | _, _, .cons (k := k) (v := w) (d := e) h r => by
    have ih := RepK.mapK (s := s) hv r
    by_cases z : k = s
    · subst z
      rw [List.map_cons, List.map_cons, if_pos rfl, if_pos rfl]
      exact .cons hv ih
    · rw [List.map_cons, List.map_cons, if_neg (fun q => z (Sum.inr.inj q)), if_neg z]
      exact .cons h ih
theorem RepK.append : ∀ {vs ws : List (Key × V)} {ks ls : List (Str × D)}, RepK K C F vs ks → RepK K C F ws ls → RepK K C F (vs ++ ws) (ks ++ ls)
  | _, _, _, _, .nil, s => s
  | _, _, _, _, .cons h r, s => .cons h (RepK.append r s)
theorem RepK.put {s : Str} {v : V} {d : D} {vs : List (Key × V)} {ks : List (Str × D)} (h : RepK K C F vs ks) (hv : Rep K C F v d) : RepK K C F (putK vs (.inr s) v) (putD ks s d) := by
  unfold putK putD
  rw [h.anyK]
  split
  · exact h.mapK hv
  · exact h.append (.cons hv .nil)
def mergeD (ks more : List (Str × D)) : List (Str × D) := more.foldl (fun acc p => putD acc p.1 p.2) ks
theorem RepK.merge {ws : List (Key × V)} : ∀ {vs : List (Key × V)} {ls ks : List (Str × D)}, RepK K C F vs ks → RepK K C F ws ls → RepK K C F (mergeK vs ws) (mergeD ks ls) := by
  induction ws with
  | nil => intro vs ls ks h r; cases r; exact h
  | cons w ws ih =>
    intro vs ls ks h r
    cases r with
    | @cons k v d _ ds h1 r => exact ih (vs := putK vs (.inr k) v) (ls := ds) (ks := putD ks k d) (h.put h1) r
theorem length_putD (ks : List (Str × D)) (s : Str) (d : D) : (putD ks s d).length ≤ ks.length + 1 := by
  unfold putD
  split <;> simp
end
section
variable {X : Cx} {C : Addr} {k : Nat} {N Vn Ln Gn Cn : List Str} {n : Nat} {env : En} {Q : QE} {QT : QB} {QR' : QR} {QA' : QA} {QG : QN} {x y : Str} {p pos : Pos} {e a b c tg iter elt : Expr} {es ifs : List Expr} {d : D} {E : EnD}
/-- x[k] = value, x a dict of one's own -/
theorem eg_putK {i : Nat} {ks0 : List (Str × D)} (hX : XOk X k N Vn Ln Gn) (hl : Lk N env x i (.dct ks0)) (hv : x ∈ Vn) (h : Ev X C b n env fun dk n1 env1 => ∃ s ks, dk = .str s ∧ env1[i]? = some (.dct ks) ∧ ks.length < 100000 ∧ QG n1 (env1.set i (.dct (putD ks s d))))
    (ha : ∀ v, assign (.Subscript (.Name x p) b pos) X.env v = (do
      let ov ← holding [v] (eval (.Name x p) X.env)
      let iv ← holding [v, ov] (eval b X.env)
      standAt pos
      holding [v, ov, iv] (setItem ov iv v)
      release [v, ov, iv] []) := by intro _; rfl) : EvG X C (.Subscript (.Name x p) b pos) (.dat d) n env QG := fun B ts v σ H R S q => by
  obtain ⟨h1, h2⟩ := hl.ix
  obtain ⟨v1, v2, v3⟩ := hX.vis x hv
  obtain ⟨F, W, S0⟩ := id S
  have s := S0.slots i _ h2
  generalize hx : σ[i]? = o at s
  refine of_pg (pg_sub (pe_var (hX.get h1) v1 v2 v3) pe_t (set_dict hX.hu) ha) ?_
  cases s with
  | @dct a0 kvs0 _ w0 g0 r0 =>
    refine ⟨.ref a0, hx, h B _ σ H _ S fun vk H1 dk n1 env1 ⟨s, ks, hd, he, hz, hq⟩ S1 => ?_⟩
    subst hd
    obtain ⟨F1, W1, S1⟩ := S1
    have s1 := S1.slots i _ he
    rw [hx] at s1
    cases s1 with
    | @dct a1 kvs1 _ w1 g1 r1 =>
      obtain ⟨t1, t2, t3⟩ := S1.temps
      generalize hvk : vk = vk' at t1
      cases t1 with
      | dat rk =>
        have rk : Rep X.K C F1 vk' (.str s) := rk
        cases rk
        subst hvk
        cases t2 with
        | dat rv =>
          refine ⟨a0, _, rfl, .inl ⟨kvs1, .inr s, g1, rfl, Nat.lt_of_lt_of_le (by rw [r1.length]; exact hz) (by decide), rfl⟩, ?_⟩
          refine q n1 _ σ _ hq ⟨F1, W1, S1.pop.pop.change w1 ?_⟩
          rw [hx]
          exact .dct w1 upd_same (r1.put rv)
/-! dict([..]) -/
def pairD (p : Str × D) : D := .tup [.str p.1, p.2]
def rDictP (K : PySem.W.Frag) : List V → Hp → VK → Prop := fun xs H Q => ∃ (a : Addr) (ps : List Addr) (kvs : List (Key × V)), xs = [.ref a] ∧ SqL K H a (ps.map V.ref) ∧ Paired (fun p kv => SqT K H p [kV kv.1, kv.2]) ps kvs ∧
    ∀ p, H p = none → Q (.ref p) (upd H p (.dK (mergeK [] kvs)))
theorem reps_pairs {K : PySem.W.Frag} {F H : Hp} (e : Ex F H) : ∀ {ks : List (Str × D)} {vs : List V}, Reps K C F vs (ks.map pairD) → ∃ (ps : List Addr) (kvs : List (Key × V)), vs = ps.map V.ref ∧ Paired (fun p kv => SqT K H p [kV kv.1, kv.2]) ps kvs ∧ RepK K C F kvs ks
  | [], _, r => by cases r; exact ⟨[], [], rfl, .nil, .nil⟩
  | q :: ks, _, r => by
    rw [List.map_cons] at r
    cases r with
    | cons r1 r2 =>
      obtain ⟨ps, kvs, e1, e2, e3⟩ := reps_pairs e r2
      generalize hd : pairD q = dq at r1
      cases r1 with
      | @tup a vs ds h1 h2 =>
        cases hd
        cases h2 with
        | cons ra rb =>
          cases ra
          cases rb with
          | cons rc rd =>
            cases rd
            exact ⟨a :: ps, (.inr q.1, _) :: kvs, by rw [e1]; rfl, .cons (SqT.of (e _ _ h1)) e2, .cons rc e3⟩
      | _ => cases hd
theorem f_dictP {K : PySem.W.Frag} {ks : List (Str × D)} {Qf : TD → Prop} (q : Qf (.fd (mergeD [] ks))) : OpF K C (rDictP K) [.lst (ks.map pairD)] Qf := fun F H vs R e r _ t => by
  obtain ⟨v, rfl, rp⟩ := reps1 r
  generalize hd : D.lst (ks.map pairD) = dd at rp
  cases rp with
  | @lst a ws ds h1 h2 =>
    cases hd
    obtain ⟨ps, kvs, rfl, e2, e3⟩ := reps_pairs e h2
    exact ⟨a, ps, kvs, rfl, SqL.of (e _ _ h1), e2, fun p hp => t p _ _ q hp (RepK.merge .nil e3)⟩
  | _ => cases hd
theorem EvR.imp {Q' : QR} (h : EvR X C e n env Q') (hq : ∀ td n' env', Q' td n' env' → QR' td n' env') : EvR X C e n env QR' := fun B ts σ H R S q =>
  h B ts σ H R S fun v H' d n' env' z S' => q v H' d n' env' (hq _ _ _ z) S'
theorem evr_dict1 (hX : XOk X k N Vn Ln Gn) (hm : X.mg "dict" = none) (hg : ("dict" : Str) ∈ Gn) (h : EvR X C e n env fun td n1 env1 => ∃ ks, td.d = some (.lst (ks.map pairD)) ∧ QR' (.fd (mergeD [] ks)) n1 env1)
    (he : starEach [e] X.env = (false, eval e X.env) :: starEach [] X.env := by rfl) : EvR X C (.Call (.Name "dict" p) [e] [] pos) n env QR' :=
  evTyF hX (call_dictP hX.calm) hm bt_dict hg (ea_cons (ev_frz (EvR.imp h fun td n1 env1 ⟨ks, hd, hq⟩ => ⟨_, hd, ea_nil ⟨_, rfl, f_dictP hq⟩⟩)) (hs := he)) he rfl
/-! sorted -/
theorem RepK.keys {K : PySem.W.Frag} {F : Hp} : ∀ {vs : List (Key × V)} {ks : List (Str × D)}, RepK K C F vs ks → vs.map (·.1) = (ks.map (·.1)).map Sum.inr
  | _, _, .nil => rfl
  | _, _, .cons h r => by rw [List.map_cons, List.map_cons, List.map_cons, RepK.keys r]
def rSortD (K : PySem.W.Frag) : List V → Hp → VK → Prop := fun xs H Q => (∃ (a : Addr) (kvs : List (Key × V)) (ks : List Str), xs = [.ref a] ∧ Rd H a (.dK kvs) ∧ kvs.map (·.1) = ks.map Sum.inr ∧ ks.length < 64 ∧
    ∀ ys p, ys.Perm ks → sortedS ys = true → H p = none → Q (.ref p) (upd H p (.lst (ys.map V.str)))) ∨ rSortedI K xs H Q
theorem cr_sortD (hc : X.calm = true) : CallR X (.builtin "sorted") (rSortD X.K) := (call_sortedD hc).or cr_sortedI
theorem f_sortK {K : PySem.W.Frag} {ks : List (Str × D)} {Qf : TD → Prop} (h : ks.length < 64) (q : ∀ ys, ys.Perm (ks.map (·.1)) → sortedS ys = true → Qf (.fl (ys.map .str))) : OpF K C (rSortD K) [.dct ks] Qf := fun F H vs R e r t _ => by
  obtain ⟨v, rfl, rp⟩ := reps1 r
  cases rp with
  | @dct a kvs _ h1 h2 =>
    exact .inl ⟨a, kvs, ks.map (·.1), rfl, Evl.ex_rd e h1, h2.keys, by simpa using h, fun ys p hp hs hn => t p _ _ (q ys hp hs) hn strs_reps⟩
theorem f_sortI {K : PySem.W.Frag} {ns : List Int} {Qf : TD → Prop} (q : ∀ ys : List Int, ys.Perm ns → ys.Pairwise (· ≤ ·) → Qf (.fl (ys.map .int))) : OpF K C (rSortD K) [.lst (ns.map .int)] Qf := fun F H vs R e r t _ => by
  obtain ⟨v, rfl, rp⟩ := reps1 r
  generalize hd : D.lst (ns.map .int) = dd at rp
  cases rp with
  | @lst a ws ds h1 h2 =>
    cases hd
    have e2 := reps_ints h2
    subst e2
    exact .inr ⟨a, ns, rfl, SqL.of (e _ _ h1), fun ys p hp hs hn => t p _ _ (q ys hp hs) hn ints_reps⟩
  | _ => cases hd
theorem evr_sorted (hX : XOk X k N Vn Ln Gn) (hm : X.mg "sorted" = none) (hg : ("sorted" : Str) ∈ Gn) (h : Ev X C e n env fun d n1 env1 => OpF X.K C (rSortD X.K) [d] fun td => QR' td n1 env1)
    (he : starEach [e] X.env = (false, eval e X.env) :: starEach [] X.env := by rfl) : EvR X C (.Call (.Name "sorted" p) [e] [] pos) n env QR' :=
  evBF hX (cr_sortD hX.calm) hm bt_sorted hg (ea_cons (h.imp fun d n1 env1 hq => ea_nil ⟨_, rfl, hq⟩) (hs := he)) he rfl
/-! x.update(d), x a dict of one's own -/
def rUpd : V → List V → Hp → VK → Prop := fun x vs H Q => ∃ (d o : Addr) (kvs more : List (Key × V)), x = .ref d ∧ vs = [.ref o] ∧ d ≠ o ∧ H d = some (.dK kvs) ∧ Rd H o (.dK more) ∧ kvs.length + more.length ≤ sizeLine ∧ Q .non (upd H d (.dK (mergeK kvs more)))
theorem mt_upd {X : Cx} : MtM X "dict.update" rUpd := by
  intro pins s σ H x vs v us Q I rx rv h
  obtain ⟨d, o, kvs, more, rfl, rfl, hne, hd, ho, hz, q⟩ := h
  cases rx
  obtain ⟨u, rfl, ru⟩ := rv.one
  cases ru
  obtain ⟨z1, s1, vs1, rel1, dd1⟩ := dk_of I.hok hd
  obtain ⟨z2, s2, vs2, rel2, dd2⟩ := dk_rd I.hok ho
  have l1 : kvs.length = vs1.length := Paired.length rel1
  have l2 : more.length = vs2.length := Paired.length rel2
  refine call_meetsIn F.slot_dict_update dd1.typeIs F.entry_dict_update (F.args_dict_update_2 _ _) (meets_dict_update (mixKind X.prog X.w) d o hne s2) ⟨vs1, vs2, dd1, dd2, by omega, fun h' d1 d2 hs => ?_⟩
  have he : ∃ q, h'.get? d = some q := let ⟨q, _, _, hq, _⟩ := d1; ⟨q, hq⟩
  have hl : (mergeK kvs more).length ≤ sizeLine := Nat.le_trans (length_mergeK more kvs) hz
  exact ⟨.non, _, d_write (t' := s.toks) I (by rw [hd]; exact True.intro) hs he (dk_new hl s1 (KV.merge rel2 rel1) d1), rfl, q⟩
theorem ev_upd {i : Nat} {apos cpos : Pos} {ks0 : List (Str × D)} (hX : XOk X k N Vn Ln Gn) (hl : Lk N env x i (.dct ks0)) (hv : x ∈ Vn) (h : Ev X C e n env fun d n1 env1 => ∃ ks ls, d = .dct ls ∧ env1[i]? = some (.dct ks) ∧ ks.length + ls.length ≤ 100000 ∧ Q .non n1 (env1.set i (.dct (mergeD ks ls))))
    (hbase : attributeBase (.Name x p) "update" X.env (eval (.Name x p) X.env) = eval (.Name x p) X.env := by rfl)
    (hfew : ((backTo cpos (starEach [e] X.env)).all (fun x => !x.1) && (backToKw cpos (keywordEach [] X.env)).all (fun x => x.1.isSome) && decide ([e].length + ([] : List Keyword).length + (if ([] : List Keyword).isEmpty then 0 else 1) < 30)) = true := by rfl)
    (hline : (apos.endLine == cpos.line) = true := by rfl) (hs : starEach [e] X.env = (false, eval e X.env) :: starEach [] X.env := by rfl) (hplain : (backTo cpos (starEach [] X.env)).any (·.1) = false := by rfl) : Ev X C (.Call (.Attribute (.Name x p) "update" apos) [e] [] cpos) n env Q := fun B ts σ H R S q => by
  obtain ⟨h1, h2⟩ := hl.ix
  obtain ⟨v1, v2, v3⟩ := hX.vis x hv
  refine of_pe (pe_bm PySem.F.plainAttrs_dict PySem.F.slot_dict_update PySem.F.type_dict_update mt_upd (pe_var (hX.get h1) v1 v2 v3) (pa_cons pe_t pa_nil hs) hbase hfew hline hs hplain) ?_
  obtain ⟨F, W, S0⟩ := id S
  have s := S0.slots i _ h2
  generalize hx : σ[i]? = o at s
  cases s with
  | @dct a0 kvs0 _ w0 g0 r0 =>
    refine ⟨.ref a0, hx, .inr (.inr (.inl ⟨rfl, .inl ⟨_, g0⟩⟩)), h B ts σ H _ S fun v H1 d n1 env1 ⟨ks, ls, hd, he, hz, hq⟩ S1 => ?_⟩
    subst hd
    obtain ⟨F1, W1, S1⟩ := S1
    have s := S1.slots i _ he
    rw [hx] at s
    cases s with
    | @dct a1 kvs1 _ w1 g1 r1 =>
      have t := S1.temps.1
      cases t with
      | dat rp =>
        cases rp with
        | @dct b1 ws _ g2 r2 =>
          have hne : a0 ≠ b1 := fun z => by
            subst z
            have := (S1.own _ _ w1).1
            rcases g2 with g2 | ⟨o, g2⟩ <;> (rw [this] at g2; cases g2)
          refine ⟨a0, b1, kvs1, ws, rfl, rfl, hne, g1, Evl.ex_rd S1.ex2 g2, by rw [r1.length, r2.length]; exact small_line hz, ?_⟩
          refine q .non _ .non n1 _ hq ⟨F1, W1, (S1.pop.change w1 ?_).push .non⟩
          rw [hx]
          exact .dct w1 upd_same (r1.merge r2)
end
/-! ## K8 -/
section
variable {X : Cx} {C : Addr} {k : Nat} {N Vn Ln Gn Cn : List Str} {n : Nat} {env : En} {Q : QE} {QT : QB} {QR' : QR} {QA' : QA} {QG : QN} {x y : Str} {p p2 pos pos2 : Pos} {e e2 a b c tg iter elt : Expr} {es ifs : List Expr} {d : D} {E : EnD}
/-! ### zip -/
def zipD (ds es : List D) : List D := (ds.zip es).map fun p => .tup [p.1, p.2]
theorem zipD_get {ds es : List D} {i : Nat} {d : D} (h : (zipD ds es)[i]? = some d) : ∃ d1 d2, ds[i]? = some d1 ∧ es[i]? = some d2 ∧ d = .tup [d1, d2] := by
  unfold zipD at h
  rw [List.getElem?_map] at h
  cases hz : (ds.zip es)[i]? with
  | none => rw [hz] at h; cases h
  | some p =>
    rw [hz] at h
    cases h
    obtain ⟨h1, h2⟩ := List.getElem?_zip_eq_some.mp hz
    exact ⟨p.1, p.2, h1, h2, rfl⟩
theorem zipD_length {ds es : List D} : (zipD ds es).length = min ds.length es.length := by unfold zipD; simp
theorem two_temps {B : Bs} {F : Hp} {W : Addr → Option Tg} {ts : List (V × TD)} {σ : St} {H : Hp} {vs : List V} {d1 d2 : D} (hl : vs.length = 2) (S : Stt X.K C B F W (stk vs [.dat d1, .dat d2] ts) n env σ H) : ∃ v1 v2, vs = [v1, v2] ∧ Rep X.K C F v1 d1 ∧ Rep X.K C F v2 d2 ∧ Stt X.K C B F W ts n env σ H := by
  match vs, hl with
  | [v1, v2], _ =>
    have S : Stt X.K C B F W ((v2, .dat d2) :: (v1, .dat d1) :: ts) n env σ H := S
    obtain ⟨t1, t2, t3⟩ := S.temps
    cases t1 with
    | dat r2 => cases t2 with
      | dat r1 => exact ⟨v1, v2, rfl, r1, r2, S.pop.pop⟩
theorem evr_listZip (hX : XOk X k N Vn Ln Gn) (hg : ("list" : Str) ∈ Gn) (hm : X.mg "list" = none) (hg2 : ("zip" : Str) ∈ Gn) (hm2 : X.mg "zip" = none)
    (h : EvA X C [e, e2] n env fun tds n1 env1 => ∃ ds es, tds = [.dat (.tup ds), .dat (.tup es)] ∧ QR' (.fl (zipD ds es)) n1 env1)
    (hs : starEach [e, e2] X.env = (false, eval e X.env) :: starEach [e2] X.env := by rfl) (hpl : (backTo pos2 (starEach [e2] X.env)).any (·.1) = false := by rfl)
    (hs1 : starEach [.Call (.Name "zip" p2) [e, e2] [] pos2] X.env = (false, eval (.Call (.Name "zip" p2) [e, e2] [] pos2) X.env) :: starEach [] X.env := by rfl) :
    EvR X C (.Call (.Name "list" p) [.Call (.Name "zip" p2) [e, e2] [] pos2] [] pos) n env QR' := fun B ts σ H R S q => by
  refine of_pe (pe_listZip hX.calm (hX.gl _ hg).1 hm (hX.gl _ hg2).1 hm2 pa_t hs hpl hs1) (h B ts σ H _ S fun vs H1 tds n1 env1 ⟨ds, es, hd, hq⟩ hl S1 => ?_)
  subst hd
  obtain ⟨F, W, S1⟩ := S1
  obtain ⟨v1, v2, rfl, r1, r2, S2⟩ := two_temps hl S1
  generalize hd1 : D.tup ds = dd1 at r1
  generalize hd2 : D.tup es = dd2 at r2
  cases r1 with
  | @tup a xs ds' g1 g2 =>
    cases hd1
    cases r2 with
    | @tup b ys es' g3 g4 =>
      cases hd2
      refine ⟨a, b, xs, ys, rfl, SqT.of (S2.ex2 _ _ g1), SqT.of (S2.ex2 _ _ g3), fun H' p ts' k1 k2 k3 k4 k5 k6 k7 => ?_⟩
      have lz : ts'.length = (zipD ds es).length := by rw [k6, zipD_length, g2.length, g4.length]
      have fz : ∀ t ∈ ts', F t = none := fun t ht => Evl.fresh_back S2.ex2 (k3 t ht)
      have exF : Ex F (fun b => if b ∈ ts' then H' b else F b) := fun b o h => by
        show (if b ∈ ts' then H' b else F b) = some o
        rw [if_neg (fun z => by rw [fz b z] at h; cases h)]
        exact h
      have S3 : Stt X.K C B (fun b => if b ∈ ts' then H' b else F b) W ts n1 env1 σ (fun b => if b = p then none else H' b) := by
        refine S2.grow exF (fun b o h => ?_) (fun b o h => ?_) (fun b o h => ?_)
        · have h : (if b ∈ ts' then H' b else F b) = some o := h
          show (if b = p then none else H' b) = some o
          by_cases z : b ∈ ts'
          · rw [if_pos z] at h
            rw [if_neg (fun q : b = p => k4 (by rw [← q]; exact z))]
            exact h
          · rw [if_neg z] at h
            have hH := S2.ex2 b o h
            rw [if_neg (fun q => by rw [q, k2] at hH; cases hH)]
            exact k1 b o hH
        · show (if b = p then none else H' b) = some o
          rw [if_neg (fun q => by rw [q, k2] at h; cases h)]
          exact k1 b o h
        · have h : (if b ∈ ts' then H' b else F b) = some o := h
          by_cases z : b ∈ ts'
          · exact .inr (k3 b z)
          · rw [if_neg z] at h; exact .inl h
      have reps : Reps X.K C (fun b => if b ∈ ts' then H' b else F b) (ts'.map V.ref) (zipD ds es) := by
        have key : ∀ (us : List Addr) (ls : List D), us.length = ls.length → (∀ (j : Nat) t d, us[j]? = some t → ls[j]? = some d → Rep X.K C (fun b => if b ∈ ts' then H' b else F b) (.ref t) d) → Reps X.K C (fun b => if b ∈ ts' then H' b else F b) (us.map V.ref) ls := by
          intro us
          induction us with
          | nil => intro ls hl _; cases ls with
            | nil => exact .nil
            | cons _ _ => simp at hl
          | cons u us ih =>
            intro ls hl hj
            cases ls with
            | nil => simp at hl
            | cons l ls => exact .cons (hj 0 u l rfl rfl) (ih ls (by simpa using hl) fun j t d h1 h2 => hj (j + 1) t d (by simpa using h1) (by simpa using h2))
        refine key ts' _ lz fun j t d h1 h2 => ?_
        obtain ⟨d1, d2, e1, e2, rfl⟩ := zipD_get h2
        obtain ⟨x, y, f1, f2, f3⟩ := k7 j t h1
        obtain ⟨x', f4, rx⟩ := g2.get e1
        obtain ⟨y', f5, ry⟩ := g4.get e2
        rw [f1] at f4; cases f4
        rw [f2] at f5; cases f5
        refine .tup (vs := [x, y]) ?_ (.cons (rx.mono (LeR.of exF)) (.cons (ry.mono (LeR.of exF)) .nil))
        show (if t ∈ ts' then H' t else F t) = _
        rw [if_pos (List.mem_of_getElem? h1)]
        exact f3
      obtain ⟨W', S4⟩ := S3.newF (q := p) (by show (if p = p then none else H' p) = none; rw [if_pos rfl]) reps
      have eH : upd (fun b => if b = p then none else H' b) p (.lst (ts'.map V.ref)) = H' := by
        funext b
        by_cases z : b = p
        · subst z; rw [upd_same, k5]
        · rw [upd_ne z]; show (if b = p then none else H' b) = _; rw [if_neg z]
      rw [eH] at S4
      exact q _ _ _ n1 env1 hq ⟨_, _, S4⟩
    | _ => cases hd2
  | _ => cases hd1
/-- for a, b in zip(x, y): two lists, or two tuples -/
theorem ei_zip {kk : Nat} {tpos : Pos} {tgs : List Expr} {QI' : QI} (hX : XOk X k N Vn Ln Gn) (hg : ("zip" : Str) ∈ Gn) (hm : X.mg "zip" = none)
    (h : EvA X C [e, e2] n env fun tds n1 env1 => ∃ ds es, (tds = [.dat (.tup ds), .dat (.tup es)] ∨ tds = [.dat (.lst ds), .dat (.lst es)]) ∧ QI' (zipD ds es) n1 env1)
    (hs : starEach [e, e2] X.env = (false, eval e X.env) :: starEach [e2] X.env := by rfl) (hpl : (backTo pos (starEach [e2] X.env)).any (·.1) = false := by rfl) : EvI X C (.Tuple tgs kk tpos) (.Call (.Name "zip" p) [e, e2] [] pos) n env QI' := fun B ts σ H R S q => by
  refine of_pi (RZ.pi_zipA (hX.gl _ hg).1 hm pa_t hs hpl) (h B ts σ H _ S fun vs H1 tds n1 env1 ⟨ds, es, hd, hq⟩ hl S1 => ?_)
  obtain ⟨F, W, S1⟩ := S1
  rcases hd with hd | hd
  · subst hd
    obtain ⟨v1, v2, rfl, r1, r2, S2⟩ := two_temps hl S1
    generalize hd1 : D.tup ds = dd1 at r1
    generalize hd2 : D.tup es = dd2 at r2
    cases r1 with
    | @tup a xs ds' g1 g2 =>
      cases hd1
      cases r2 with
      | @tup b ys es' g3 g4 =>
        cases hd2
        refine ⟨a, b, xs, ys, rfl, .inr ⟨SqT.of (S2.ex2 _ _ g1), SqT.of (S2.ex2 _ _ g3), ?_⟩⟩
        have at2 : ∀ {us : List (V × TD)} {n env σ H}, Sta X.K C B (us ++ ((.ref b, .dat (.tup es)) :: (.ref a, .dat (.tup ds)) :: ts)) n env σ H → ∃ F2 W2 xs ys, Stt X.K C B F2 W2 (us ++ ((.ref b, .dat (.tup es)) :: (.ref a, .dat (.tup ds)) :: ts)) n env σ H ∧ SqT X.K H a xs ∧ SqT X.K H b ys ∧ Reps X.K C F2 xs ds ∧ Reps X.K C F2 ys es := fun ⟨F2, W2, Z⟩ => by
          obtain ⟨t1, t2, t3⟩ := Z.drop.temps
          generalize hb : (V.ref b, TD.dat (.tup es)).1 = bb at t1
          generalize hdd : D.tup es = dd at t1
          cases t1 with
          | dat rb =>
            cases hb
            cases hdd
            generalize hdd2 : D.tup ds = dd2 at t2
            cases t2 with
            | dat ra =>
              cases hdd2
              cases ra with
              | @tup _ xs _ q1 q2 =>
                cases rb with
                | @tup _ ys _ q3 q4 => exact ⟨F2, W2, xs, ys, Z, SqT.of (Z.ex2 _ _ q1), SqT.of (Z.ex2 _ _ q3), q2, q4⟩
        refine q _ H1 (zipD ds es) [(.ref b, .dat (.tup es)), (.ref a, .dat (.tup ds))] n1 env1 hq ⟨F, W, S1⟩ ⟨fun us' i d' n env σ H hi S2 => ?_, fun us' n env σ H S2 => ?_⟩
        · obtain ⟨F2, W2, xs2, ys2, Z2, s1, s2, q1, q2⟩ := at2 S2
          obtain ⟨d1, d2, e1, e2, rfl⟩ := zipD_get hi
          obtain ⟨x, hx, rx⟩ := q1.get e1
          obtain ⟨y, hy, ry⟩ := q2.get e2
          refine ⟨⟨xs2, ys2, x, y, s1, s2, hx, hy⟩, fun w H' ⟨T, x', y', ew, eT, eH, c1, c2⟩ => ?_⟩
          subst ew eH
          have c1 := c1 _ s1
          have c2 := c2 _ s2
          rw [hx] at c1; cases c1
          rw [hy] at c2; cases c2
          have hf : F2 T = none := Evl.fresh_back Z2.ex2 eT
          exact ⟨_, _, (Z2.fresh eT).push (.tup upd_same (.cons (rx.mono (LeR.of (Ex.new hf))) (.cons (ry.mono (LeR.of (Ex.new hf))) .nil)))⟩
        · obtain ⟨F2, W2, xs2, ys2, Z2, s1, s2, q1, q2⟩ := at2 S2
          refine ⟨xs2, ys2, s1, s2, ?_⟩
          rw [zipD_length, q1.length, q2.length]
          omega
      | _ => cases hd2
    | _ => cases hd1
  · subst hd
    obtain ⟨v1, v2, rfl, r1, r2, S2⟩ := two_temps hl S1
    generalize hd1 : D.lst ds = dd1 at r1
    generalize hd2 : D.lst es = dd2 at r2
    cases r1 with
    | @lst a xs ds' g1 g2 =>
      cases hd1
      cases r2 with
      | @lst b ys es' g3 g4 =>
        cases hd2
        refine ⟨a, b, xs, ys, rfl, .inl ⟨SqL.of (S2.ex2 _ _ g1), SqL.of (S2.ex2 _ _ g3), ?_⟩⟩
        have at2 : ∀ {us : List (V × TD)} {n env σ H}, Sta X.K C B (us ++ ((.ref b, .dat (.lst es)) :: (.ref a, .dat (.lst ds)) :: ts)) n env σ H → ∃ F2 W2 xs ys, Stt X.K C B F2 W2 (us ++ ((.ref b, .dat (.lst es)) :: (.ref a, .dat (.lst ds)) :: ts)) n env σ H ∧ SqL X.K H a xs ∧ SqL X.K H b ys ∧ Reps X.K C F2 xs ds ∧ Reps X.K C F2 ys es := fun ⟨F2, W2, Z⟩ => by
          obtain ⟨t1, t2, t3⟩ := Z.drop.temps
          generalize hb : (V.ref b, TD.dat (.lst es)).1 = bb at t1
          generalize hdd : D.lst es = dd at t1
          cases t1 with
          | dat rb =>
            cases hb
            cases hdd
            generalize hdd2 : D.lst ds = dd2 at t2
            cases t2 with
            | dat ra =>
              cases hdd2
              cases ra with
              | @lst _ xs _ q1 q2 =>
                cases rb with
                | @lst _ ys _ q3 q4 => exact ⟨F2, W2, xs, ys, Z, SqL.of (Z.ex2 _ _ q1), SqL.of (Z.ex2 _ _ q3), q2, q4⟩
        refine q _ H1 (zipD ds es) [(.ref b, .dat (.lst es)), (.ref a, .dat (.lst ds))] n1 env1 hq ⟨F, W, S1⟩ ⟨fun us' i d' n env σ H hi S2 => ?_, fun us' n env σ H S2 => ?_⟩
        · obtain ⟨F2, W2, xs2, ys2, Z2, s1, s2, q1, q2⟩ := at2 S2
          obtain ⟨d1, d2, e1, e2, rfl⟩ := zipD_get hi
          obtain ⟨x, hx, rx⟩ := q1.get e1
          obtain ⟨y, hy, ry⟩ := q2.get e2
          refine ⟨⟨xs2, ys2, x, y, s1, s2, hx, hy⟩, fun w H' ⟨T, x', y', ew, eT, eH, c1, c2⟩ => ?_⟩
          subst ew eH
          have c1 := c1 _ s1
          have c2 := c2 _ s2
          rw [hx] at c1; cases c1
          rw [hy] at c2; cases c2
          have hf : F2 T = none := Evl.fresh_back Z2.ex2 eT
          exact ⟨_, _, (Z2.fresh eT).push (.tup upd_same (.cons (rx.mono (LeR.of (Ex.new hf))) (.cons (ry.mono (LeR.of (Ex.new hf))) .nil)))⟩
        · obtain ⟨F2, W2, xs2, ys2, Z2, s1, s2, q1, q2⟩ := at2 S2
          refine ⟨xs2, ys2, s1, s2, ?_⟩
          rw [zipD_length, q1.length, q2.length]
          omega
      | _ => cases hd2
    | _ => cases hd1
end
/-! ## K9 -/
theorem xok_def2 {X : Cx} {k : Nat} {N Vn Gn Cn : List Str} (h : defB Vn Gn Cn X.env.scope = true) (hN : X.N = N) (nd : N.Nodup) (hf : ∀ x, X.fn x = true) (hc : X.calm = true) (hr : Room k X.A) (hp : PassesOwn (model X.prog X.w) X.A X.env X.xe) :
    XOk X k N Vn Vn Gn ∧ XCap X Cn := by
  unfold defB at h
  simp only [Bool.and_eq_true, List.all_eq_true] at h
  obtain ⟨⟨h1, h3⟩, h4⟩ := h
  refine ⟨⟨hN, nd, fun x hx => ?_, fun x hx => ?_, fun x hx => ?_, hc, hr, hp⟩, ⟨fun x hx => ?_⟩⟩
  · obtain ⟨⟨q, q2⟩, q3⟩ := h1 x hx
    refine ⟨?_, by simpa [odd1] using q2, by simpa [odd2] using q3⟩
    split at q
    · rename_i e; exact .inl e
    · rename_i e; exact .inr (.inl e)
    · cases q
  · obtain ⟨⟨q, q2⟩, q3⟩ := h1 x hx
    refine ⟨?_, .inl (hf x)⟩
    split at q
    · rename_i e; exact .inl e
    · rename_i e; exact .inr e
    · cases q
  · obtain ⟨⟨q, q2⟩, q3⟩ := h3 x hx
    refine ⟨?_, by simpa [odd1] using q2, by simpa [odd3] using q3⟩
    show X.env.scope.names.lookup x = some .globalImplicit
    split at q
    · assumption
    · cases q
  · have q := h4 x hx
    split at q
    · rename_i e; exact .inl e
    · rename_i e; exact .inr e
    · cases q
section
variable {P : Program} {w : World} {K : PySem.W.Frag} {mg : Str → Option Value} {base : Heap} {C : Addr}
/-- as fnD_of, where N holds the names of blocks too -/
theorem fnD_of2 (no : En) {x qual : Str} {st : Stmt} {f : Addr} {fd : FuncData} {N ps : List Str} {k : Nat} {pl : Bool} {R : List D → Nat → (D → Nat → Prop) → Prop} (Vn Gn Cn : List Str) (F : Fun K x qual st f fd) (hm : mg x = some (.ref f)) (S : FnScope N ps (defScope st)) (hb : Binds K fd ps [])
    (hsc : defB Vn Gn Cn (defScope st) = true) (mono : ∀ ds n (p q : D → Nat → Prop), (∀ d m, p d m → q d m) → R ds n p → R ds n q) (len : ∀ ds n p, R ds n p → (argE pl ds).length = ps.length)
    (body : ∀ X : Cx, X.prog = P → X.w = w → X.K = K → X.mg = mg → X.base = base → X.env.scope = defScope st → XOk X k N Vn Vn Gn → XCap X Cn → ∀ ds n (p : D → Nat → Prop), R ds n p →
      StB X C (defBody st) n (argE pl ds ++ no) { nx := fun n _ => p .non n, rt := p }) (hno : List.replicate (N.length - ps.length) Sl.no = no := by rfl) : FnD P w K mg base C x (k + 1) pl R := by
  subst hno
  have lenV : ∀ vs H Q E, spD K C pl R vs H Q E → vs.length = ps.length := by
    rintro vs H Q E ⟨B, n, vs', ds, h1, h2, h3, h4, h5, h6, h7⟩
    rw [← len ds n _ h7, h3]
    have := h5.length
    cases pl <;> simp [this, argE]
  have hN : ps.length ≤ N.length := by
    have := congrArg List.length S.pre
    rw [List.length_take] at this
    omega
  refine ⟨⟨f, fd, ps, CX0, hm, F.kp, hb, F.ok S lenV (fun cdv A outer s H vs Q E hr h => ?_), fun X _ _ => pass0⟩, mono⟩
  have lv := lenV _ _ _ _ h
  obtain ⟨B, n, vs', ds, h1, h2, h3, h4, h5, h6, h7⟩ := h
  refine ⟨_, pss_t, ?_⟩
  obtain ⟨x1, x2⟩ := xok_def2 (X := (cxOf CX0 P w K mg base N qual (defScope st) f cdv A outer s H E).nox) (k := k) (N := N) (Vn := Vn) (Gn := Gn) (Cn := Cn) hsc rfl S.nd (fun _ => rfl) rfl hr PassesOwn.never
  refine body _ rfl rfl rfl rfl rfl rfl x1 x2 ds n _ h7 B [] _ H _ (sta_start h1 h2 h3 h4 h5 h6 lv hN) (fun n' env' σ' H' q S' => ?_) (fun d n' v H' q S' => q v H' S') (fun _ _ _ _ q _ => q.elim) (fun _ _ _ _ q _ => q.elim)
  refine q .non H' ?_
  obtain ⟨F', W', S'⟩ := S'
  exact Sta.ret (ts := []) ⟨F', W', S'.push .non⟩
end
section
variable {X : Cx} {C : Addr} {k : Nat} {N Vn Ln Gn Cn : List Str} {n : Nat} {env : En} {QR' : QR} {p pos : Pos} {e tg iter elt : Expr} {es ifs : List Expr} {scope : Scope}
/-- a block whose turns give the results of a function of the item: the simplest kind -/
theorem evr_lcF (V' L' G' C' : List Str) (own : List (Str × Nat)) (hX : XOk X k N Vn Ln Gn) (hC : XCap X Cn) (hb1 : blkN N Cn scope own = true) (hb2 : blkV scope V' L' G' C' = true) (fl : D → Bool) (fe : D → D)
    (h : EvI X C tg iter n env fun ds n1 env1 => ds.length ≤ 100000 ∧ wipeE env1 (own.map (·.2)) = env1 ∧
      (∀ d, d ∈ ds → AllB X scope k N V' L' G' C' fun X' => EvGv X' C (own.map (·.2)) tg (.dat d) n1 env1 fun n2 env2 => n2 = n1 ∧ AllB X scope k N V' L' G' C' fun X' => EvPT X' C ifs n2 env2 fun b n3 env3 => b = fl d ∧ n3 = n1 ∧ wipeE env3 (own.map (·.2)) = env1 ∧
        (b = true → AllB X scope k N V' L' G' C' fun X' => Ev X' C elt n3 env3 fun y n4 env4 => y = fe d ∧ n4 = n1 ∧ wipeE env4 (own.map (·.2)) = env1)) ∧ QR' (.fl ((ds.filter fl).map fe)) n1 env1)
    (hs : ∀ x, foldedSetIterable iter X.env x = pure x := by intro _; rfl) : EvR X C (.ListComp elt [⟨tg, iter, ifs, 0⟩] scope pos) n env QR' := by
  refine evr_lc V' L' G' C' own hX hC hb1 hb2 ?_ hs
  intro B ts σ H R S q
  refine h B ts σ H R S fun J H' ds us n1 env1 ⟨hl, hw, ht, hq⟩ S' ok => q J H' ds us n1 env1 ⟨fun i acc n' env' => acc = ((ds.take i).filter fl).map fe ∧ n' = n1 ∧ env' = env1, ⟨rfl, rfl, hw⟩, ?_, ?_⟩ S' ok
  · rintro i d acc n' env' hd ⟨rfl, rfl, rfl⟩
    have hi := (List.getElem?_eq_some_iff.mp hd).1
    have tk : ds.take (i + 1) = ds.take i ++ [d] := by rw [List.take_succ, hd]; rfl
    intro s H0 Cc cl fp hX' hC'
    have h1 := ht d (List.mem_of_getElem? hd) s H0 Cc cl fp hX' hC'
    intro B ts v σ H R S r
    refine h1 B ts v σ H R S fun n2 env2 σ2 H2 ⟨en, h2⟩ S2 hw2 => r n2 env2 σ2 H2 ?_ S2 hw2
    intro s H0 Cc cl fp hX' hC'
    have h3 := h2 s H0 Cc cl fp hX' hC'
    intro B ts σ H R S r
    refine h3 B ts σ H R S fun b H3 n3 env3 ⟨eb, e3, w3, h4⟩ S3 => r b H3 n3 env3 ?_ S3
    subst eb
    cases hf : fl d with
    | false =>
      simp only [Bool.false_eq_true, if_false]
      exact ⟨by rw [tk, List.filter_append, List.map_append]; simp [hf], e3, w3⟩
    | true =>
      simp only [if_true]
      intro s H0 Cc cl fp hX' hC'
      have h5 := h4 hf s H0 Cc cl fp hX' hC'
      intro B ts σ H R S r
      refine h5 B ts σ H R S fun v H4 y n4 env4 ⟨ey, e4, w4⟩ S4 => r v H4 y n4 env4 ⟨?_, ?_, e4, w4⟩ S4
      · rw [List.length_map]
        have := List.length_filter_le fl (ds.take i)
        rw [List.length_take] at this
        omega
      · rw [tk, List.filter_append, List.map_append, ey]; simp [hf]
  · rintro acc n' env' ⟨rfl, rfl, rfl⟩
    refine ⟨hw, ?_⟩
    rw [List.take_length]
    exact hq
end
/-! ## K10 -/
section
variable {X : Cx} {C : Addr} {k : Nat} {N Vn Ln Gn Cn : List Str} {n : Nat} {env : En} {QR' : QR} {x : Str} {p p2 pos pos2 : Pos} {e a b tg iter elt : Expr} {es ifs : List Expr} {scope : Scope} {E : EnD}
theorem rg_reps {K : PySem.W.Frag} {F : Hp} (i j : Int) : Reps K C F (rgV i j) (rangeD i (j - i).toNat) := by
  unfold rgV rangeD
  generalize List.range (j - i).toNat = l
  induction l with
  | nil => exact .nil
  | cons q l ih => exact .cons (.int _) ih
theorem evr_listRg2 (hX : XOk X k N Vn Ln Gn) (hg : ("list" : Str) ∈ Gn) (hm : X.mg "list" = none) (hg2 : ("range" : Str) ∈ Gn) (hm2 : X.mg "range" = none)
    (h : Ev X C a n env fun d n1 env1 => ∃ i : Int, d = .int i ∧ Ev X C b n1 env1 fun d n2 env2 => ∃ j : Int, d = .int j ∧ (0 ≤ i ∧ i ≤ 100000 ∧ 0 ≤ j ∧ j ≤ 100000) ∧ QR' (.fl (rangeD i (j - i).toNat)) n2 env2)
    (hs : starEach [a, b] X.env = (false, eval a X.env) :: starEach [b] X.env := by rfl) (hs2 : starEach [b] X.env = (false, eval b X.env) :: starEach [] X.env := by rfl)
    (hp : (backTo pos2 (starEach [b] X.env)).any (·.1) = false := by rfl)
    (hs1 : starEach [.Call (.Name "range" p2) [a, b] [] pos2] X.env = (false, eval (.Call (.Name "range" p2) [a, b] [] pos2) X.env) :: starEach [] X.env := by rfl) :
    EvR X C (.Call (.Name "list" p) [.Call (.Name "range" p2) [a, b] [] pos2] [] pos) n env QR' := fun B ts σ H R S q => by
  refine of_pe (pe_listRg hX.calm (hX.gl _ hg).1 hm (prg_2 (hX.gl _ hg2).1 hm2 pe_t pe_t hs hs2 hp) hs1) (h B ts σ H _ S fun v1 H1 d1 n1 env1 ⟨i, hd, h1⟩ S1 => ?_)
  subst hd
  refine h1 B _ σ H1 _ S1 fun v2 H2 d2 n2 env2 ⟨j, hd, ⟨c1, c2, c3, c4⟩, hq⟩ S2 => ?_
  subst hd
  obtain ⟨F, W, Z⟩ := S2
  obtain ⟨t1, t2, t3⟩ := Z.temps
  generalize hw : v2 = w2 at t1
  generalize hv : v1 = w1 at t2
  cases t1 with
  | dat rp1 =>
    have rp1 : Rep X.K C F w2 (.int j) := rp1
    cases rp1
    subst hw
    cases t2 with
    | dat rp2 =>
      have rp2 : Rep X.K C F w1 (.int i) := rp2
      cases rp2
      subst hv
      refine ⟨i, j, rfl, rfl, RgOk.of_le c1 (by omega) (by omega) c3, fun u hu => ?_⟩
      obtain ⟨W', Z'⟩ := Z.pop.pop.newF hu (rg_reps (C := C) (K := X.K) (F := F) i j)
      exact q _ _ _ n2 env2 hq ⟨F, W', Z'⟩
/-- name = [..], the turns giving a function of the item -/
theorem st_setLcF {i : Nat} {spos py : Pos} (V' L' G' C' : List Str) (own : List (Str × Nat)) (hX : XOk X k N Vn Ln Gn) (hC : XCap X Cn) (hi : Ix N x i) (hx : X.env.scope.names.lookup x = some .local) (hb1 : blkN N Cn scope own = true) (hb2 : blkV scope V' L' G' C' = true) (fl : D → Bool) (fe : D → D)
    (h : EvI X C tg iter n env fun ds n1 env1 => ds.length ≤ 100000 ∧ wipeE env1 (own.map (·.2)) = env1 ∧
      (∀ d, d ∈ ds → AllB X scope k N V' L' G' C' fun X' => EvGv X' C (own.map (·.2)) tg (.dat d) n1 env1 fun n2 env2 => n2 = n1 ∧ AllB X scope k N V' L' G' C' fun X' => EvPT X' C ifs n2 env2 fun b n3 env3 => b = fl d ∧ n3 = n1 ∧ wipeE env3 (own.map (·.2)) = env1 ∧
        (b = true → AllB X scope k N V' L' G' C' fun X' => Ev X' C elt n3 env3 fun y n4 env4 => y = fe d ∧ n4 = n1 ∧ wipeE env4 (own.map (·.2)) = env1)) ∧ E.nx n1 (env1.set i (.lst ((ds.filter fl).map fe))))
    (hk : X.env.scope.kind = .function) (hl : (py.line == pos.line) = true := by rfl) (ha : (scope.names.any fun (n, k) => n == x && (k == .local || k == .cell)) = false := by decide +kernel)
    (hs : ∀ x, foldedSetIterable iter X.env x = pure x := by intro _; rfl) : StS X C (.Assign [.Name x py] (.ListComp elt [⟨tg, iter, ifs, 0⟩] scope pos) spos) n env E := by
  refine st_setLc V' L' G' C' own hX hC hi hx hb1 hb2 ?_ hk hl ha hs
  intro B ts σ H R S q
  refine h B ts σ H R S fun J H' ds us n1 env1 ⟨hl, hw, ht, hq⟩ S' ok => q J H' ds us n1 env1 ⟨fun i acc n' env' => acc = ((ds.take i).filter fl).map fe ∧ n' = n1 ∧ env' = env1, ⟨rfl, rfl, hw⟩, ?_, ?_⟩ S' ok
  · rintro i d acc n' env' hd ⟨rfl, rfl, rfl⟩
    have hi := (List.getElem?_eq_some_iff.mp hd).1
    have tk : ds.take (i + 1) = ds.take i ++ [d] := by rw [List.take_succ, hd]; rfl
    intro s H0 Cc cl fp hX' hC'
    have h1 := ht d (List.mem_of_getElem? hd) s H0 Cc cl fp hX' hC'
    intro B ts v σ H R S r
    refine h1 B ts v σ H R S fun n2 env2 σ2 H2 ⟨en, h2⟩ S2 hw2 => r n2 env2 σ2 H2 ?_ S2 hw2
    intro s H0 Cc cl fp hX' hC'
    have h3 := h2 s H0 Cc cl fp hX' hC'
    intro B ts σ H R S r
    refine h3 B ts σ H R S fun b H3 n3 env3 ⟨eb, e3, w3, h4⟩ S3 => r b H3 n3 env3 ?_ S3
    subst eb
    cases hf : fl d with
    | false =>
      simp only [Bool.false_eq_true, if_false]
      exact ⟨by rw [tk, List.filter_append, List.map_append]; simp [hf], e3, w3⟩
    | true =>
      simp only [if_true]
      intro s H0 Cc cl fp hX' hC'
      have h5 := h4 hf s H0 Cc cl fp hX' hC'
      intro B ts σ H R S r
      refine h5 B ts σ H R S fun v H4 y n4 env4 ⟨ey, e4, w4⟩ S4 => r v H4 y n4 env4 ⟨?_, ?_, e4, w4⟩ S4
      · rw [List.length_map]
        have := List.length_filter_le fl (ds.take i)
        rw [List.length_take] at this
        omega
      · rw [tk, List.filter_append, List.map_append, ey]; simp [hf]
  · rintro acc n' env' ⟨rfl, rfl, rfl⟩
    refine ⟨hw, ?_⟩
    rw [List.take_length]
    exact hq
end
/-! ## M1 -/
/-! ### bodies, units: plain mathematics -/
inductive Bd where
  | nil | u (n : Nat) (r : Bd) | g (t : Str) (b r : Bd)
abbrev Mk := Str × Nat
def bdD : Bd → List D
  | .nil => []
  | .u n r => .int (n : Nat) :: bdD r
  | .g t b r => .tup [.str t, .tup (bdD b)] :: bdD r
def dpB : Bd → Nat
  | .nil => 0
  | .u _ r => dpB r
  | .g _ b r => max (dpB b + 1) (dpB r)
def szB : Bd → Nat
  | .nil => 0
  | .u n r => n + 1 + szB r
  | .g _ b r => szB b + 1 + szB r
def csB : Bd → Nat
  | .nil => 0
  | .u n r => n + csB r
  | .g _ b r => csB b + csB r
def dropB : Nat → Bd → Bd
  | 0, b => b
  | _ + 1, .nil => .nil
  | i + 1, .u _ r => dropB i r
  | i + 1, .g _ _ r => dropB i r
def tailB : Bd → Bd
  | .nil => .nil
  | .u _ r => r
  | .g _ _ r => r
def headD : Bd → Option D
  | .nil => none
  | .u n _ => some (.int (n : Nat))
  | .g t b _ => some (.tup [.str t, .tup (bdD b)])
theorem bdD_get : ∀ (i : Nat) (b : Bd), (bdD b)[i]? = headD (dropB i b)
  | 0, .nil => rfl
  | 0, .u _ _ => rfl
  | 0, .g _ _ _ => rfl
  | _ + 1, .nil => rfl
  | i + 1, .u _ r => by show (bdD r)[i]? = _; exact bdD_get i r
  | i + 1, .g _ _ r => by show (bdD r)[i]? = _; exact bdD_get i r
theorem dropB_succ : ∀ (i : Nat) (b : Bd), dropB (i + 1) b = tailB (dropB i b)
  | 0, .nil => rfl
  | 0, .u _ _ => rfl
  | 0, .g _ _ _ => rfl
  | _ + 1, .nil => rfl
  | i + 1, .u _ r => dropB_succ i r
  | i + 1, .g _ _ r => dropB_succ i r
theorem dropB_len : ∀ (b : Bd), dropB (bdD b).length b = .nil
  | .nil => rfl
  | .u _ r => dropB_len r
  | .g _ _ r => dropB_len r
theorem dropB_dp : ∀ (i : Nat) (b : Bd), dpB (dropB i b) ≤ dpB b
  | 0, _ => Nat.le_refl _
  | _ + 1, .nil => Nat.le_refl _
  | i + 1, .u _ r => dropB_dp i r
  | i + 1, .g _ _ r => Nat.le_trans (dropB_dp i r) (Nat.le_max_right _ _)
theorem dropB_sz : ∀ (i : Nat) (b : Bd), szB (dropB i b) ≤ szB b
  | 0, _ => Nat.le_refl _
  | _ + 1, .nil => Nat.le_refl _
  | i + 1, .u n r => Nat.le_trans (dropB_sz i r) (by show szB r ≤ n + 1 + szB r; omega)
  | i + 1, .g _ b r => Nat.le_trans (dropB_sz i r) (by show szB r ≤ szB b + 1 + szB r; omega)
theorem csB_sz : ∀ (b : Bd), csB b ≤ szB b
  | .nil => Nat.le_refl _
  | .u n r => by have := csB_sz r; show n + csB r ≤ n + 1 + szB r; omega
  | .g _ b r => by have := csB_sz r; have := csB_sz b; show csB b + csB r ≤ szB b + 1 + szB r; omega
theorem bdD_sz : ∀ (b : Bd), (bdD b).length ≤ szB b
  | .nil => Nat.le_refl _
  | .u n r => by have := bdD_sz r; show (bdD r).length + 1 ≤ n + 1 + szB r; omega
  | .g _ b r => by have := bdD_sz r; show (bdD r).length + 1 ≤ szB b + 1 + szB r; omega
theorem dropB_some {i : Nat} {b : Bd} {d : D} (h : (bdD b)[i]? = some d) : i < (bdD b).length := (List.getElem?_eq_some_iff.mp h).1
/-- the units, each with the marks of the holds that it lies in -/
def unB : Bd → Nat → List Mk → List (List Mk)
  | .nil, _, _ => []
  | .u n r, k, ar => List.replicate n ar ++ unB r (k + 1) ar
  | .g t b r, k, ar => unB b 0 (ar ++ [(t, ar.length * 100 + k)]) ++ unB r (k + 1) ar
theorem unB_length : ∀ (b : Bd) (k : Nat) (ar : List Mk), (unB b k ar).length = csB b
  | .nil, _, _ => rfl
  | .u n r, k, ar => by show (List.replicate n ar ++ _).length = _; rw [List.length_append, List.length_replicate, unB_length r]; rfl
  | .g t b r, k, ar => by show (unB b 0 _ ++ _).length = _; rw [List.length_append, unB_length r, unB_length b]; rfl
abbrev mkD (m : Mk) : D := .tup [.str m.1, .int (m.2 : Nat)]
abbrev arD (ar : List Mk) : D := .tup (ar.map mkD)
abbrev unD (us : List (List Mk)) : D := .lst (us.map arD)
/-! ## M2 -/
def pfx : List Mk → List Mk → List Mk
  | a :: as, b :: bs => if a = b then a :: pfx as bs else []
  | _, _ => []
theorem pfx_self : ∀ a : List Mk, pfx a a = a
  | [] => rfl
  | x :: a => by unfold pfx; rw [if_pos rfl, pfx_self a]
theorem pfx_snoc : ∀ (a b : List Mk) (x y : Mk), a.length = b.length → pfx (a ++ [x]) (b ++ [y]) = pfx a b ++ (if a = b ∧ x = y then [x] else [])
  | [], [], x, y, _ => by
    by_cases h : x = y
    · subst h; simp [pfx]
    · simp [pfx, h]
  | a :: as, b :: bs, x, y, h => by
    have ih := pfx_snoc as bs x y (by simpa using h)
    show pfx (a :: (as ++ [x])) (b :: (bs ++ [y])) = _
    unfold pfx
    by_cases e : a = b
    · subst e
      rw [if_pos rfl, if_pos rfl, ih]
      by_cases z : as = bs ∧ x = y
      · rw [if_pos z, if_pos ⟨by rw [z.1], z.2⟩]; rfl
      · rw [if_neg z, if_neg (fun q => z ⟨by simpa using q.1, q.2⟩)]; rfl
    · rw [if_neg e, if_neg e, if_neg (fun q => e (by have := q.1; simp at this; exact this.1))]; rfl
  | [], b :: bs, x, y, h => by simp at h
  | a :: as, [], x, y, h => by simp at h
theorem pfx_take : ∀ (a b : List Mk), pfx (a.take (min a.length b.length)) (b.take (min a.length b.length)) = pfx a b
  | [], b => by simp [pfx]
  | a :: as, [] => by simp [pfx]
  | a :: as, b :: bs => by
    have ih := pfx_take as bs
    have e : min (a :: as).length (b :: bs).length = min as.length bs.length + 1 := by simp only [List.length_cons]; omega
    rw [e, List.take_succ_cons, List.take_succ_cons]
    unfold pfx
    rw [ih]
/-- the things of the holds that lie open between the unit before j and the one at j -/
def insU (us : List (List Mk)) (j : Nat) : List Str := if 0 < j ∧ j < us.length then (pfx (us.getD (j - 1) []) (us.getD j [])).map (·.1) else []
def okT (t : Str) : Bool := PyData.canLay0 (.str t)
def okMs (ms : List Mk) : Bool := ms.all fun m => okT m.1
def okUs (us : List (List Mk)) : Bool := us.all okMs && us.all fun u => decide (u.length ≤ 1000)
theorem okD_mk {m : Mk} (h : okT m.1 = true) : okD 1 (mkD m) = true := by
  show ([D.str m.1, D.int (m.2 : Nat)].all (okD 0)) = true
  rw [List.all_cons]
  rw [show okD 0 (D.str m.1) = true from h]
  rfl
theorem eqv_mk {a b : Mk} : PyData.eqv (toP 1 (mkD a)) (toP 1 (mkD b)) = decide (a = b) := by
  show PyData.eqvAll [.str a.1, .int (a.2 : Nat)] [.str b.1, .int (b.2 : Nat)] = _
  show ((a.1 == b.1) && ((((a.2 : Nat) : Int) == ((b.2 : Nat) : Int)) && true)) = _
  by_cases h : a = b
  · subst h; simp
  · rw [decide_eq_false h]
    by_cases h1 : a.1 = b.1
    · have h2 : a.2 ≠ b.2 := fun q => h (Prod.ext h1 q)
      have h3 : ¬ ((a.2 : Int) = (b.2 : Int)) := by omega
      simp [h1]
      first | exact h3 | exact h2 | (intro q; exact h2 (by omega))
    · simp [h1]
/-! ## M3 -/
def appB : Bd → Bd → Bd
  | .nil, b => b
  | .u n r, b => .u n (appB r b)
  | .g t c r, b => .g t c (appB r b)
theorem bdD_app : ∀ (a b : Bd), bdD (appB a b) = bdD a ++ bdD b
  | .nil, _ => rfl
  | .u n r, b => by show _ :: bdD (appB r b) = _; rw [bdD_app r b]; rfl
  | .g t c r, b => by show _ :: bdD (appB r b) = _; rw [bdD_app r b]; rfl
theorem szB_app : ∀ (a b : Bd), szB (appB a b) = szB a + szB b
  | .nil, b => by show szB b = 0 + szB b; omega
  | .u n r, b => by have := szB_app r b; show n + 1 + szB (appB r b) = n + 1 + szB r + szB b; omega
  | .g t c r, b => by have := szB_app r b; show szB c + 1 + szB (appB r b) = szB c + 1 + szB r + szB b; omega
/-- bodies as _law_body makes them -/
def wfB : Bd → Nat → List Str → Prop
  | .nil, _, _ => True
  | .u n r, m, ts => 1 ≤ n ∧ n ≤ 3 ∧ wfB r m ts
  | .g t b r, m, ts => 0 < m ∧ t ∈ ts ∧ b ≠ .nil ∧ wfB b (m - 1) (ts.filter fun x => !decide (x = t)) ∧ wfB r m ts
theorem wfB_app : ∀ (a b : Bd) {m : Nat} {ts : List Str}, wfB a m ts → wfB b m ts → wfB (appB a b) m ts
  | .nil, _, _, _, _, h => h
  | .u n r, b, _, _, h, h2 => ⟨h.1, h.2.1, wfB_app r b h.2.2 h2⟩
  | .g t c r, b, _, _, h, h2 => ⟨h.1, h.2.1, h.2.2.1, h.2.2.2.1, wfB_app r b h.2.2.2.2 h2⟩
theorem wfB_dp : ∀ (b : Bd) {m : Nat} {ts : List Str}, wfB b m ts → dpB b ≤ m
  | .nil, _, _, _ => Nat.zero_le _
  | .u _ r, _, _, h => wfB_dp r h.2.2
  | .g _ b r, m, _, h => by
    have h1 := wfB_dp b h.2.2.2.1
    have h2 := wfB_dp r h.2.2.2.2
    have := h.1
    show max (dpB b + 1) (dpB r) ≤ m
    omega
theorem wfB_mono : ∀ (b : Bd) {m : Nat} {ts us : List Str}, wfB b m ts → (∀ x, x ∈ ts → x ∈ us) → wfB b m us
  | .nil, _, _, _, _, _ => trivial
  | .u _ r, _, _, _, h, s => ⟨h.1, h.2.1, wfB_mono r h.2.2 s⟩
  | .g t b r, _, _, _, h, s => ⟨h.1, s _ h.2.1, h.2.2.1, wfB_mono b h.2.2.2.1 (fun x hx => by rw [List.mem_filter] at hx ⊢; exact ⟨s x hx.1, hx.2⟩), wfB_mono r h.2.2.2.2 s⟩
theorem wfB_u {n m : Nat} {ts : List Str} (h1 : 1 ≤ n) (h2 : n ≤ 3) : wfB (.u n .nil) m ts := ⟨h1, h2, trivial⟩
theorem csB_pos : ∀ (b : Bd) {m : Nat} {ts : List Str}, wfB b m ts → b ≠ .nil → 1 ≤ csB b
  | .nil, _, _, _, h => absurd rfl h
  | .u n r, _, _, h, _ => by have := h.1; show 1 ≤ n + csB r; omega
  | .g t b r, _, _, h, _ => by have := csB_pos b h.2.2.2.1 h.2.2.1; show 1 ≤ csB b + csB r; omega
/-! ## M4 -/
/-- a job: its name, priority, distance, body -/
structure Jb where
  nm : Str
  pr : Nat
  ds : Nat
  bd : Bd
abbrev jobD (j : Jb) : D := .tup [.int (j.pr : Nat), .int (j.ds : Nat), .tup (bdD j.bd)]
abbrev jkv (j : Jb) : Str × D := (j.nm, jobD j)
abbrev jobsD (js : List Jb) : D := .dct (js.map jkv)
def things3 : List Str := ["t", "u", "lock"]
def words7 : List Str := ["a", "b", "c", "job", "zz", "high", "low"]
def prios8 : List Int := [1, 2, 3, 4, 5, 7, 9, 20]
structure OkJ (j : Jb) : Prop where
  ne : j.bd ≠ .nil
  wf : wfB j.bd 2 things3
  sz : szB j.bd ≤ 33
  d1 : csB j.bd + 1 ≤ j.ds
  d2 : j.ds ≤ 200
  p1 : 1 ≤ j.pr
  p2 : j.pr ≤ 20
  wd : j.nm ∈ words7
structure OkJs (js : List Jb) : Prop where
  ok : ∀ j ∈ js, OkJ j
  nn : (js.map (·.nm)).Nodup
  pn : (js.map (·.pr)).Nodup
  l1 : 2 ≤ js.length
  l2 : js.length ≤ 4
theorem putD_new {ks : List (Str × D)} {s : Str} {d : D} (h : s ∉ ks.map (·.1)) : putD ks s d = ks ++ [(s, d)] := by
  unfold putD
  rw [if_neg]
  rw [Bool.not_eq_true, List.any_eq_false]
  intro p hp
  rw [decide_eq_true_eq]
  intro e
  exact h (List.mem_map.mpr ⟨p, hp, e⟩)
theorem perm_map_inv {α β : Type} {f : α → β} {xs ys : List β} (h : xs.Perm ys) : ∀ l : List α, ys = l.map f → ∃ ws : List α, xs = ws.map f ∧ ws.Perm l := by
  induction h with
  | nil => intro l e; cases l with
    | nil => exact ⟨[], rfl, List.Perm.refl _⟩
    | cons _ _ => cases e
  | cons x _ ih => intro l e; cases l with
    | nil => cases e
    | cons a l =>
      cases e
      obtain ⟨ws, e1, e2⟩ := ih l rfl
      exact ⟨a :: ws, by rw [e1]; rfl, e2.cons a⟩
  | swap x y r => intro l e; match l, e with
    | a :: b :: l, e =>
      cases e
      exact ⟨b :: a :: l, rfl, List.Perm.swap a b l⟩
  | trans _ _ ih1 ih2 => intro l e; obtain ⟨ws, e1, e2⟩ := ih2 l e; obtain ⟨us, e3, e4⟩ := ih1 ws e1; exact ⟨us, e3, e4.trans e2⟩
/-! ## M5 -/
/-! ### dicts of data: what is found, what is put -/
theorem getK_cons {t k : Str} {d : D} {ks : List (Str × D)} : getK t ((k, d) :: ks) = if k = t then some d else getK t ks := by
  unfold getK
  rw [List.find?_cons]
  by_cases h : k = t
  · subst h; simp
  · simp [h]
theorem getK_none {t : Str} : ∀ {ks : List (Str × D)}, t ∉ ks.map (·.1) → getK t ks = none
  | [], _ => rfl
  | (k, d) :: ks, h => by
    rw [getK_cons, if_neg (fun e => h (by simp [e]))]
    exact getK_none fun z => h (by simp at z ⊢; exact .inr z)
theorem getK_isSome {t : Str} : ∀ {ks : List (Str × D)}, (getK t ks).isSome = decide (t ∈ ks.map (·.1))
  | [] => rfl
  | (k, d) :: ks => by
    rw [getK_cons]
    by_cases h : k = t
    · subst h; simp
    · rw [if_neg h, getK_isSome (ks := ks)]
      have h2 : ¬ t = k := fun e => h e.symm
      simp [h2]
theorem getK_append {t : Str} : ∀ {ks ls : List (Str × D)}, getK t (ks ++ ls) = (getK t ks).or (getK t ls)
  | [], _ => by simp [getK]
  | (k, d) :: ks, ls => by
    rw [List.cons_append, getK_cons, getK_cons]
    split
    · rfl
    · exact getK_append
theorem getK_map {t k : Str} {d : D} : ∀ {ks : List (Str × D)}, getK t (ks.map fun p => if p.1 = k then (k, d) else p) = if t = k then (if (ks.any fun p => decide (p.1 = k)) then some d else none) else getK t ks
  | [] => by
    show none = _
    split <;> rfl
  | (q, e) :: ks => by
    rw [List.map_cons]
    by_cases hq : q = k
    · subst hq
      rw [if_pos rfl, getK_cons]
      by_cases ht : q = t
      · subst ht
        rw [if_pos rfl, if_pos rfl]; simp
      · rw [if_neg ht, getK_map, if_neg (fun e => ht e.symm), if_neg (fun e => ht e.symm), getK_cons, if_neg ht]
    · rw [if_neg hq, getK_cons, getK_map]
      by_cases ht : q = t
      · subst ht
        rw [if_pos rfl, if_neg hq, getK_cons, if_pos rfl]
      · rw [if_neg ht, getK_cons, if_neg ht]
        by_cases hk : t = k
        · rw [if_pos hk, if_pos hk, List.any_cons, show decide ((q, e).1 = k) = false from decide_eq_false hq, Bool.false_or]
        · rw [if_neg hk, if_neg hk]
theorem getK_put {t k : Str} {d : D} {ks : List (Str × D)} : getK t (putD ks k d) = if t = k then some d else getK t ks := by
  unfold putD
  split
  · rename_i h
    rw [getK_map, if_pos h]
  · rename_i h
    rw [getK_append, getK_cons]
    by_cases e : t = k
    · subst e
      rw [if_pos rfl, if_pos rfl]
      have : getK t ks = none := getK_none fun z => h (by
        obtain ⟨p, hp, e⟩ := List.mem_map.mp z
        rw [List.any_eq_true]
        exact ⟨p, hp, decide_eq_true e⟩)
      rw [this]; rfl
    · rw [if_neg e, if_neg (fun z => e z.symm)]
      cases getK t ks <;> rfl
theorem keys_put {k : Str} {d : D} {ks : List (Str × D)} : (putD ks k d).map (·.1) = if k ∈ ks.map (·.1) then ks.map (·.1) else ks.map (·.1) ++ [k] := by
  unfold putD
  have he : (ks.any fun p => decide (p.1 = k)) = true ↔ k ∈ ks.map (·.1) := by
    rw [List.any_eq_true, List.mem_map]
    constructor
    · rintro ⟨p, hp, e⟩; exact ⟨p, hp, of_decide_eq_true e⟩
    · rintro ⟨p, hp, e⟩; exact ⟨p, hp, decide_eq_true e⟩
  by_cases h : k ∈ ks.map (·.1)
  · rw [if_pos (he.mpr h), if_pos h, List.map_map]
    apply List.map_congr_left
    intro p _
    show (if p.1 = k then (k, d) else p).1 = p.1
    split
    · rename_i e; exact e.symm
    · rfl
  · rw [if_neg (fun z => h (he.mp z)), if_neg h, List.map_append]; rfl
theorem nodup_put {k : Str} {d : D} {ks : List (Str × D)} (h : (ks.map (·.1)).Nodup) : ((putD ks k d).map (·.1)).Nodup := by
  rw [keys_put]
  split
  · exact h
  · rename_i hk
    rw [List.nodup_append]
    refine ⟨h, by simp, fun a ha b hb => ?_⟩
    rw [List.mem_singleton.mp hb]
    exact fun e => hk (e ▸ ha)
theorem mem_put {k x : Str} {d e : D} {ks : List (Str × D)} (h : (x, e) ∈ putD ks k d) : (x = k ∧ e = d) ∨ (x, e) ∈ ks := by
  unfold putD at h
  split at h
  · obtain ⟨p, hp, q⟩ := List.mem_map.mp h
    split at q
    · cases q; exact .inl ⟨rfl, rfl⟩
    · rw [q] at hp; exact .inr hp
  · rcases List.mem_append.mp h with h | h
    · exact .inr h
    · rw [List.mem_singleton] at h
      cases h; exact .inl ⟨rfl, rfl⟩
theorem nodup_merge : ∀ {ls ks : List (Str × D)}, (ks.map (·.1)).Nodup → ((mergeD ks ls).map (·.1)).Nodup
  | [], _, h => h
  | (k, d) :: ls, ks, h => nodup_merge (ls := ls) (nodup_put h)
theorem mem_merge : ∀ {ls ks : List (Str × D)} {x : Str} {e : D}, (x, e) ∈ mergeD ks ls → (x, e) ∈ ls ∨ (x, e) ∈ ks
  | [], _, _, _, h => .inr h
  | (k, d) :: ls, ks, x, e, h => by
    rcases mem_merge (ls := ls) (ks := putD ks k d) h with h | h
    · exact .inl (List.mem_cons_of_mem _ h)
    · rcases mem_put h with ⟨e1, e2⟩ | h
      · subst e1 e2; exact .inl List.mem_cons_self
      · exact .inr h
/-- where the values hang on the keys -/
theorem getK_merge {v : Str → D} {t : Str} : ∀ {ls ks : List (Str × D)}, (∀ p ∈ ls, p.2 = v p.1) → getK t (mergeD ks ls) = if t ∈ ls.map (·.1) then some (v t) else getK t ks
  | [], _, _ => by simp [mergeD]
  | (k, d) :: ls, ks, h => by
    have ih := getK_merge (v := v) (t := t) (ls := ls) (ks := putD ks k d) fun p hp => h p (List.mem_cons_of_mem _ hp)
    show getK t (mergeD (putD ks k d) ls) = _
    rw [ih, getK_put]
    have hd : d = v k := h (k, d) List.mem_cons_self
    by_cases h1 : t ∈ ls.map (·.1)
    · rw [if_pos h1, if_pos (by simp at h1 ⊢; exact .inr h1)]
    · rw [if_neg h1]
      by_cases h2 : t = k
      · subst h2
        rw [if_pos rfl, if_pos (by simp), hd]
      · rw [if_neg h2, if_neg (by simp at h1 ⊢; exact ⟨h2, h1⟩)]
theorem getK_nil {t : Str} : getK t ([] : List (Str × D)) = none := rfl
theorem keys_merge_nil {v : Str → D} {ls : List (Str × D)} (h : ∀ p ∈ ls, p.2 = v p.1) (t : Str) : t ∈ (mergeD [] ls).map (·.1) ↔ t ∈ ls.map (·.1) := by
  have e := getK_merge (v := v) (t := t) (ls := ls) (ks := []) h
  have q := getK_isSome (t := t) (ks := mergeD [] ls)
  rw [e, getK_nil] at q
  by_cases z : t ∈ ls.map (·.1)
  · rw [if_pos z] at q
    exact ⟨fun _ => z, fun _ => of_decide_eq_true q.symm⟩
  · rw [if_neg z] at q
    exact ⟨fun y => absurd y (of_decide_eq_false q.symm), fun y => absurd y z⟩
theorem getK_upd {v : Str → D} {t : Str} {ls ks : List (Str × D)} (h : ∀ p ∈ ls, p.2 = v p.1) : getK t (mergeD ks (mergeD [] ls)) = if t ∈ ls.map (·.1) then some (v t) else getK t ks := by
  rw [getK_merge (v := v) (fun p hp => ?_)]
  · have := keys_merge_nil h t
    by_cases z : t ∈ ls.map (·.1)
    · rw [if_pos z, if_pos (this.mpr z)]
    · rw [if_neg z, if_neg (fun y => z (this.mp y))]
  · rcases mem_merge (x := p.1) (e := p.2) hp with q | q
    · exact h _ q
    · cases q
/-! ### things of a body -/
def thB : Bd → List Str
  | .nil => []
  | .u _ r => thB r
  | .g t b r => t :: (thB b ++ thB r)
theorem unB_th (t : Str) : ∀ (b : Bd) {m : Nat} {ts : List Str}, wfB b m ts → ∀ (k : Nat) (ar : List Mk), (∃ u ∈ unB b k ar, t ∈ u.map (·.1)) ↔ (t ∈ thB b ∨ (b ≠ .nil ∧ t ∈ ar.map (·.1)))
  | .nil, _, _, _, k, ar => by simp [unB, thB]
  | .u n r, _, _, h, k, ar => by
    have ih := unB_th t r h.2.2 (k + 1) ar
    have hn : n ≠ 0 := by have := h.1; omega
    have e : (∃ u ∈ unB (.u n r) k ar, t ∈ u.map (·.1)) ↔ (t ∈ ar.map (·.1) ∨ ∃ u ∈ unB r (k + 1) ar, t ∈ u.map (·.1)) := by
      show (∃ u ∈ List.replicate n ar ++ unB r (k + 1) ar, _) ↔ _
      constructor
      · rintro ⟨u, hu, ht⟩
        rcases List.mem_append.mp hu with hu | hu
        · rw [(List.mem_replicate.mp hu).2] at ht; exact .inl ht
        · exact .inr ⟨u, hu, ht⟩
      · rintro (ht | ⟨u, hu, ht⟩)
        · exact ⟨ar, List.mem_append_left _ (List.mem_replicate.mpr ⟨hn, rfl⟩), ht⟩
        · exact ⟨u, List.mem_append_right _ hu, ht⟩
    rw [e, ih]
    show _ ↔ (t ∈ thB r ∨ _)
    constructor
    · rintro (h1 | h1 | h1)
      · exact .inr ⟨(fun z => nomatch z), h1⟩
      · exact .inl h1
      · exact .inr ⟨(fun z => nomatch z), h1.2⟩
    · rintro (h1 | h1)
      · exact .inr (.inl h1)
      · exact .inl h1.2
  | .g q b r, _, _, h, k, ar => by
    have ih1 := unB_th t b h.2.2.2.1 0 (ar ++ [(q, ar.length * 100 + k)])
    have ih2 := unB_th t r h.2.2.2.2 (k + 1) ar
    have e : (∃ u ∈ unB (.g q b r) k ar, t ∈ u.map (·.1)) ↔ ((∃ u ∈ unB b 0 (ar ++ [(q, ar.length * 100 + k)]), t ∈ u.map (·.1)) ∨ ∃ u ∈ unB r (k + 1) ar, t ∈ u.map (·.1)) := by
      show (∃ u ∈ unB b 0 _ ++ unB r (k + 1) ar, _) ↔ _
      constructor
      · rintro ⟨u, hu, ht⟩
        rcases List.mem_append.mp hu with hu | hu
        · exact .inl ⟨u, hu, ht⟩
        · exact .inr ⟨u, hu, ht⟩
      · rintro (⟨u, hu, ht⟩ | ⟨u, hu, ht⟩)
        · exact ⟨u, List.mem_append_left _ hu, ht⟩
        · exact ⟨u, List.mem_append_right _ hu, ht⟩
    rw [e, ih1, ih2]
    have hb := h.2.2.1
    show _ ↔ (t ∈ q :: (thB b ++ thB r) ∨ _)
    rw [List.map_append, List.mem_append, List.mem_cons, List.mem_append]
    constructor
    · rintro ((h1 | ⟨_, h1 | h1⟩) | (h1 | h1))
      · exact .inl (.inr (.inl h1))
      · exact .inr ⟨(fun z => nomatch z), h1⟩
      · exact .inl (.inl (by simpa using h1))
      · exact .inl (.inr (.inr h1))
      · exact .inr ⟨(fun z => nomatch z), h1.2⟩
    · rintro ((h1 | h1 | h1) | h1)
      · exact .inl (.inr ⟨hb, .inr (by simpa using h1)⟩)
      · exact .inl (.inl h1)
      · exact .inr (.inl h1)
      · exact .inl (.inr ⟨hb, .inl h1.2⟩)
theorem thB_wf : ∀ (b : Bd) {m : Nat} {ts : List Str}, wfB b m ts → ∀ t ∈ thB b, t ∈ ts
  | .nil, _, _, _, t, h => by simp [thB] at h
  | .u _ r, _, _, h, t, ht => thB_wf r h.2.2 t ht
  | .g q b r, _, _, h, t, ht => by
    have ht : t ∈ q :: (thB b ++ thB r) := ht
    rw [List.mem_cons, List.mem_append] at ht
    rcases ht with rfl | ht | ht
    · exact h.2.1
    · exact (List.mem_filter.mp (thB_wf b h.2.2.2.1 t ht)).1
    · exact thB_wf r h.2.2.2.2 t ht
/-- the marks of every unit hold things of the body, and are few -/
theorem unB_ok : ∀ (b : Bd) {m : Nat} {ts : List Str}, wfB b m ts → ∀ (k : Nat) (ar : List Mk), ∀ u ∈ unB b k ar, u.length ≤ ar.length + m ∧ ∀ x ∈ u, x ∈ ar ∨ x.1 ∈ ts
  | .nil, _, _, _, k, ar, u, hu => by simp [unB] at hu
  | .u n r, m, ts, h, k, ar, u, hu => by
    have hu : u ∈ List.replicate n ar ++ unB r (k + 1) ar := hu
    rcases List.mem_append.mp hu with hu | hu
    · rw [(List.mem_replicate.mp hu).2]; exact ⟨Nat.le_add_right _ _, fun x hx => .inl hx⟩
    · exact unB_ok r h.2.2 _ _ u hu
  | .g q b r, m, ts, h, k, ar, u, hu => by
    have hu : u ∈ unB b 0 (ar ++ [(q, ar.length * 100 + k)]) ++ unB r (k + 1) ar := hu
    rcases List.mem_append.mp hu with hu | hu
    · obtain ⟨h1, h2⟩ := unB_ok b h.2.2.2.1 _ _ u hu
      have hm := h.1
      rw [List.length_append] at h1
      refine ⟨by show u.length ≤ ar.length + m; have : ([(q, ar.length * 100 + k)] : List Mk).length = 1 := rfl; omega, fun x hx => ?_⟩
      rcases h2 x hx with z | z
      · rcases List.mem_append.mp z with z | z
        · exact .inl z
        · rw [List.mem_singleton.mp z]; exact .inr h.2.1
      · exact .inr (List.mem_filter.mp z).1
    · exact unB_ok r h.2.2.2.2 _ _ u hu
abbrev usJ (j : Jb) : List (List Mk) := unB j.bd 0 []
theorem usJ_ok {j : Jb} (h : OkJ j) (ho : ∀ t ∈ things3, okT t = true) : okUs (usJ j) = true := by
  unfold okUs
  rw [Bool.and_eq_true, List.all_eq_true, List.all_eq_true]
  refine ⟨fun u hu => ?_, fun u hu => ?_⟩
  · unfold okMs
    rw [List.all_eq_true]
    intro x hx
    rcases (unB_ok j.bd h.wf 0 [] u hu).2 x hx with z | z
    · cases z
    · exact ho _ z
  · have := (unB_ok j.bd h.wf 0 [] u hu).1
    exact decide_eq_true (by simp at this; omega)
theorem usJ_th {j : Jb} (h : OkJ j) (t : Str) : (∃ u ∈ usJ j, t ∈ u.map (·.1)) ↔ t ∈ thB j.bd := by
  rw [unB_th t j.bd h.wf 0 []]
  simp
/-- the ceiling of a thing -/
def ceilO (js : List Jb) (t : Str) : Option Nat := js.foldl (fun o j => if t ∈ thB j.bd then some (max j.pr (o.getD 0)) else o) none
theorem ceilO_snoc (js : List Jb) (j : Jb) (t : Str) : ceilO (js ++ [j]) t = if t ∈ thB j.bd then some (max j.pr ((ceilO js t).getD 0)) else ceilO js t := by
  unfold ceilO; rw [List.foldl_append]; rfl
def oI (o : Option Nat) : Option D := o.map fun (n : Nat) => D.int (n : Nat)
/-! ## M6 -/
theorem getK_jobs : ∀ {js : List Jb}, (js.map (·.nm)).Nodup → ∀ {j : Jb}, j ∈ js → getK j.nm (js.map jkv) = some (jobD j)
  | [], _, _, h => by cases h
  | a :: js, hn, j, h => by
    rw [List.map_cons, getK_cons]
    rw [List.map_cons, List.nodup_cons] at hn
    rcases List.mem_cons.mp h with rfl | h
    · rw [if_pos rfl]
    · rw [if_neg (fun e : a.nm = j.nm => hn.1 (by rw [e]; exact List.mem_map.mpr ⟨j, h, rfl⟩))]
      exact getK_jobs hn.2 h
theorem map_inj {α β : Type} {f : α → β} : ∀ {js : List α}, (js.map f).Nodup → ∀ {i j : α}, i ∈ js → j ∈ js → f i = f j → i = j
  | [], _, _, _, h, _, _ => by cases h
  | a :: js, hn, i, j, hi, hj, e => by
    rw [List.map_cons, List.nodup_cons] at hn
    rcases List.mem_cons.mp hi with e1 | hi
    · rcases List.mem_cons.mp hj with e2 | hj
      · rw [e1, e2]
      · exact absurd (by rw [← e1, e]; exact List.mem_map.mpr ⟨j, hj, rfl⟩) hn.1
    · rcases List.mem_cons.mp hj with e2 | hj
      · exact absurd (by rw [← e2, ← e]; exact List.mem_map.mpr ⟨i, hi, rfl⟩) hn.1
      · exact map_inj hn.2 hi hj e
theorem keys_jobs (js : List Jb) : (js.map jkv).map (·.1) = js.map (·.nm) := by rw [List.map_map]; rfl
theorem pfx_mem : ∀ {a b : List Mk} {x : Mk}, x ∈ pfx a b → x ∈ a ∧ x ∈ b
  | [], _, _, h => by simp [pfx] at h
  | _ :: _, [], _, h => by simp [pfx] at h
  | a :: as, b :: bs, x, h => by
    unfold pfx at h
    split at h
    · rename_i e
      subst e
      rcases List.mem_cons.mp h with rfl | h
      · exact ⟨List.mem_cons_self, List.mem_cons_self⟩
      · have := pfx_mem h
        exact ⟨List.mem_cons_of_mem _ this.1, List.mem_cons_of_mem _ this.2⟩
    · cases h
theorem insU_mem {us : List (List Mk)} {d : Nat} {t : Str} (h : t ∈ insU us d) : 0 < d ∧ d < us.length ∧ ∃ u ∈ us, t ∈ u.map (·.1) := by
  unfold insU at h
  split at h
  · rename_i hd
    obtain ⟨x, hx, rfl⟩ := List.mem_map.mp h
    have := (pfx_mem hx).2
    rw [List.getD_eq_getElem?_getD, List.getElem?_eq_getElem hd.2] at this
    exact ⟨hd.1, hd.2, _, List.getElem_mem hd.2, List.mem_map.mpr ⟨x, this, rfl⟩⟩
  · cases h
theorem insU_th {j : Jb} (hj : OkJ j) {d : Nat} {t : Str} (h : t ∈ insU (usJ j) d) : t ∈ thB j.bd := (usJ_th hj t).mp (insU_mem h).2.2
/-- the job's priority, or the greatest ceiling of what lies open around it -/
def nowU (cf : Str → Nat) (pr : Nat) (ins : List Str) : Nat := ins.foldl (fun m t => max m (cf t)) pr
theorem nowU_le {cf : Str → Nat} {m : Nat} : ∀ {ins : List Str} {pr : Nat}, nowU cf pr ins ≤ m ↔ pr ≤ m ∧ ∀ t ∈ ins, cf t ≤ m
  | [], pr => by simp [nowU]
  | t :: r, pr => by
    have ih := nowU_le (cf := cf) (m := m) (ins := r) (pr := max pr (cf t))
    show nowU cf (max pr (cf t)) r ≤ m ↔ _
    rw [ih]
    simp only [List.mem_cons, forall_eq_or_imp]
    constructor
    · rintro ⟨h1, h2⟩; exact ⟨by omega, by omega, h2⟩
    · rintro ⟨h1, h2, h3⟩; exact ⟨by omega, h3⟩
theorem nowU_ge {cf : Str → Nat} {ins : List Str} {pr : Nat} : pr ≤ nowU cf pr ins ∧ ∀ t ∈ ins, cf t ≤ nowU cf pr ins := nowU_le.mp (Nat.le_refl _)
/-- the greatest of the list is it -/
theorem nowU_eq {cf : Str → Nat} {ins : List Str} {pr : Nat} {m : Int} (h1 : m ∈ ((pr : Int) :: ins.map fun t => ((cf t : Nat) : Int))) (h2 : ∀ y, y ∈ ((pr : Int) :: ins.map fun t => ((cf t : Nat) : Int)) → y ≤ m) : m = (nowU cf pr ins : Nat) := by
  have a : m ≤ (nowU cf pr ins : Nat) := by
    rcases List.mem_cons.mp h1 with rfl | h
    · exact Int.ofNat_le.mpr nowU_ge.1
    · obtain ⟨t, ht, rfl⟩ := List.mem_map.mp h
      exact Int.ofNat_le.mpr (nowU_ge.2 t ht)
  have b : ((nowU cf pr ins : Nat) : Int) ≤ m := by
    have hm : 0 ≤ m := Int.le_trans (by omega) (h2 pr List.mem_cons_self)
    have : nowU cf pr ins ≤ m.toNat := nowU_le.mpr ⟨by have := h2 pr List.mem_cons_self; omega, fun t ht => by have := h2 (cf t) (List.mem_cons_of_mem _ (List.mem_map.mpr ⟨t, ht, rfl⟩)); omega⟩
    omega
  omega
def canT (js : List Jb) (cf : Str → Nat) (t : Str) : Prop := ∃ j ∈ js, ∃ d, t ∈ insU (usJ j) d ∧ ∃ o ∈ js, t ∈ thB o.bd ∧ nowU cf j.pr (insU (usJ j) d) < o.pr
theorem inD_str {s : Str} {ss : List Str} : inD (.str s) (ss.map .str) = decide (s ∈ ss) := by
  unfold inD
  rw [flV_strs]
  exact inV_strs
def fsT : D → D
  | .tup (.str q :: _) => .str q
  | d => d
theorem fsT_ar (ar : List Mk) : ((ar.map mkD).filter fun _ => true).map fsT = (ar.map (·.1)).map .str := by
  rw [List.filter_eq_self.mpr (fun _ _ => rfl), List.map_map, List.map_map]; rfl
def hasT (t : Str) : D → D
  | .tup l => .bl (l.any fun m => match m with | .tup (.str q :: _) => decide (q = t) | _ => false)
  | d => d
theorem hasT_ar (t : Str) (ar : List Mk) : hasT t (arD ar) = .bl (decide (t ∈ ar.map (·.1))) := by
  show D.bl _ = _
  congr 1
  induction ar with
  | nil => rfl
  | cons a r ih =>
    rw [List.map_cons, List.any_cons, ih]
    show (decide (a.1 = t) || _) = _
    rw [List.map_cons]
    by_cases h : a.1 = t
    · subst h; simp
    · have h2 : ¬ t = a.1 := fun e => h e.symm
      simp [h, h2]
theorem hasT_us (t : Str) (us : List (List Mk)) : ((us.map arD).filter fun _ => true).map (hasT t) = (us.map fun u => decide (t ∈ u.map (·.1))).map .bl := by
  rw [List.filter_eq_self.mpr (fun _ _ => rfl), List.map_map, List.map_map]
  apply List.map_congr_left
  intro u _
  exact hasT_ar t u
/-! ## M7 -/
/-- a span: path, thing, begin, end -/
structure Spn where
  pt : List Nat
  th : Str
  bg : Nat
  en : Nat
def spB : Bd → List Nat → Nat → Nat → List Spn
  | .nil, _, _, _ => []
  | .u n r, p, k, a => spB r p (k + 1) (a + n)
  | .g t b r, p, k, a => ⟨p ++ [k], t, a, a + csB b⟩ :: (spB b (p ++ [k]) 0 a ++ spB r p (k + 1) (a + csB b))
abbrev spnD (s : Spn) : D := .tup [.tup (s.pt.map fun q => .int (q : Nat)), .str s.th, .int (s.bg : Nat), .int (s.en : Nat)]
abbrev spJ (j : Jb) : List Spn := spB j.bd [] 0 0
def insS (sp : List Spn) (d : Nat) : List Str := (sp.filter fun s => decide (s.bg < d ∧ d < s.en)).map (·.th)
abbrev objD (js : List Jb) (ks : List (Str × D)) : D := .obj [("kept_jobs", jobsD js), ("kept_spans", .dct (js.map fun j => (j.nm, .lst ((spJ j).map spnD)))), ("kept_costs", .dct (js.map fun j => (j.nm, .int (csB j.bd : Nat)))), ("kept_ceilings", .dct ks)]
theorem getK_of {f : Jb → D} : ∀ {js : List Jb}, (js.map (·.nm)).Nodup → ∀ {j : Jb}, j ∈ js → getK j.nm (js.map fun j => (j.nm, f j)) = some (f j)
  | [], _, _, h => by cases h
  | a :: js, hn, j, h => by
    rw [List.map_cons, getK_cons]
    rw [List.map_cons, List.nodup_cons] at hn
    rcases List.mem_cons.mp h with rfl | h
    · rw [if_pos rfl]
    · rw [if_neg (fun e : a.nm = j.nm => hn.1 (by rw [e]; exact List.mem_map.mpr ⟨j, h, rfl⟩))]
      exact getK_of hn.2 h
theorem spB_len : ∀ (b : Bd) (p : List Nat) (k a : Nat), (spB b p k a).length ≤ szB b
  | .nil, _, _, _ => Nat.le_refl _
  | .u n r, p, k, a => by have := spB_len r p (k + 1) (a + n); show (spB r p (k + 1) (a + n)).length ≤ n + 1 + szB r; omega
  | .g t b r, p, k, a => by
    have h1 := spB_len b (p ++ [k]) 0 a
    have h2 := spB_len r p (k + 1) (a + csB b)
    show (spB b (p ++ [k]) 0 a ++ spB r p (k + 1) (a + csB b)).length + 1 ≤ szB b + 1 + szB r
    rw [List.length_append]; omega
theorem spB_en : ∀ (b : Bd) (p : List Nat) (k a : Nat), ∀ s ∈ spB b p k a, a ≤ s.bg ∧ s.en ≤ a + csB b ∧ s.th ∈ thB b
  | .nil, _, _, _, s, h => by simp [spB] at h
  | .u n r, p, k, a, s, h => by
    obtain ⟨h1, h2, h3⟩ := spB_en r p (k + 1) (a + n) s h
    exact ⟨by omega, by show s.en ≤ a + (n + csB r); omega, h3⟩
  | .g t b r, p, k, a, s, h => by
    have h : s ∈ ⟨p ++ [k], t, a, a + csB b⟩ :: (spB b (p ++ [k]) 0 a ++ spB r p (k + 1) (a + csB b)) := h
    show a ≤ s.bg ∧ s.en ≤ a + (csB b + csB r) ∧ s.th ∈ t :: (thB b ++ thB r)
    rcases List.mem_cons.mp h with rfl | h
    · exact ⟨Nat.le_refl _, by show a + csB b ≤ _; omega, List.mem_cons_self⟩
    · rcases List.mem_append.mp h with h | h
      · obtain ⟨h1, h2, h3⟩ := spB_en b (p ++ [k]) 0 a s h
        exact ⟨h1, by omega, List.mem_cons_of_mem _ (List.mem_append_left _ h3)⟩
      · obtain ⟨h1, h2, h3⟩ := spB_en r p (k + 1) (a + csB b) s h
        exact ⟨by omega, by omega, List.mem_cons_of_mem _ (List.mem_append_right _ h3)⟩
theorem spB_th : ∀ (b : Bd) (p : List Nat) (k a : Nat) (t : Str), (∃ s ∈ spB b p k a, s.th = t) ↔ t ∈ thB b
  | .nil, _, _, _, t => by simp [spB, thB]
  | .u n r, p, k, a, t => spB_th r p (k + 1) (a + n) t
  | .g q b r, p, k, a, t => by
    have h1 := spB_th b (p ++ [k]) 0 a t
    have h2 := spB_th r p (k + 1) (a + csB b) t
    show (∃ s ∈ ⟨p ++ [k], q, a, a + csB b⟩ :: (spB b (p ++ [k]) 0 a ++ spB r p (k + 1) (a + csB b)), s.th = t) ↔ t ∈ q :: (thB b ++ thB r)
    rw [List.mem_cons, List.mem_append, ← h1, ← h2]
    constructor
    · rintro ⟨s, hs, e⟩
      rcases List.mem_cons.mp hs with rfl | hs
      · exact .inl e.symm
      · rcases List.mem_append.mp hs with hs | hs
        · exact .inr (.inl ⟨s, hs, e⟩)
        · exact .inr (.inr ⟨s, hs, e⟩)
    · rintro (rfl | ⟨s, hs, e⟩ | ⟨s, hs, e⟩)
      · exact ⟨_, List.mem_cons_self, rfl⟩
      · exact ⟨s, List.mem_cons_of_mem _ (List.mem_append_left _ hs), e⟩
      · exact ⟨s, List.mem_cons_of_mem _ (List.mem_append_right _ hs), e⟩
/-! ## M8 -/
/-! ### what lies open at a moment: by spans, by units -/
def ins : Bd → Nat → List Str
  | .nil, _ => []
  | .u n r, d => if d ≤ n then [] else ins r (d - n)
  | .g t b r, d => if d < csB b then (if 0 < d then t :: ins b d else []) else if d = csB b then [] else ins r (d - csB b)
theorem insS_app (s1 s2 : List Spn) (d : Nat) : insS (s1 ++ s2) d = insS s1 d ++ insS s2 d := by
  unfold insS; rw [List.filter_append, List.map_append]
theorem insS_out {b : Bd} {p : List Nat} {k a x : Nat} (h : x ≤ a ∨ a + csB b ≤ x) : insS (spB b p k a) x = [] := by
  unfold insS
  rw [List.map_eq_nil_iff, List.filter_eq_nil_iff]
  intro s hs
  have := spB_en b p k a s hs
  rw [decide_eq_true_eq]
  omega
theorem insS_eq : ∀ (b : Bd) {m : Nat} {ts : List Str}, wfB b m ts → ∀ (p : List Nat) (k a d : Nat), insS (spB b p k a) (a + d) = ins b d
  | .nil, _, _, _, _, _, _, _ => rfl
  | .u n r, _, _, h, p, k, a, d => by
    show insS (spB r p (k + 1) (a + n)) (a + d) = if d ≤ n then [] else ins r (d - n)
    by_cases q : d ≤ n
    · rw [if_pos q]; exact insS_out (.inl (by omega))
    · rw [if_neg q]
      have := insS_eq r h.2.2 p (k + 1) (a + n) (d - n)
      rw [show a + n + (d - n) = a + d by omega] at this
      exact this
  | .g t b r, _, _, h, p, k, a, d => by
    have e : insS (spB (.g t b r) p k a) (a + d) = (if a < a + d ∧ a + d < a + csB b then [t] else []) ++ (insS (spB b (p ++ [k]) 0 a) (a + d) ++ insS (spB r p (k + 1) (a + csB b)) (a + d)) := by
      rw [← insS_app]
      show insS (⟨p ++ [k], t, a, a + csB b⟩ :: _) _ = _
      unfold insS
      rw [List.filter_cons]
      by_cases q : a < a + d ∧ a + d < a + csB b
      · rw [if_pos q, if_pos (decide_eq_true q)]; rfl
      · rw [if_neg q, if_neg (by rw [decide_eq_true_eq]; exact q)]; rfl
    rw [e]
    show _ = if d < csB b then (if 0 < d then t :: ins b d else []) else if d = csB b then [] else ins r (d - csB b)
    by_cases q : d < csB b
    · rw [if_pos q, insS_out (b := r) (.inl (by omega)), List.append_nil]
      by_cases q0 : 0 < d
      · rw [if_pos q0, if_pos ⟨by omega, by omega⟩, insS_eq b h.2.2.2.1]; rfl
      · rw [if_neg q0, if_neg (fun z => q0 (by omega)), insS_out (b := b) (.inl (by omega))]; rfl
    · rw [if_neg q, if_neg (fun z => q (by omega)), insS_out (b := b) (.inr (by omega))]
      by_cases q1 : d = csB b
      · rw [if_pos q1, insS_out (b := r) (.inl (by omega))]; rfl
      · rw [if_neg q1]
        have := insS_eq r h.2.2.2.2 p (k + 1) (a + csB b) (d - csB b)
        rw [show a + csB b + (d - csB b) = a + d by omega] at this
        rw [this]; rfl
theorem pfx_app (ar x y : List Mk) : pfx (ar ++ x) (ar ++ y) = ar ++ pfx x y := by
  induction ar with
  | nil => rfl
  | cons a r ih => show (if a = a then a :: pfx (r ++ x) (r ++ y) else []) = a :: (r ++ pfx x y); rw [if_pos rfl, ih]
theorem unB_shape : ∀ (b : Bd) (k : Nat) (ar : List Mk), ∀ u ∈ unB b k ar, u = ar ∨ ∃ t n l, k ≤ n ∧ u = ar ++ (t, ar.length * 100 + n) :: l
  | .nil, _, _, u, h => by simp [unB] at h
  | .u n r, k, ar, u, h => by
    have h : u ∈ List.replicate n ar ++ unB r (k + 1) ar := h
    rcases List.mem_append.mp h with h | h
    · exact .inl (List.mem_replicate.mp h).2
    · rcases unB_shape r (k + 1) ar u h with e | ⟨t, n', l, h1, e⟩
      · exact .inl e
      · exact .inr ⟨t, n', l, by omega, e⟩
  | .g t b r, k, ar, u, h => by
    have h : u ∈ unB b 0 (ar ++ [(t, ar.length * 100 + k)]) ++ unB r (k + 1) ar := h
    rcases List.mem_append.mp h with h | h
    · rcases unB_shape b 0 _ u h with e | ⟨t', n', l, h1, e⟩
      · exact .inr ⟨t, k, [], Nat.le_refl _, e⟩
      · exact .inr ⟨t, k, _, Nat.le_refl _, by rw [e, List.append_assoc]; rfl⟩
    · rcases unB_shape r (k + 1) ar u h with e | ⟨t', n', l, h1, e⟩
      · exact .inl e
      · exact .inr ⟨t', n', l, by omega, e⟩
theorem pfx_nilR (x : List Mk) : pfx x [] = [] := by cases x <;> rfl
theorem insP : ∀ (b : Bd) {m : Nat} {ts : List Str}, wfB b m ts → ∀ (k : Nat) (ar : List Mk) (d : Nat) (x y : List Mk), 0 < d → (unB b k ar)[d - 1]? = some x → (unB b k ar)[d]? = some y → (pfx x y).map (·.1) = ar.map (·.1) ++ ins b d
  | .nil, _, _, _, k, ar, d, x, y, _, h1, _ => by simp [unB] at h1
  | .u n r, _, _, h, k, ar, d, x, y, hd, h1, h2 => by
    have h1 : (List.replicate n ar ++ unB r (k + 1) ar)[d - 1]? = some x := h1
    have h2 : (List.replicate n ar ++ unB r (k + 1) ar)[d]? = some y := h2
    show _ = ar.map (·.1) ++ if d ≤ n then [] else ins r (d - n)
    by_cases q : d ≤ n
    · rw [if_pos q, List.append_nil]
      rw [List.getElem?_append_left (by rw [List.length_replicate]; omega)] at h1
      have hx : x = ar := (List.mem_replicate.mp (List.mem_of_getElem? h1)).2
      have hy : y = ar ∨ ∃ t n l, k ≤ n ∧ y = ar ++ (t, ar.length * 100 + n) :: l := unB_shape (.u n r) k ar y (List.mem_of_getElem? h2)
      have : ∃ l, y = ar ++ l := by
        rcases hy with e | ⟨t, n', l, _, e⟩
        · exact ⟨[], by rw [e, List.append_nil]⟩
        · exact ⟨_, e⟩
      obtain ⟨l, rfl⟩ := this
      subst hx
      have e := pfx_app x [] l
      rw [List.append_nil] at e
      rw [e]; simp [pfx]
    · rw [if_neg q]
      rw [List.getElem?_append_right (by rw [List.length_replicate]; omega), List.length_replicate] at h1 h2
      exact insP r h.2.2 (k + 1) ar (d - n) x y (by omega) (by rw [show d - n - 1 = d - 1 - n by omega]; exact h1) h2
  | .g t b r, _, _, h, k, ar, d, x, y, hd, h1, h2 => by
    have h1 : (unB b 0 (ar ++ [(t, ar.length * 100 + k)]) ++ unB r (k + 1) ar)[d - 1]? = some x := h1
    have h2 : (unB b 0 (ar ++ [(t, ar.length * 100 + k)]) ++ unB r (k + 1) ar)[d]? = some y := h2
    have lb : (unB b 0 (ar ++ [(t, ar.length * 100 + k)])).length = csB b := unB_length _ _ _
    show _ = ar.map (·.1) ++ if d < csB b then (if 0 < d then t :: ins b d else []) else if d = csB b then [] else ins r (d - csB b)
    by_cases q : d < csB b
    · rw [if_pos q, if_pos hd]
      rw [List.getElem?_append_left (by omega)] at h1 h2
      have := insP b h.2.2.2.1 0 _ d x y hd h1 h2
      rw [this, List.map_append, List.append_assoc]; rfl
    · rw [if_neg q]
      by_cases q1 : d = csB b
      · rw [if_pos q1, List.append_nil]
        rw [List.getElem?_append_left (by omega)] at h1
        rw [List.getElem?_append_right (by omega)] at h2
        have hx : ∃ l, x = ar ++ (t, ar.length * 100 + k) :: l := by
          rcases unB_shape b 0 _ x (List.mem_of_getElem? h1) with e | ⟨t', n', l, _, e⟩
          · exact ⟨[], e⟩
          · exact ⟨_, by rw [e, List.append_assoc]; rfl⟩
        obtain ⟨l, rfl⟩ := hx
        rcases unB_shape r (k + 1) ar y (List.mem_of_getElem? h2) with e | ⟨t', n', l', hn, e⟩
        · subst e
          have e := pfx_app y ((t, y.length * 100 + k) :: l) []
          rw [List.append_nil] at e
          rw [e, pfx_nilR, List.append_nil]
        · subst e
          rw [pfx_app]
          have : pfx ((t, ar.length * 100 + k) :: l) ((t', ar.length * 100 + n') :: l') = [] := by
            unfold pfx
            rw [if_neg (fun z => by have := congrArg Prod.snd z; simp at this; omega)]
          rw [this, List.append_nil]
      · rw [if_neg q1]
        rw [List.getElem?_append_right (by omega), lb] at h1 h2
        exact insP r h.2.2.2.2 (k + 1) ar (d - csB b) x y (by omega) (by rw [show d - csB b - 1 = d - 1 - csB b by omega]; exact h1) h2
theorem ins_out : ∀ (b : Bd) {m : Nat} {ts : List Str}, wfB b m ts → ∀ d, (d = 0 ∨ csB b ≤ d) → ins b d = []
  | .nil, _, _, _, _, _ => rfl
  | .u n r, _, _, h, d, hd => by
    show (if d ≤ n then [] else ins r (d - n)) = []
    split
    · rfl
    · exact ins_out r h.2.2 _ (.inr (by rcases hd with e | e; omega; have e : n + csB r ≤ d := e; omega))
  | .g t b r, _, _, h, d, hd => by
    show (if d < csB b then (if 0 < d then t :: ins b d else []) else if d = csB b then [] else ins r (d - csB b)) = []
    rcases hd with e | e
    · subst e
      have := csB_pos b h.2.2.2.1 h.2.2.1
      rw [if_pos (by omega), if_neg (by omega)]
    · have e : csB b + csB r ≤ d := e
      rw [if_neg (by omega)]
      split
      · rfl
      · exact ins_out r h.2.2.2.2 _ (.inr (by omega))
/-- the two ways of telling agree -/
theorem ins_same {j : Jb} (okj : OkJ j) (d : Nat) : insS (spJ j) d = insU (usJ j) d := by
  have e1 := insS_eq j.bd okj.wf [] 0 0 d
  rw [Nat.zero_add] at e1
  rw [e1]
  have lu : (usJ j).length = csB j.bd := unB_length _ _ _
  unfold insU
  by_cases q : 0 < d ∧ d < (usJ j).length
  · rw [if_pos q]
    have h1 : (usJ j)[d - 1]? = some ((usJ j).getD (d - 1) []) := by
      rw [List.getD_eq_getElem?_getD, List.getElem?_eq_getElem (by omega)]; rfl
    have h2 : (usJ j)[d]? = some ((usJ j).getD d []) := by
      rw [List.getD_eq_getElem?_getD, List.getElem?_eq_getElem (by omega)]; rfl
    have := insP j.bd okj.wf 0 [] d _ _ q.1 h1 h2
    rw [this]; rfl
  · rw [if_neg q]
    exact ins_out j.bd okj.wf d (by omega)
local macro_rules | `(tactic| walk_at "lk") => `(tactic| repeat (first | with_reducible exact Lk.head | with_reducible exact Ix.head | with_reducible apply Lk.tail | with_reducible apply Ix.tail))
local macro_rules | `(tactic| walk_at "mem") => `(tactic| repeat (first | with_reducible exact List.mem_cons_self | with_reducible apply List.mem_cons_of_mem))
local macro_rules | `(tactic| walk_at "up") => `(tactic| dsimp only [List.set, argE, List.replicate, List.map, List.cons_append, List.nil_append, TD.sl, TD.d, hide, hid1, List.length, wipeE, List.getElem?_cons_zero, List.getElem?_cons_succ])
local macro_rules | `(tactic| fail "w1") => `(tactic| (with_reducible refine evr_of ?_))
local macro_rules | `(tactic| fail "w1") => `(tactic| ((with_reducible refine' And.intro ?h1 ?_); (case h1 => exact Nat.le_of_ble_eq_true rfl)))
local macro_rules | `(tactic| fail "w1") => `(tactic| ((with_reducible refine' st_set ?h1 ?h2 ?h3 ?_ (hs := ?h4)); (case h1 => assumption); (case h2 => walk_at "lk"); (case h3 => walk_at "mem"); (case h4 => rfl)))
local macro_rules | `(tactic| fail "w1") => `(tactic| (with_reducible refine' st_pass ?_))
local macro_rules | `(tactic| fail "w1") => `(tactic| (with_reducible refine' st_if ?_))
local macro_rules | `(tactic| fail "w1") => `(tactic| ((with_reducible refine' st_expr ?_ (hs := ?h1)); (case h1 => rfl)))
local macro_rules | `(tactic| fail "w1") => `(tactic| (with_reducible refine' st_ret ?_))
local macro_rules | `(tactic| fail "w1") => `(tactic| (with_reducible refine' stb_nil ?_))
local macro_rules | `(tactic| fail "w1") => `(tactic| (with_reducible refine' stb_cons ?_))
local macro_rules | `(tactic| fail "w1") => `(tactic| (with_reducible refine' o_ixL2 ?_))
local macro_rules | `(tactic| fail "w1") => `(tactic| (with_reducible refine' o_ixL1 ?_))
local macro_rules | `(tactic| fail "w1") => `(tactic| (with_reducible refine' o_ixL0 ?_))
local macro_rules | `(tactic| fail "w1") => `(tactic| (with_reducible refine' o_ixT2 ?_))
local macro_rules | `(tactic| fail "w1") => `(tactic| (with_reducible refine' o_ixT1 ?_))
local macro_rules | `(tactic| fail "w1") => `(tactic| (with_reducible refine' o_ixT0 ?_))
local macro_rules | `(tactic| fail "w1") => `(tactic| (with_reducible refine' n_tupL ?_))
local macro_rules | `(tactic| fail "w1") => `(tactic| (with_reducible refine' f_listT ?_))
local macro_rules | `(tactic| fail "w1") => `(tactic| (with_reducible refine' f_listL ?_))
local macro_rules | `(tactic| fail "w1") => `(tactic| (with_reducible refine' o_notinK ?_))
local macro_rules | `(tactic| fail "w1") => `(tactic| (with_reducible refine' o_inK ?_))
local macro_rules | `(tactic| fail "w1") => `(tactic| (with_reducible refine' n_max2 ?_))
local macro_rules | `(tactic| fail "w1") => `(tactic| (with_reducible refine' n_abs ?_))
local macro_rules | `(tactic| fail "w1") => `(tactic| (with_reducible refine' n_intB ?_))
local macro_rules | `(tactic| fail "w1") => `(tactic| (with_reducible refine' n_intI ?_))
local macro_rules | `(tactic| fail "w1") => `(tactic| (with_reducible refine' n_lenC ?_))
local macro_rules | `(tactic| fail "w1") => `(tactic| (with_reducible refine' n_lenK ?_))
local macro_rules | `(tactic| fail "w1") => `(tactic| (with_reducible refine' n_lenT ?_))
local macro_rules | `(tactic| fail "w1") => `(tactic| (with_reducible refine' n_lenL ?_))
local macro_rules | `(tactic| fail "w1") => `(tactic| (with_reducible refine' o_notN ?_))
local macro_rules | `(tactic| fail "w1") => `(tactic| (with_reducible refine' o_isN ?_))
local macro_rules | `(tactic| fail "w1") => `(tactic| (with_reducible refine' o_eqN ?_))
local macro_rules | `(tactic| fail "w1") => `(tactic| (with_reducible refine' o_neB ?_))
local macro_rules | `(tactic| fail "w1") => `(tactic| (with_reducible refine' o_eqB ?_))
local macro_rules | `(tactic| fail "w1") => `(tactic| (with_reducible refine' o_neS ?_))
local macro_rules | `(tactic| fail "w1") => `(tactic| (with_reducible refine' o_eqS ?_))
local macro_rules | `(tactic| fail "w1") => `(tactic| (with_reducible refine' o_neI ?_))
local macro_rules | `(tactic| fail "w1") => `(tactic| (with_reducible refine' o_eqI ?_))
local macro_rules | `(tactic| fail "w1") => `(tactic| (with_reducible refine' o_ge ?_))
local macro_rules | `(tactic| fail "w1") => `(tactic| (with_reducible refine' o_gt ?_))
local macro_rules | `(tactic| fail "w1") => `(tactic| (with_reducible refine' o_le ?_))
local macro_rules | `(tactic| fail "w1") => `(tactic| (with_reducible refine' o_lt ?_))
local macro_rules | `(tactic| fail "w1") => `(tactic| (with_reducible refine' o_sub ?_))
local macro_rules | `(tactic| fail "w1") => `(tactic| (with_reducible refine' o_addI ?_))
local macro_rules | `(tactic| fail "w1") => `(tactic| (with_reducible refine dats8 ?_))
local macro_rules | `(tactic| fail "w1") => `(tactic| (with_reducible refine dats7 ?_))
local macro_rules | `(tactic| fail "w1") => `(tactic| (with_reducible refine dats6 ?_))
local macro_rules | `(tactic| fail "w1") => `(tactic| (with_reducible refine dats5 ?_))
local macro_rules | `(tactic| fail "w1") => `(tactic| (with_reducible refine dats0 ?_))
local macro_rules | `(tactic| fail "w1") => `(tactic| (with_reducible refine dats4 ?_))
local macro_rules | `(tactic| fail "w1") => `(tactic| (with_reducible refine pats0 ?_))
local macro_rules | `(tactic| fail "w1") => `(tactic| (with_reducible refine pats3 ?_))
local macro_rules | `(tactic| fail "w1") => `(tactic| (with_reducible refine pats2 ?_))
local macro_rules | `(tactic| fail "w1") => `(tactic| (with_reducible refine pats1 ?_))
local macro_rules | `(tactic| fail "w1") => `(tactic| (with_reducible refine dats3 ?_))
local macro_rules | `(tactic| fail "w1") => `(tactic| (with_reducible refine dats2 ?_))
local macro_rules | `(tactic| fail "w1") => `(tactic| (with_reducible refine dats1 ?_))
local macro_rules | `(tactic| fail "w1") => `(tactic| (with_reducible refine' ept_one ?_))
local macro_rules | `(tactic| fail "w1") => `(tactic| (with_reducible refine' ept_nil ?_))
local macro_rules | `(tactic| fail "w1") => `(tactic| ((with_reducible refine' evt_val ?h1 ?_); (case h1 => (intro _; rfl))))
local macro_rules | `(tactic| fail "w1") => `(tactic| ((with_reducible refine' evt_of ?_); first | (with_reducible refine' evw_and ?_) | (with_reducible refine' evw_or ?_)))
local macro_rules | `(tactic| fail "w1") => `(tactic| (with_reducible refine' evw_or1 ?_))
local macro_rules | `(tactic| fail "w1") => `(tactic| (with_reducible refine' evw_and1 ?_))
local macro_rules | `(tactic| fail "w1") => `(tactic| (with_reducible refine' evw_or ?_))
local macro_rules | `(tactic| fail "w1") => `(tactic| (with_reducible refine' evw_and ?_))
local macro_rules | `(tactic| fail "w1") => `(tactic| (with_reducible refine' evt_not ?_))
local macro_rules | `(tactic| fail "w1") => `(tactic| (with_reducible refine' evr_dict0 ?_))
local macro_rules | `(tactic| fail "w1") => `(tactic| (with_reducible refine' evr_lst ?_))
local macro_rules | `(tactic| fail "w1") => `(tactic| ((with_reducible refine' evr_pool ?h1 ?h2 ?h3 ?_); (case h1 => assumption); (case h2 => walk_at "lk"); (case h3 => walk_at "mem")))
local macro_rules | `(tactic| fail "w1") => `(tactic| ((with_reducible refine' ea_cons ?_ (hs := ?h4)); (case h4 => rfl)))
local macro_rules | `(tactic| fail "w1") => `(tactic| ((with_reducible refine' ea_consR (evr_pool ?h1 ?h2 ?h3 ?_) (hs := ?h4)); (case h1 => assumption); (case h2 => walk_at "lk"); (case h3 => walk_at "mem"); (case h4 => rfl)))
local macro_rules | `(tactic| fail "w1") => `(tactic| (with_reducible refine' ea_nil ?_))
local macro_rules | `(tactic| fail "w1") => `(tactic| (with_reducible refine' ev_frz (evr_lst ?_)))
local macro_rules | `(tactic| fail "w1") => `(tactic| ((with_reducible refine' ev_ty_str ?h1 ?h2 ?h3 ?_); (case h1 => assumption); (case h2 => assumption); (case h3 => walk_at "mem")))
local macro_rules | `(tactic| fail "w1") => `(tactic| ((with_reducible refine' ev_ty_dict ?h1 ?h2 ?h3 ?_); (case h1 => assumption); (case h2 => assumption); (case h3 => walk_at "mem")))
local macro_rules | `(tactic| fail "w1") => `(tactic| ((with_reducible refine' ev_ty_tuple ?h1 ?h2 ?h3 ?_); (case h1 => assumption); (case h2 => assumption); (case h3 => walk_at "mem")))
local macro_rules | `(tactic| fail "w1") => `(tactic| ((with_reducible refine' ev_ty_list ?h1 ?h2 ?h3 ?_); (case h1 => assumption); (case h2 => assumption); (case h3 => walk_at "mem")))
local macro_rules | `(tactic| fail "w1") => `(tactic| ((with_reducible refine' ev_ty_bool ?h1 ?h2 ?h3 ?_); (case h1 => assumption); (case h2 => assumption); (case h3 => walk_at "mem")))
local macro_rules | `(tactic| fail "w1") => `(tactic| ((with_reducible refine' ev_ty_int ?h1 ?h2 ?h3 ?_); (case h1 => assumption); (case h2 => assumption); (case h3 => walk_at "mem")))
local macro_rules | `(tactic| fail "w1") => `(tactic| ((with_reducible refine' ev_callP ?h1 ?h2 ?h6 ?h3 ?_ (he := ?h4) (hpl := ?h5)); (case h2 => assumption); (case h1 => assumption); (case h6 => first | decide | omega); (case h3 => walk_at "mem"); (case h4 => rfl); (case h5 => rfl)))
local macro_rules | `(tactic| fail "w1") => `(tactic| ((with_reducible refine' ev_callD ?h1 ?h2 ?h6 ?h3 ?_ (he := ?h4) (hpl := ?h5)); (case h2 => assumption); (case h1 => assumption); (case h6 => first | decide | omega); (case h3 => walk_at "mem"); (case h4 => rfl); (case h5 => rfl)))
local macro_rules | `(tactic| fail "w1") => `(tactic| ((with_reducible refine' evr_list ?h1 ?h2 ?h3 ?h4 ?h5 ?_); (case h1 => assumption); (case h2 => assumption); (case h3 => walk_at "mem"); (case h4 => rfl); (case h5 => rfl)))
local macro_rules | `(tactic| fail "w1") => `(tactic| ((with_reducible refine' ev_tuple ?h1 ?h2 ?h3 ?h4 ?h5 ?_); (case h1 => assumption); (case h2 => assumption); (case h3 => walk_at "mem"); (case h4 => rfl); (case h5 => rfl)))
local macro_rules | `(tactic| fail "w1") => `(tactic| ((with_reducible refine' ev_intc ?h1 ?h2 ?h3 ?h4 ?h5 ?_); (case h1 => assumption); (case h2 => assumption); (case h3 => walk_at "mem"); (case h4 => rfl); (case h5 => rfl)))
local macro_rules | `(tactic| fail "w1") => `(tactic| ((with_reducible refine' ev_all ?h1 ?h2 ?h3 ?h4 ?h5 ?_); (case h1 => assumption); (case h2 => assumption); (case h3 => walk_at "mem"); (case h4 => rfl); (case h5 => rfl)))
local macro_rules | `(tactic| fail "w1") => `(tactic| ((with_reducible refine' ev_any ?h1 ?h2 ?h3 ?h4 ?h5 ?_); (case h1 => assumption); (case h2 => assumption); (case h3 => walk_at "mem"); (case h4 => rfl); (case h5 => rfl)))
local macro_rules | `(tactic| fail "w1") => `(tactic| ((with_reducible refine' ev_sum ?h1 ?h2 ?h3 ?h4 ?h5 ?_); (case h1 => assumption); (case h2 => assumption); (case h3 => walk_at "mem"); (case h4 => rfl); (case h5 => rfl)))
local macro_rules | `(tactic| fail "w1") => `(tactic| ((with_reducible refine' ev_max ?h1 ?h2 ?h3 ?h4 ?h5 ?_); (case h1 => assumption); (case h2 => assumption); (case h3 => walk_at "mem"); (case h4 => rfl); (case h5 => rfl)))
local macro_rules | `(tactic| fail "w1") => `(tactic| ((with_reducible refine' ev_abs ?h1 ?h2 ?h3 ?h4 ?h5 ?_); (case h1 => assumption); (case h2 => assumption); (case h3 => walk_at "mem"); (case h4 => rfl); (case h5 => rfl)))
local macro_rules | `(tactic| fail "w1") => `(tactic| ((with_reducible refine' ev_isinstance ?h1 ?h2 ?h3 ?h4 ?h5 ?_); (case h1 => assumption); (case h2 => assumption); (case h3 => walk_at "mem"); (case h4 => rfl); (case h5 => rfl)))
local macro_rules | `(tactic| fail "w1") => `(tactic| ((with_reducible refine' ev_len ?h1 ?h2 ?h3 ?h4 ?h5 ?_); (case h1 => assumption); (case h2 => assumption); (case h3 => walk_at "mem"); (case h4 => rfl); (case h5 => rfl)))
local macro_rules | `(tactic| fail "w1") => `(tactic| (with_reducible refine' ev_tup ?_))
local macro_rules | `(tactic| fail "w1") => `(tactic| (with_reducible refine' ev_if ?_))
local macro_rules | `(tactic| fail "w1") => `(tactic| (with_reducible refine' ev_not ?_))
local macro_rules | `(tactic| fail "w1") => `(tactic| (with_reducible refine' ev_one ?_))
local macro_rules | `(tactic| fail "w1") => `(tactic| (with_reducible refine' ev_or ?_))
local macro_rules | `(tactic| fail "w1") => `(tactic| (with_reducible refine' ev_and ?_))
local macro_rules | `(tactic| fail "w1") => `(tactic| ((with_reducible refine' ev_ch_le ?h1 ?_); (case h1 => (with_unfolding_all rfl))))
local macro_rules | `(tactic| fail "w1") => `(tactic| ((with_reducible refine' ev_ch_lt ?h1 ?_); (case h1 => (with_unfolding_all rfl))))
local macro_rules | `(tactic| fail "w1") => `(tactic| ((with_reducible refine' evt_notin ?h1 ?h2 ?_); (case h1 => assumption); (case h2 => rfl)))
local macro_rules | `(tactic| fail "w1") => `(tactic| ((with_reducible refine' evt_in ?h1 ?h2 ?_); (case h1 => assumption); (case h2 => rfl)))
local macro_rules | `(tactic| fail "w1") => `(tactic| ((with_reducible refine' evt_ne ?h1 ?_); (case h1 => assumption)))
local macro_rules | `(tactic| fail "w1") => `(tactic| ((with_reducible refine' evt_eq ?h1 ?_); (case h1 => assumption)))
local macro_rules | `(tactic| fail "w1") => `(tactic| (with_reducible refine' evt_isnot ?_))
local macro_rules | `(tactic| fail "w1") => `(tactic| (with_reducible refine' evt_is ?_))
local macro_rules | `(tactic| fail "w1") => `(tactic| (with_reducible refine' evt_ge ?_))
local macro_rules | `(tactic| fail "w1") => `(tactic| (with_reducible refine' evt_gt ?_))
local macro_rules | `(tactic| fail "w1") => `(tactic| (with_reducible refine' evt_le ?_))
local macro_rules | `(tactic| fail "w1") => `(tactic| (with_reducible refine' evt_lt ?_))
local macro_rules | `(tactic| fail "w1") => `(tactic| ((with_reducible refine' ev_notin ?h1 ?h2 ?_); (case h1 => assumption); (case h2 => rfl)))
local macro_rules | `(tactic| fail "w1") => `(tactic| ((with_reducible refine' ev_in ?h1 ?h2 ?_); (case h1 => assumption); (case h2 => rfl)))
local macro_rules | `(tactic| fail "w1") => `(tactic| ((with_reducible refine' ev_ne ?h1 ?_); (case h1 => assumption)))
local macro_rules | `(tactic| fail "w1") => `(tactic| ((with_reducible refine' ev_eq ?h1 ?_); (case h1 => assumption)))
local macro_rules | `(tactic| fail "w1") => `(tactic| (with_reducible refine' ev_isnot ?_))
local macro_rules | `(tactic| fail "w1") => `(tactic| (with_reducible refine' ev_is ?_))
local macro_rules | `(tactic| fail "w1") => `(tactic| (with_reducible refine' ev_ge ?_))
local macro_rules | `(tactic| fail "w1") => `(tactic| (with_reducible refine' ev_gt ?_))
local macro_rules | `(tactic| fail "w1") => `(tactic| (with_reducible refine' ev_le ?_))
local macro_rules | `(tactic| fail "w1") => `(tactic| (with_reducible refine' ev_lt ?_))
local macro_rules | `(tactic| fail "w1") => `(tactic| (with_reducible refine' ev_pow ?_))
local macro_rules | `(tactic| fail "w1") => `(tactic| (with_reducible refine' ev_fdiv ?_))
local macro_rules | `(tactic| fail "w1") => `(tactic| (with_reducible refine' ev_mod ?_))
local macro_rules | `(tactic| fail "w1") => `(tactic| (with_reducible refine' ev_mul ?_))
local macro_rules | `(tactic| fail "w1") => `(tactic| (with_reducible refine' ev_sub ?_))
local macro_rules | `(tactic| fail "w1") => `(tactic| (with_reducible refine' ev_add ?_))
local macro_rules | `(tactic| fail "w1") => `(tactic| (with_reducible refine exEq ?_))
local macro_rules | `(tactic| fail "w1") => `(tactic| (with_reducible refine exItl ?_))
local macro_rules | `(tactic| fail "w1") => `(tactic| (with_reducible refine exDat ?_))
local macro_rules | `(tactic| fail "w1") => `(tactic| (with_reducible refine exFd ?_))
local macro_rules | `(tactic| fail "w1") => `(tactic| (with_reducible refine exFl ?_))
local macro_rules | `(tactic| fail "w1") => `(tactic| (with_reducible refine exDct ?_))
local macro_rules | `(tactic| fail "w1") => `(tactic| (with_reducible refine exStr ?_))
local macro_rules | `(tactic| fail "w1") => `(tactic| (with_reducible refine exLst ?_))
local macro_rules | `(tactic| fail "w1") => `(tactic| (with_reducible refine exTup ?_))
local macro_rules | `(tactic| fail "w1") => `(tactic| (with_reducible refine exInt ?_))
local macro_rules | `(tactic| fail "w1") => `(tactic| (with_reducible refine exBl ?_))
local macro_rules | `(tactic| fail "w1") => `(tactic| (with_reducible refine iteF ?_))
local macro_rules | `(tactic| fail "w1") => `(tactic| (with_reducible refine iteT ?_))
local macro_rules | `(tactic| fail "w1") => `(tactic| ((with_reducible refine' ev_sub1 ?h1 ?h2 ?_); (case h1 => assumption); (case h2 => (intro _ _; rfl))))
local macro_rules | `(tactic| fail "w1") => `(tactic| (with_reducible refine' ev_str ?_))
local macro_rules | `(tactic| fail "w1") => `(tactic| (with_reducible refine' ev_non ?_))
local macro_rules | `(tactic| fail "w1") => `(tactic| (with_reducible refine' ev_bl ?_))
local macro_rules | `(tactic| fail "w1") => `(tactic| (with_reducible refine' ev_int ?_))
local macro_rules | `(tactic| fail "w1") => `(tactic| ((with_reducible refine' ev_var ?h1 ?h2 ?h3 ?_); (case h1 => assumption); (case h2 => walk_at "lk"); (case h3 => walk_at "mem")))
local macro_rules | `(tactic| walk_at "one") => `(tactic| first | fail "w1" | fail "none")
local macro_rules | `(tactic| walk_at "go") => `(tactic| repeat fail "w1")
local macro_rules | `(tactic| walk_at "frz") => `(tactic| first | ((with_reducible refine' ev_varL ?h1 ?h2 ?h3 ?_); (case h1 => assumption); (case h2 => walk_at "lk"); (case h3 => walk_at "mem"); try walk_at "up") | ((with_reducible refine' ev_varK ?h1 ?h2 ?h3 ?_); (case h1 => assumption); (case h2 => walk_at "lk"); (case h3 => walk_at "mem"); try walk_at "up"))
/-! ## E1 -/
def topS (i : Nat) : Stmt := PySem.Challenge.pw_meettasks_k63_whole_tangles.main.body.getD i (.Pass ⟨0, 0, 0, 0⟩)
section
variable {P : Program} {w : World} {K : PySem.W.Frag} {mg : Str → Option Value} {base : Heap} {C : Addr}
/-! ### is_integer, is_natural, is_positive, is_list, is_pair -/
abbrev sIsInt : Stmt := topS 3
theorem scIsInt : FnScope ["thing"] ["thing"] (defScope sIsInt) := ⟨rfl, rfl, rfl, by decide +kernel, rfl, by decide +kernel, by decide +kernel⟩
/-- a whole number, no truth -/
def isIntD : D → Bool
  | .int _ => true
  | _ => false
def RIsInt : List D → Nat → (D → Nat → Prop) → Prop := fun ds n p => ∃ d, ds = [d] ∧ (tyD d).isSome = true ∧ p (.bl (isIntD d)) n
theorem ok_isInt {f : Addr} {fd : FuncData} (F : Fun K "is_integer" "is_integer" sIsInt f fd) (hm : mg "is_integer" = some (.ref f)) (hb : Binds K fd ["thing"] []) (m1 : mg "isinstance" = none) (m2 : mg "int" = none) (m3 : mg "bool" = none) : FnD P w K mg base C "is_integer" 1 false RIsInt := by
  refine fnD_of (k := 0) [] ["isinstance", "int", "bool"] [] F hm scIsInt hb (by decide +kernel) (fun ds n p q h ⟨d, e, t, z⟩ => ⟨d, e, t, h _ _ z⟩) (fun ds n p ⟨d, e, _⟩ => by subst e; rfl) ?_
  intro X e1 e2 e3 e4 e5 e6 hX hC ds n p ⟨d, e, ht, hp⟩
  subst e e1 e2 e3 e4 e5
  walk_at "up"
  refine stb_one ?_
  walk_at "go"
  cases d with
  | int i => refine n_isi (b := true) rfl (by decide +kernel) ?_; walk_at "go"; refine n_isi (b := false) rfl (by decide +kernel) ?_; walk_at "go"; exact hp
  | bl i => refine n_isi (b := true) rfl (by decide +kernel) ?_; walk_at "go"; refine n_isi (b := true) rfl (by decide +kernel) ?_; walk_at "go"; exact hp
  | non => refine n_isi (b := false) rfl (by decide +kernel) ?_; walk_at "go"; exact hp
  | str _ => refine n_isi (b := false) rfl (by decide +kernel) ?_; walk_at "go"; exact hp
  | lst _ => refine n_isi (b := false) rfl (by decide +kernel) ?_; walk_at "go"; exact hp
  | tup _ => refine n_isi (b := false) rfl (by decide +kernel) ?_; walk_at "go"; exact hp
  | dct _ => refine n_isi (b := false) rfl (by decide +kernel) ?_; walk_at "go"; exact hp
  | obj _ => cases ht
  | scr _ => cases ht
  | ty _ => cases ht
abbrev sIsNat : Stmt := topS 4
theorem scIsNat : FnScope ["thing"] ["thing"] (defScope sIsNat) := ⟨rfl, rfl, rfl, by decide +kernel, rfl, by decide +kernel, by decide +kernel⟩
def isNatD : D → Bool
  | .int i => decide (0 ≤ i)
  | _ => false
def RIsNat : List D → Nat → (D → Nat → Prop) → Prop := fun ds n p => ∃ d, ds = [d] ∧ (tyD d).isSome = true ∧ p (.bl (isNatD d)) n
theorem ok_isNat {f : Addr} {fd : FuncData} (F : Fun K "is_natural" "is_natural" sIsNat f fd) (hm : mg "is_natural" = some (.ref f)) (hb : Binds K fd ["thing"] []) (f1 : FnD P w K mg base C "is_integer" 1 false RIsInt) : FnD P w K mg base C "is_natural" 2 false RIsNat := by
  refine fnD_of (k := 1) [] ["is_integer"] [] F hm scIsNat hb (by decide +kernel) (fun ds n p q h ⟨d, e, t, z⟩ => ⟨d, e, t, h _ _ z⟩) (fun ds n p ⟨d, e, _⟩ => by subst e; rfl) ?_
  intro X e1 e2 e3 e4 e5 e6 hX hC ds n p ⟨d, e, ht, hp⟩
  subst e e1 e2 e3 e4 e5
  walk_at "up"
  refine stb_one ?_
  walk_at "go"
  refine ⟨d, rfl, ht, ?_⟩
  cases d with
  | int i => exact ⟨true, rfl, by walk_at "go"; exact hp⟩
  | _ => exact ⟨false, rfl, by walk_at "go"; exact hp⟩
abbrev sIsPos : Stmt := topS 5
theorem scIsPos : FnScope ["thing"] ["thing"] (defScope sIsPos) := ⟨rfl, rfl, rfl, by decide +kernel, rfl, by decide +kernel, by decide +kernel⟩
def isPosD : D → Bool
  | .int i => decide (1 ≤ i)
  | _ => false
def RIsPos : List D → Nat → (D → Nat → Prop) → Prop := fun ds n p => ∃ d, ds = [d] ∧ (tyD d).isSome = true ∧ p (.bl (isPosD d)) n
theorem ok_isPos {f : Addr} {fd : FuncData} (F : Fun K "is_positive" "is_positive" sIsPos f fd) (hm : mg "is_positive" = some (.ref f)) (hb : Binds K fd ["thing"] []) (f1 : FnD P w K mg base C "is_integer" 1 false RIsInt) : FnD P w K mg base C "is_positive" 2 false RIsPos := by
  refine fnD_of (k := 1) [] ["is_integer"] [] F hm scIsPos hb (by decide +kernel) (fun ds n p q h ⟨d, e, t, z⟩ => ⟨d, e, t, h _ _ z⟩) (fun ds n p ⟨d, e, _⟩ => by subst e; rfl) ?_
  intro X e1 e2 e3 e4 e5 e6 hX hC ds n p ⟨d, e, ht, hp⟩
  subst e e1 e2 e3 e4 e5
  walk_at "up"
  refine stb_one ?_
  walk_at "go"
  refine ⟨d, rfl, ht, ?_⟩
  cases d with
  | int i => exact ⟨true, rfl, by walk_at "go"; exact hp⟩
  | _ => exact ⟨false, rfl, by walk_at "go"; exact hp⟩
abbrev sIsList : Stmt := topS 6
theorem scIsList : FnScope ["thing"] ["thing"] (defScope sIsList) := ⟨rfl, rfl, rfl, by decide +kernel, rfl, by decide +kernel, by decide +kernel⟩
def isListD : D → Bool
  | .lst _ => true
  | .tup _ => true
  | _ => false
def RIsList : List D → Nat → (D → Nat → Prop) → Prop := fun ds n p => ∃ d, ds = [d] ∧ (tyD d).isSome = true ∧ p (.bl (isListD d)) n
theorem ok_isList {f : Addr} {fd : FuncData} (F : Fun K "is_list" "is_list" sIsList f fd) (hm : mg "is_list" = some (.ref f)) (hb : Binds K fd ["thing"] []) (m1 : mg "isinstance" = none) (m2 : mg "list" = none) (m3 : mg "tuple" = none) : FnD P w K mg base C "is_list" 1 false RIsList := by
  refine fnD_of (k := 0) [] ["isinstance", "list", "tuple"] [] F hm scIsList hb (by decide +kernel) (fun ds n p q h ⟨d, e, t, z⟩ => ⟨d, e, t, h _ _ z⟩) (fun ds n p ⟨d, e, _⟩ => by subst e; rfl) ?_
  intro X e1 e2 e3 e4 e5 e6 hX hC ds n p ⟨d, e, ht, hp⟩
  subst e e1 e2 e3 e4 e5
  walk_at "up"
  refine stb_one ?_
  walk_at "go"
  cases d with
  | lst i => refine n_isiT (cs := ["list", "tuple"]) (b := true) rfl (by decide +kernel) ?_; walk_at "go"; exact hp
  | tup i => refine n_isiT (cs := ["list", "tuple"]) (b := true) rfl (by decide +kernel) ?_; walk_at "go"; exact hp
  | bl i => refine n_isiT (cs := ["list", "tuple"]) (b := false) rfl (by decide +kernel) ?_; walk_at "go"; exact hp
  | int i => refine n_isiT (cs := ["list", "tuple"]) (b := false) rfl (by decide +kernel) ?_; walk_at "go"; exact hp
  | non => refine n_isiT (cs := ["list", "tuple"]) (b := false) rfl (by decide +kernel) ?_; walk_at "go"; exact hp
  | str _ => refine n_isiT (cs := ["list", "tuple"]) (b := false) rfl (by decide +kernel) ?_; walk_at "go"; exact hp
  | dct _ => refine n_isiT (cs := ["list", "tuple"]) (b := false) rfl (by decide +kernel) ?_; walk_at "go"; exact hp
  | obj _ => cases ht
  | scr _ => cases ht
  | ty _ => cases ht
abbrev sIsPair : Stmt := topS 7
theorem scIsPair : FnScope ["thing"] ["thing"] (defScope sIsPair) := ⟨rfl, rfl, rfl, by decide +kernel, rfl, by decide +kernel, by decide +kernel⟩
def isPairD : D → Bool
  | .lst l => decide (l.length = 2)
  | .tup l => decide (l.length = 2)
  | _ => false
def RIsPair : List D → Nat → (D → Nat → Prop) → Prop := fun ds n p => ∃ d, ds = [d] ∧ (tyD d).isSome = true ∧ p (.bl (isPairD d)) n
theorem two_dec (m : Nat) : decide ((m : Int) = 2) = decide (m = 2) := by
  by_cases h : m = 2
  · rw [decide_eq_true h, decide_eq_true (by omega)]
  · rw [decide_eq_false h, decide_eq_false (by omega)]
theorem ok_isPair {f : Addr} {fd : FuncData} (F : Fun K "is_pair" "is_pair" sIsPair f fd) (hm : mg "is_pair" = some (.ref f)) (hb : Binds K fd ["thing"] []) (f1 : FnD P w K mg base C "is_list" 1 false RIsList) (m1 : mg "len" = none) : FnD P w K mg base C "is_pair" 2 false RIsPair := by
  refine fnD_of (k := 1) [] ["is_list", "len"] [] F hm scIsPair hb (by decide +kernel) (fun ds n p q h ⟨d, e, t, z⟩ => ⟨d, e, t, h _ _ z⟩) (fun ds n p ⟨d, e, _⟩ => by subst e; rfl) ?_
  intro X e1 e2 e3 e4 e5 e6 hX hC ds n p ⟨d, e, ht, hp⟩
  subst e e1 e2 e3 e4 e5
  walk_at "up"
  refine stb_one ?_
  walk_at "go"
  refine ⟨d, rfl, ht, ?_⟩
  cases d with
  | lst i => refine ⟨true, rfl, ?_⟩; walk_at "go"; rw [two_dec]; exact hp
  | tup i => refine ⟨true, rfl, ?_⟩; walk_at "go"; rw [two_dec]; exact hp
  | _ => exact ⟨false, rfl, by walk_at "go"; exact hp⟩
end
/-! ## E2 -/
section
variable {P : Program} {w : World} {K : PySem.W.Frag} {mg : Str → Option Value} {base : Heap} {C : Addr}
/-! ### _law_take: by hand, the pool's own list is changed -/
abbrev sTake : Stmt := topS 28
theorem scTake : FnScope ["_law_pool_here", "_law_many", "_law_draw", "_law_mixed_here"] ["_law_pool_here", "_law_many"] (defScope sTake) := ⟨rfl, rfl, rfl, by decide +kernel, rfl, by decide +kernel, by decide +kernel⟩
def RTake : List D → Nat → (D → Nat → Prop) → Prop := fun ds n p => ∃ m : Nat, ds = [.int (m : Int)] ∧ 0 < m ∧ m < 1000 ∧ 0 < n ∧ ∀ j : Nat, j < m → p (.int (j : Int)) (n - 1)
theorem take_end {B : Bs} {n : Nat} {H : Hp} {v : V} {a b c j : Int} (hH : B.H = H) (hex : Ex B.F H) (hpl : B.pl = true) (hf : B.F B.p = none) (hp : PoolOk H B.p n) (hv : v = .int j) (h1 : 0 ≤ a) (h2 : 0 ≤ b) (h3 : b < 1000000007) (h4 : 0 ≤ c) (h5 : c + ((n - 1 : Nat) : Int) ≤ 1000000000) {H' : Hp}
    (hh : H' B.p = some (.lst [.int a, .int b, .int c])) (ho : ∀ q, q ≠ B.p → H' q = H q) : Sta K C B [(v, .dat (.int j))] (n - 1) [] [] H' := by
  subst hv
  refine ⟨B.F, fun _ => none, Ex.refl _, fun q o z => ?_, fun q o z z2 => ?_, fun q o z => .inl z, fun _ _ z => (by cases z), fun _ => ⟨hf, ?_, a, b, c, hh, h1, h2, h3, h4, h5⟩, rfl, fun i sl z => by simp at z, ⟨.dat (.int j), trivial⟩⟩
  · rw [ho q (fun e => by subst e; rw [hf] at z; cases z)]; exact hex q o z
  · rw [ho q (z2 hpl), ← hH]; exact z
  · obtain ⟨x, y, t, q, _⟩ := hp
    exact ⟨_, by rw [hH]; exact q⟩
theorem ok_take {f : Addr} {fd : FuncData} (F : Fun K "_law_take" "_law_take" sTake f fd) (hm : mg "_law_take" = some (.ref f)) (hb : Binds K fd ["_law_pool_here", "_law_many"] []) (m1 : mg "int" = none) : FnD P w K mg base C "_law_take" 1 true RTake := by
  have lenV : ∀ vs H Q E, spD K C true RTake vs H Q E → vs.length = (["_law_pool_here", "_law_many"] : List Str).length := by
    rintro vs H Q E ⟨B, n, vs', ds, h1, h2, h3, h4, h5, h6, m, e, _⟩
    subst e
    have := h5.length
    rw [h3]
    simp [this]
  refine ⟨⟨f, fd, _, CX0, hm, F.kp, hb, F.ok (k := 0) scTake lenV (fun cdv A outer s H vs Q E hr h => ?_), fun X _ _ => pass0⟩, fun ds n p q h ⟨m, e, a, b, c, z⟩ => ⟨m, e, a, b, c, fun j hj => h _ _ (z j hj)⟩⟩
  obtain ⟨B, n, vs', ds, hpl, hH, hvs, hex, hrep, hpool, m, e, hm0, hm1, hn, hp⟩ := h
  subst e
  obtain ⟨v, rfl, r1⟩ := reps1 hrep
  cases r1
  obtain ⟨hf, hpo⟩ := hpool rfl
  obtain ⟨a, b, c, q0, q1, q2, q3, q4, q5⟩ := id hpo
  have hvs : vs = [.ref B.p, .int (m : Int)] := hvs
  subst hvs
  have nd := scTake.nd
  have q0s : ∀ {H' : Hp} {a b c : Int}, H' B.p = some (.lst [.int a, .int b, .int c]) → SqL K H' B.p [.int a, .int b, .int c] := fun h => SqL.of h
  refine ⟨_, pss_cons (ps_if (pt_cmpR op_gt (pe_ix ix_list (pv 0) pe_int (fun _ _ => rfl)) pe_int (nomark _))
      (pss_cons (ps_set (i := 2) nd rfl (.inl rfl) (pe_op op_mod (pe_callTy call_int1 (by rfl) m1 bt_int (pa_cons (pe_ix ix_list (pv 0) pe_int (fun _ _ => rfl)) pa_nil)) (pv 1)))
      (pss_cons (ps_asg (pe_op op_fdiv (pe_ix ix_list (pv 0) pe_int (fun _ _ => rfl)) (pv 1)) (pg_sub (pv 0) pe_int set_list)) (pss_one (ps_ret (pv 2))))) pss_nil)
    (pss_cons (ps_asg (pe_op op_add (pe_ix ix_list (pv 0) pe_int (fun _ _ => rfl)) pe_int) (pg_sub (pv 0) pe_int set_list))
    (pss_cons (ps_set (i := 3) nd rfl (.inl rfl) (pe_op op_mod (pe_callTy call_int1 (by rfl) m1 bt_int (pa_cons (pe_op op_pow (pe_op op_add (pe_op op_add (pe_ix ix_list (pv 0) pe_int (fun _ _ => rfl)) (pe_op op_mul pe_int (pe_ix ix_list (pv 0) pe_int (fun _ _ => rfl)))) pe_int) pe_int) pa_nil)) pe_int))
    (pss_one (ps_ret (pe_op op_mod (pe_op op_mod (pe_callTy call_int1 (by rfl) m1 bt_int (pa_cons (pe_op op_mul (pe_op op_add (pv 3) (pe_ix ix_list (pv 0) pe_int (fun _ _ => rfl))) pe_int) pa_nil)) pe_int) (pv 1)))))), ?_⟩
  refine ⟨_, rfl, B.p, _, 0, .int a, rfl, rfl, q0s q0, rfl, a, 0, rfl, rfl, _, rfl, ite2 (fun hc => ?_) (fun hc => ?_)⟩
  · have ha : 0 < a := of_decide_eq_true hc
    refine ⟨_, rfl, B.p, _, 0, .int a, rfl, rfl, q0s q0, rfl, .inl ⟨a, rfl, _, rfl, a, m, rfl, rfl, (show (0 : Int) < m by omega), ?_⟩⟩
    refine ⟨_, rfl, B.p, _, 0, .int a, rfl, rfl, q0s q0, rfl, _, rfl, a, m, rfl, rfl, ⟨by omega, by omega⟩, ?_⟩
    refine ⟨_, rfl, B.p, _, 0, 0, rfl, rfl, q0, rfl, ?_⟩
    refine ⟨_, rfl, ?_⟩
    have e1 : a % (m : Int) = ((a % (m : Int)).toNat : Int) := by have := Int.emod_nonneg a (show (m : Int) ≠ 0 by omega); omega
    have l1 : (a % (m : Int)).toNat < m := by have := Int.emod_lt_of_pos a (show (0 : Int) < m by omega); omega
    refine hp _ l1 _ _ (take_end hH hex hpl hf hpo (by rw [← e1]) (a := a / m) (b := b) (c := c) (Int.ediv_nonneg (by omega) (by omega)) q2 q3 q4 (by omega) upd_same fun q hq => upd_ne hq)
  · refine ⟨_, rfl, B.p, _, 2, .int c, rfl, rfl, q0s q0, rfl, c, 1, rfl, rfl, ?_⟩
    refine ⟨_, rfl, B.p, _, 2, 2, rfl, rfl, q0, rfl, ?_⟩
    have g0 : (upd H B.p (.lst [.int a, .int b, .int (c + 1)])) B.p = some (.lst [.int a, .int b, .int (c + 1)]) := upd_same
    refine ⟨_, rfl, B.p, _, 1, .int b, rfl, rfl, q0s g0, rfl, _, rfl, B.p, _, 2, .int (c + 1), rfl, rfl, q0s g0, rfl, 7919, c + 1, rfl, rfl, .inl ⟨by decide, by decide⟩, ?_⟩
    refine ⟨b, 7919 * (c + 1), rfl, rfl, _, 104729, rfl, rfl, _, 5, rfl, rfl, ⟨by decide, by decide, by omega⟩, .inl ⟨_, rfl, _, 2147483647, rfl, rfl, by show (0 : Int) < 2147483647; decide, ?_⟩⟩
    have fin : ∀ z : Int, Q (.int (z % (m : Int))) (upd H B.p (.lst [.int a, .int b, .int (c + 1)])) := fun z => by
      have e1 : z % (m : Int) = ((z % (m : Int)).toNat : Int) := by have := Int.emod_nonneg z (show (m : Int) ≠ 0 by omega); omega
      have l1 : (z % (m : Int)).toNat < m := by have := Int.emod_lt_of_pos z (show (0 : Int) < m by omega); omega
      exact hp _ l1 _ _ (take_end hH hex hpl hf hpo (by rw [← e1]) (a := a) (b := b) (c := c + 1) q1 q2 q3 (by omega) (by omega) upd_same fun q hq => upd_ne hq)
    exact ⟨_, rfl, _, rfl, B.p, _, 2, .int (c + 1), rfl, rfl, q0s g0, rfl, _, c + 1, rfl, rfl, _, 40692, rfl, rfl, .inr ⟨by decide, by decide⟩, .inl ⟨_, rfl, _, 2147483629, rfl, rfl, by show (0 : Int) < 2147483629; decide, _, rfl, _, m, rfl, rfl, (show (0 : Int) < m by omega), fin _⟩⟩
end
/-! ## E3 -/
section
variable {P : Program} {w : World} {K : PySem.W.Frag} {mg : Str → Option Value} {base : Heap} {C : Addr}
/-! ### _law_one, _law_mixed -/
abbrev sOne : Stmt := topS 29
theorem scOne : FnScope ["_law_pool_here", "_law_things"] ["_law_pool_here", "_law_things"] (defScope sOne) := ⟨rfl, rfl, rfl, by decide +kernel, rfl, by decide +kernel, by decide +kernel⟩
def ROne : List D → Nat → (D → Nat → Prop) → Prop := fun ds n p => ∃ xs : List D, ds = [.lst xs] ∧ 0 < xs.length ∧ xs.length < 1000 ∧ 0 < n ∧ ∀ (j : Nat) d, xs[j]? = some d → p d (n - 1)
theorem ok_one {f : Addr} {fd : FuncData} (F : Fun K "_law_one" "_law_one" sOne f fd) (hm : mg "_law_one" = some (.ref f)) (hb : Binds K fd ["_law_pool_here", "_law_things"] []) (m1 : mg "len" = none) (f1 : FnD P w K mg base C "_law_take" 1 true RTake) : FnD P w K mg base C "_law_one" 2 true ROne := by
  refine fnD_of (k := 1) [] ["len", "_law_take"] [] F hm scOne hb (by decide +kernel) (fun ds n p q h ⟨m, e, a, b, c, z⟩ => ⟨m, e, a, b, c, fun j d hj => h _ _ (z j d hj)⟩) (fun ds n p ⟨d, e, _⟩ => by subst e; rfl) ?_
  intro X e1 e2 e3 e4 e5 e6 hX hC ds n p ⟨xs, e, h0, h1, hn, hp⟩
  subst e e1 e2 e3 e4 e5
  walk_at "up"
  refine stb_one ?_
  walk_at "go"
  refine ⟨_, rfl, h0, h1, hn, fun j hj => ?_⟩
  refine o_ixL (d := xs[j]) (by simp) ?_
  exact hp j _ (by simp)
abbrev sMixed : Stmt := topS 30
theorem scMixed : FnScope ["_law_pool_here", "_law_things", "_law_left", "_law_found"] ["_law_pool_here", "_law_things"] (defScope sMixed) := ⟨rfl, rfl, rfl, by decide +kernel, rfl, by decide +kernel, by decide +kernel⟩
def RMixed : List D → Nat → (D → Nat → Prop) → Prop := fun ds n p => ∃ xs : List D, ds = [.lst xs] ∧ xs.all (okD 2) = true ∧ xs.length < 1000 ∧ xs.length ≤ n ∧ ∀ ys : List D, ys.Perm xs → p (.lst ys) (n - xs.length)
theorem perm_pop {α : Type} : ∀ {l : List α} {j : Nat} {d : α}, l[j]? = some d → (d :: l.eraseIdx j).Perm l
  | [], _, _, h => by simp at h
  | a :: r, 0, d, h => by simp at h; subst h; exact List.Perm.refl _
  | a :: r, j + 1, d, h => by
    have ih := perm_pop (l := r) (j := j) (d := d) (by simpa using h)
    exact (List.Perm.swap a d _).trans (List.Perm.cons a ih)
theorem ok_mixed {f : Addr} {fd : FuncData} (F : Fun K "_law_mixed" "_law_mixed" sMixed f fd) (hm : mg "_law_mixed" = some (.ref f)) (hb : Binds K fd ["_law_pool_here", "_law_things"] []) (m1 : mg "len" = none) (m2 : mg "list" = none) (f1 : FnD P w K mg base C "_law_take" 1 true RTake) : FnD P w K mg base C "_law_mixed" 2 true RMixed := by
  refine fnD_of (k := 1) [.no, .no] ["len", "_law_take", "list"] [] F hm scMixed hb (by decide +kernel) (fun ds n p q h ⟨m, e, a, b, c, z⟩ => ⟨m, e, a, b, c, fun ys hj => h _ _ (z ys hj)⟩) (fun ds n p ⟨d, e, _⟩ => by subst e; rfl) ?_
  intro X e1 e2 e3 e4 e5 e6 hX hC ds n p ⟨xs, e, h0, h1, hn, hp⟩
  subst e e1 e2 e3 e4 e5
  walk_at "up"
  refine stb_cons ?_
  refine st_par2 (i := 2) (j := 3) hX (by walk_at "lk") (by walk_at "lk") (by decide) (by rw [e6]; rfl) (by rw [e6]; rfl) ?_ (by generalize X.env = v at e6 ⊢; cases v; cases e6; rfl)
  walk_at "go"
  walk_at "up"
  refine st_while hX (fun m n' env' => ∃ left found, env' = [.pool, .dat (.lst xs), .lst left, .lst found] ∧ m = left.length ∧ n' = n - xs.length + left.length ∧ (found ++ left).Perm xs) xs.length ?_ ?_
  · exact ⟨xs, [], rfl, rfl, by omega, List.Perm.refl _⟩
  rintro m n' env' ⟨left, found, rfl, rfl, rfl, hpm⟩
  have hall : left.all (okD 2) = true := by
    rw [List.all_eq_true] at h0 ⊢
    intro d hd
    exact h0 d (hpm.mem_iff.mp (List.mem_append_right _ hd))
  have hlen : found.length + left.length = xs.length := by have := hpm.length_eq; simpa using this
  refine evt_lookX "_law_left" 2 hX (by walk_at "lk") rfl ?_
  walk_at "up"
  walk_at "go"
  refine o_neNil hall ?_
  refine ⟨_, rfl, ?_⟩
  cases left with
  | nil =>
    refine iteF ?_
    walk_at "go"
    walk_at "frz"
    rw [List.append_nil] at hpm
    have := hp found hpm
    simpa using this
  | cons d0 left =>
    refine iteT ?_
    walk_at "go"
    refine ev_append (i := 3) hX (by walk_at "lk") (by walk_at "mem") ?_
    refine ev_popAt (i := 2) hX (by walk_at "lk") (by walk_at "mem") ?_
    iterate 3 walk_at "one"
    refine ev_lookX "_law_left" 2 hX (by walk_at "lk") rfl ?_
    walk_at "up"
    walk_at "go"
    refine ⟨rfl, ?_⟩
    walk_at "go"
    have hl2 : left.length + 1 < 1000 := by simp at hlen; omega
    refine ⟨_, rfl, by show 0 < left.length + 1; omega, hl2, by show 0 < _; omega, fun j hj => ?_⟩
    have hj' : j < (d0 :: left).length := hj
    refine ⟨_, j, (d0 :: left)[j], rfl, rfl, by simp [hj'], by show left.length + 1 ≤ _; omega, ?_⟩
    refine ⟨_, rfl, by simp at hlen; omega, ?_⟩
    walk_at "go"
    have le1 : ((d0 :: left).eraseIdx j).length = left.length := by rw [List.length_eraseIdx, if_pos hj']; rfl
    refine ⟨((d0 :: left).eraseIdx j).length, ?_, (d0 :: left).eraseIdx j, found ++ [(d0 :: left)[j]], rfl, rfl, ?_, ?_⟩
    · rw [le1]; show left.length < left.length + 1; omega
    · rw [le1]; have : (d0 :: left).length = left.length + 1 := rfl; omega
    · refine List.Perm.trans ?_ hpm
      show ((found ++ [(d0 :: left)[j]]) ++ (d0 :: left).eraseIdx j).Perm _
      rw [List.append_assoc]
      exact List.Perm.append_left found (perm_pop (by simp [hj']))
end
/-! ## E4 -/
section
variable {P : Program} {w : World} {K : PySem.W.Frag} {mg : Str → Option Value} {base : Heap} {C : Addr}
/-! ### _law_units -/
abbrev sUnits : Stmt := topS 34
theorem scUnits : FnScope ["_law_body_here", "_law_around", "_law_found", "_law_number", "_law_part"] ["_law_body_here", "_law_around"] (defScope sUnits) := ⟨rfl, rfl, rfl, by decide +kernel, rfl, by decide +kernel, by decide +kernel⟩
def RUnits (m : Nat) : List D → Nat → (D → Nat → Prop) → Prop := fun ds n p => ∃ (b : Bd) (ar : List Mk), ds = [.tup (bdD b), arD ar] ∧ dpB b ≤ m ∧ szB b ≤ 1000 ∧ ar.length + m ≤ 100 ∧ p (unD (unB b 0 ar)) n
theorem ok_units {f : Addr} {fd : FuncData} (F : Fun K "_law_units" "_law_units" sUnits f fd) (hm : mg "_law_units" = some (.ref f)) (hb : Binds K fd ["_law_body_here", "_law_around"] []) (m1 : mg "len" = none) (m2 : mg "enumerate" = none) (m3 : mg "isinstance" = none) (m4 : mg "int" = none) : ∀ m, FnD P w K mg base C "_law_units" (m + 1) false (RUnits m) := by
  intro m
  induction m using Nat.strongRecOn with
  | _ m ih =>
  refine fnD_of (k := m) [.no, .no, .no] ["len", "_law_units", "enumerate", "isinstance", "int"] [] F hm scUnits hb (by decide +kernel) (fun ds n p q h ⟨b, ar, e, z1, z2, z3, z⟩ => ⟨b, ar, e, z1, z2, z3, h _ _ z⟩) (fun ds n p ⟨d, ar, e, _⟩ => by subst e; rfl) ?_
  intro X e1 e2 e3 e4 e5 e6 hX hC ds n p ⟨b, ar, e, hdp, hsz, har, hp⟩
  subst e e1 e2 e3 e4 e5
  walk_at "up"
  refine stb_cons ?_
  walk_at "go"
  walk_at "up"
  walk_at "go"
  refine st_for hX ?_
  refine ei_enumT hX (by walk_at "mem") m2 ?_
  walk_at "go"
  refine ⟨fun i n' env' => ∃ (acc : List (List Mk)) (s3 s4 : Sl), env' = [.dat (.tup (bdD b)), .dat (arD ar), .lst (acc.map arD), s3, s4] ∧ n' = n ∧ acc ++ unB (dropB i b) i ar = unB b 0 ar, ⟨[], .no, .no, rfl, rfl, rfl⟩, ?_, ?_⟩
  · rintro i d n' env' hi ⟨acc, s3, s4, rfl, rfl, hacc⟩
    obtain ⟨d', hd', rfl⟩ := enumD_get hi
    have hlen : acc.length + (unB (dropB i b) i ar).length = csB b := by rw [← List.length_append, hacc, unB_length]
    have hcs := csB_sz b
    rw [bdD_get] at hd'
    refine eg_tup hX ?_
    refine egs_name (i := 3) hX (by walk_at "lk") (by walk_at "mem") ?_
    refine egs_name (i := 4) hX (by walk_at "lk") (by walk_at "mem") ?_
    refine egs_nil ?_
    walk_at "up"
    walk_at "go"
    have hnx := dropB_succ i b
    cases hb2 : dropB i b with
    | nil => rw [hb2] at hd'; cases hd'
    | u q r =>
      rw [hb2] at hd' hnx hacc hlen
      cases hd'
      have hq := dropB_sz i b
      rw [hb2] at hq
      have hq : q + 1 + szB r ≤ szB b := hq
      refine n_isi (b := true) rfl (by decide +kernel) ?_
      walk_at "go"
      refine ev_extend (i := 2) hX (by walk_at "lk") (by walk_at "mem") ?_
      walk_at "go"
      refine o_repL (by omega) (by show 1 * q ≤ _; omega) ?_
      have hrep : (List.replicate q [arD ar]).flatten = (List.replicate q ar).map arD := by simp
      rw [hrep]
      refine ⟨_, _, rfl, rfl, ?_, ?_⟩
      · rw [List.length_map, List.length_map, List.length_replicate]
        have : (unB (.u q r) i ar).length = q + csB r := unB_length (.u q r) i ar
        omega
      · walk_at "up"
        walk_at "go"
        refine ⟨acc ++ List.replicate q ar, _, _, by rw [List.map_append], rfl, ?_⟩
        rw [hnx, List.append_assoc]
        exact hacc
    | g t b1 r =>
      rw [hb2] at hd' hnx hacc hlen
      cases hd'
      have hq := dropB_sz i b
      rw [hb2] at hq
      have hq : szB b1 + 1 + szB r ≤ szB b := hq
      have hdp1 := dropB_dp i b
      rw [hb2] at hdp1
      have hdp1 : dpB b1 + 1 ≤ dpB b := Nat.le_trans (Nat.le_max_left _ _) hdp1
      have fm := ih (m - 1) (by omega)
      refine n_isi (b := false) rfl (by decide +kernel) ?_
      walk_at "go"
      refine ev_extend (i := 2) hX (by walk_at "lk") (by walk_at "mem") ?_
      refine ev_callD fm hX (by omega) (by walk_at "mem") ?_
      walk_at "go"
      refine o_mulI (.inl ⟨by show _ < ((ar.map mkD).length : Int); omega, by show ((ar.map mkD).length : Int) < _; rw [List.length_map]; omega⟩) ?_
      walk_at "go"
      refine o_addT (by rw [List.length_map]; show ar.length + 1 ≤ _; omega) ?_
      walk_at "go"
      have hmk : D.tup (ar.map mkD ++ [.tup [.str t, .int (((ar.map mkD).length : Int) * 100 + (i : Int))]]) = arD (ar ++ [(t, ar.length * 100 + i)]) := by
        have e1 : (((ar.map mkD).length : Int) * 100 + (i : Int)) = ((ar.length * 100 + i : Nat) : Int) := by rw [List.length_map]; omega
        rw [e1]; show _ = D.tup (List.map mkD (ar ++ [(t, ar.length * 100 + i)])); rw [List.map_append]; rfl
      rw [hmk]
      refine ⟨b1, ar ++ [(t, ar.length * 100 + i)], rfl, by omega, by omega, by rw [List.length_append]; show ar.length + 1 + (m - 1) ≤ 100; omega, ?_⟩
      refine ⟨_, _, rfl, rfl, ?_, ?_⟩
      · rw [List.length_map, List.length_map, unB_length]
        have : (unB (.g t b1 r) i ar).length = csB b1 + csB r := unB_length (.g t b1 r) i ar
        omega
      · walk_at "up"
        walk_at "go"
        refine ⟨acc ++ unB b1 0 (ar ++ [(t, ar.length * 100 + i)]), _, _, by rw [List.map_append], rfl, ?_⟩
        rw [hnx, List.append_assoc]
        exact hacc
  · rintro n' env' ⟨acc, s3, s4, rfl, rfl, hacc⟩
    rw [enumD_length, dropB_len] at hacc
    have hacc : acc = unB b 0 ar := by rw [← hacc]; exact (List.append_nil _).symm
    walk_at "go"
    walk_at "frz"
    rw [hacc]
    exact hp
end
/-! ## E5 -/
section
variable {P : Program} {w : World} {K : PySem.W.Frag} {mg : Str → Option Value} {base : Heap} {C : Addr}
/-! ### is_word -/
abbrev sWord : Stmt := topS 8
theorem scWord : FnScope ["thing", "sign"] ["thing"] (defScope sWord) := ⟨rfl, rfl, rfl, by decide +kernel, rfl, by decide +kernel, by decide +kernel⟩
def lettersS : Str := "abcdefghijklmnopqrstuvwxyz"
def isWordD : D → Bool
  | .str z => decide (1 ≤ z.length) && decide (z.length ≤ 8) && (z.cps.toList.all fun c => decide (c ∈ lettersS.cps.toList))
  | _ => false
def scpWord : Scope := { kind := .function, names := [(".0", .local), ("sign", .local), ("LETTERS", .globalImplicit)], isGenerator := false, isCoroutine := false, more := [] }
def RWord : List D → Nat → (D → Nat → Prop) → Prop := fun ds n p => ∃ d, ds = [d] ∧ (tyD d).isSome = true ∧ (∀ z, d = .str z → z.length ≤ 1000) ∧ p (.bl (isWordD d)) n
theorem ok_word {f : Addr} {fd : FuncData} (F : Fun K "is_word" "is_word" sWord f fd) (hm : mg "is_word" = some (.ref f)) (hb : Binds K fd ["thing"] []) (m1 : mg "isinstance" = none) (m2 : mg "str" = none) (m3 : mg "len" = none) (m4 : mg "all" = none) {uL : Value} (mL : mg "LETTERS" = some uL) (rL : RelV (.str lettersS) uL) : FnD P w K mg base C "is_word" 1 false RWord := by
  refine fnD_of2 (k := 0) [.no] ["thing"] ["isinstance", "str", "len", "all"] [] F hm scWord hb (by decide +kernel) (fun ds n p q h ⟨d, e, t, l, z⟩ => ⟨d, e, t, l, h _ _ z⟩) (fun ds n p ⟨d, e, _⟩ => by subst e; rfl) ?_
  intro X e1 e2 e3 e4 e5 e6 hX hC ds n p ⟨d, e, ht, hlen, hp⟩
  subst e e1 e2 e3 e4 e5
  walk_at "up"
  refine stb_one ?_
  walk_at "go"
  cases d with
  | str z =>
    have hz := hlen z rfl
    refine n_isi (b := true) rfl (by decide +kernel) ?_
    walk_at "go"
    refine n_lenS (by omega) ?_
    walk_at "go"
    cases hd1 : decide ((1 : Int) ≤ (z.length : Int)) with
    | false =>
      walk_at "go"
      have : isWordD (.str z) = false := by
        have h1 : ¬ 1 ≤ z.length := by have := of_decide_eq_false hd1; omega
        show (decide (1 ≤ z.length) && decide (z.length ≤ 8) && _) = false; rw [decide_eq_false h1]; rfl
      rw [← this]; exact hp
    | true =>
      walk_at "go"
      have h1 : decide (1 ≤ z.length) = true := by have := of_decide_eq_true hd1; exact decide_eq_true (by omega)
      cases hd2 : decide ((z.length : Int) ≤ 8) with
      | false =>
        walk_at "go"
        have : isWordD (.str z) = false := by
          have h1 : ¬ z.length ≤ 8 := by have := of_decide_eq_false hd2; omega
          show (decide (1 ≤ z.length) && decide (z.length ≤ 8) && _) = false; rw [decide_eq_false h1]; simp
        rw [← this]; exact hp
      | true =>
        have h2 : decide (z.length ≤ 8) = true := by have := of_decide_eq_true hd2; exact decide_eq_true (by omega)
        walk_at "go"
        refine ev_frz ?_
        refine evr_lcF ["sign"] ["sign"] ["LETTERS"] [] [("sign", 1)] hX hC (by decide +kernel) (by decide +kernel) (fun _ => true) (fun d => match d with | .str s => .bl (decide (s.cps.toList.head?.getD 0 ∈ lettersS.cps.toList)) | d => d) ?_
        refine ei_str ?_
        walk_at "go"
        refine ⟨by show (z.cps.toList.map _).length ≤ 100000; rw [List.length_map, Array.length_toList]; exact Nat.le_trans hz (by decide), rfl, fun d hd => ?_, ?_⟩
        · obtain ⟨c, hc, rfl⟩ := List.mem_map.mp hd
          intro s H0 Cc cl fp hX' hC'
          refine egv_name (i := 1) hX' (by walk_at "lk") (by walk_at "mem") (by decide) ?_
          refine ⟨rfl, ?_⟩
          intro s H0 Cc cl fp hX' hC'
          refine ept_nil ⟨rfl, rfl, rfl, fun _ => ?_⟩
          intro s H0 Cc cl fp hX' hC'
          walk_at "up"
          walk_at "go"
          refine ev_globS hX' (by walk_at "mem") mL rL ?_
          refine o_inS ?_
          exact ⟨rfl, rfl, rfl⟩
        · have hall : ((signsD z).filter fun _ => true).map (fun d => match d with | .str s => D.bl (decide (s.cps.toList.head?.getD 0 ∈ lettersS.cps.toList)) | d => d) = (z.cps.toList.map fun c => decide (c ∈ lettersS.cps.toList)).map .bl := by
            rw [List.filter_eq_self.mpr (fun _ _ => rfl)]
            unfold signsD
            rw [List.map_map, List.map_map]
            rfl
          rw [hall]
          refine ⟨_, rfl, ?_⟩
          walk_at "go"
          refine n_all ?_
          have : isWordD (.str z) = (z.cps.toList.map fun c => decide (c ∈ lettersS.cps.toList)).all id := by
            show (decide (1 ≤ z.length) && decide (z.length ≤ 8) && _) = _
            rw [h1, h2, List.all_map]; rfl
          rw [← this]; exact hp
  | obj _ => cases ht
  | scr _ => cases ht
  | ty _ => cases ht
  | _ => refine n_isi (b := false) rfl (by decide +kernel) ?_; walk_at "go"; exact hp
end
/-! ## E6 -/
section
variable {P : Program} {w : World} {K : PySem.W.Frag} {mg : Str → Option Value} {base : Heap} {C : Addr}
/-! ### _law_inside -/
abbrev sInside : Stmt := topS 38
theorem scInside : FnScope ["_law_units_here", "_law_did", "_law_found", "_law_is_on", "_law_one_here", "_law_other"] ["_law_units_here", "_law_did"] (defScope sInside) := ⟨rfl, rfl, rfl, by decide +kernel, rfl, by decide +kernel, by decide +kernel⟩
def RInside : List D → Nat → (D → Nat → Prop) → Prop := fun ds n p => ∃ (us : List (List Mk)) (j : Nat), ds = [unD us, .int (j : Nat)] ∧ okUs us = true ∧ p (.lst ((insU us j).map .str)) n
theorem ok_inside {f : Addr} {fd : FuncData} (F : Fun K "_law_inside" "_law_inside" sInside f fd) (hm : mg "_law_inside" = some (.ref f)) (hb : Binds K fd ["_law_units_here", "_law_did"] []) (m1 : mg "len" = none) (m2 : mg "list" = none) (m3 : mg "zip" = none) : FnD P w K mg base C "_law_inside" 1 false RInside := by
  refine fnD_of (k := 0) [.no, .no, .no, .no] ["len", "list", "zip"] [] F hm scInside hb (by decide +kernel) (fun ds n p q h ⟨b, ar, e, z1, z⟩ => ⟨b, ar, e, z1, h _ _ z⟩) (fun ds n p ⟨d, ar, e, _⟩ => by subst e; rfl) ?_
  intro X e1 e2 e3 e4 e5 e6 hX hC ds n p ⟨us, j, e, hok, hp⟩
  subst e e1 e2 e3 e4 e5
  unfold okUs at hok
  rw [Bool.and_eq_true] at hok
  obtain ⟨hok, hok2⟩ := hok
  walk_at "up"
  refine stb_cons ?_
  refine st_par2 (i := 2) (j := 3) hX (by walk_at "lk") (by walk_at "lk") (by decide) (by rw [e6]; rfl) (by rw [e6]; rfl) ?_ (by generalize X.env = v at e6 ⊢; cases v; cases e6; rfl)
  walk_at "go"
  -- is_on at the start
  have main : ∀ (on : Bool), on = decide (0 < j ∧ j < us.length) → StB X C ((defBody sInside).drop 1) n [.dat (unD us), .dat (.int (j : Nat)), .lst [], .dat (.bl on), .no, .no] { nx := fun n x => p D.non n, rt := p } := by
    intro on hon
    refine stb_cons ?_
    refine st_for hX ?_
    refine ei_list ?_
    refine ev_if ?_
    refine evt_val (fun _ => rfl) ?_
    walk_at "go"
    cases on with
    | false =>
      refine iteF ?_
      refine ev_frz (evr_lst (ea_nil ⟨[], rfl, Nat.zero_le _, _, rfl, [], rfl, ?_⟩))
      refine ⟨fun i n' env' => n' = n ∧ env' = [.dat (unD us), .dat (.int (j : Nat)), .lst [], .dat (.bl false), .no, .no], ⟨rfl, rfl⟩, fun i d n' env' hd => by simp at hd, ?_⟩
      rintro n' env' ⟨rfl, rfl⟩
      walk_at "go"
      walk_at "frz"
      have : insU us j = [] := by unfold insU; rw [if_neg (of_decide_eq_false hon.symm)]
      rw [this] at hp
      exact hp
    | true =>
      have hj := of_decide_eq_true hon.symm
      obtain ⟨A, hA⟩ : ∃ A, us[j - 1]? = some A := ⟨us[j - 1], by rw [List.getElem?_eq_getElem]⟩
      obtain ⟨B, hB⟩ : ∃ B, us[j]? = some B := ⟨us[j], by rw [List.getElem?_eq_getElem]⟩
      have hins : insU us j = (pfx A B).map (·.1) := by unfold insU; rw [if_pos hj, List.getD_eq_getElem?_getD, List.getD_eq_getElem?_getD, hA, hB]; rfl
      have okA := List.all_eq_true.mp hok A (List.mem_of_getElem? hA)
      have okB := List.all_eq_true.mp hok B (List.mem_of_getElem? hB)
      have lA : A.length ≤ 1000 := of_decide_eq_true (List.all_eq_true.mp hok2 A (List.mem_of_getElem? hA))
      walk_at "go"
      refine ev_frz (evr_listZip hX (by walk_at "mem") m2 (by walk_at "mem") m3 ?_)
      walk_at "go"
      have ej : ((j : Int) - 1) = ((j - 1 : Nat) : Int) := by omega
      rw [ej]
      refine o_ixL (d := arD A) (by rw [List.getElem?_map, hA]; rfl) ?_
      walk_at "go"
      refine o_ixL (d := arD B) (by rw [List.getElem?_map, hB]; rfl) ?_
      walk_at "go"
      refine ⟨_, _, rfl, _, rfl, _, rfl, ?_⟩
      refine ⟨fun i n' env' => n' = n ∧ ∃ s4 s5, env' = [.dat (unD us), .dat (.int (j : Nat)), .lst ((pfx (A.take i) (B.take i)).map fun m => .str m.1), .dat (.bl (decide (A.take i = B.take i))), s4, s5], ⟨rfl, .no, .no, rfl⟩, ?_, ?_⟩
      · rintro i d n' env' hd ⟨rfl, s4, s5, rfl⟩
        obtain ⟨d1, d2, h1, h2, rfl⟩ := zipD_get hd
        rw [List.getElem?_map] at h1 h2
        cases ha : A[i]? with
        | none => rw [ha] at h1; cases h1
        | some x =>
          cases hb' : B[i]? with
          | none => rw [hb'] at h2; cases h2
          | some y =>
            rw [ha] at h1; rw [hb'] at h2
            cases h1; cases h2
            have ilA := (List.getElem?_eq_some_iff.mp ha).1
            have ilB := (List.getElem?_eq_some_iff.mp hb').1
            have tA : A.take (i + 1) = A.take i ++ [x] := by rw [List.take_succ, ha]; rfl
            have tB : B.take (i + 1) = B.take i ++ [y] := by rw [List.take_succ, hb']; rfl
            have okx : okT x.1 = true := List.all_eq_true.mp okA x (List.mem_of_getElem? ha)
            have oky : okT y.1 = true := List.all_eq_true.mp okB y (List.mem_of_getElem? hb')
            have lt : (A.take i).length = (B.take i).length := by rw [List.length_take, List.length_take]; omega
            have hsn := pfx_snoc (A.take i) (B.take i) x y lt
            have lp : (pfx (A.take i) (B.take i)).length ≤ 1000 := by
              have : ∀ a b : List Mk, (pfx a b).length ≤ a.length := by
                intro a
                induction a with
                | nil => intro b; simp [pfx]
                | cons q a ih =>
                  intro b
                  cases b with
                  | nil => simp [pfx]
                  | cons r b =>
                    unfold pfx
                    split
                    · have := ih b; simp only [List.length_cons]; omega
                    · simp
              have h3 := this (A.take i) (B.take i)
              rw [List.length_take] at h3
              omega
            refine eg_tup hX ?_
            refine egs_name (i := 4) hX (by walk_at "lk") (by walk_at "mem") ?_
            refine egs_name (i := 5) hX (by walk_at "lk") (by walk_at "mem") ?_
            refine egs_nil ?_
            walk_at "up"
            refine stb_cons ?_
            refine st_set (i := 3) hX (by walk_at "lk") (by walk_at "mem") (EvR.imp (Q' := fun td n2 env2 => td = .dat (.bl (decide (A.take (i + 1) = B.take (i + 1)))) ∧ n2 = n' ∧ env2 = [.dat (unD us), .dat (.int (j : Nat)), .lst ((pfx (A.take i) (B.take i)).map fun m => .str m.1), .dat (.bl (decide (A.take i = B.take i))), .dat (mkD x), .dat (mkD y)]) ?_ ?_)
            · refine evr_of ?_
              refine ev_and ?_
              walk_at "go"
              cases ht : decide (A.take i = B.take i) with
              | false =>
                refine iteF ?_
                refine ⟨?_, rfl, rfl⟩
                rw [tA, tB, decide_eq_false (fun q => of_decide_eq_false ht (List.append_inj_left q lt))]
              | true =>
                refine iteT ?_
                walk_at "go"
                refine o_eqD 1 (by decide) (okD_mk okx) (okD_mk oky) ?_
                refine ⟨?_, rfl, rfl⟩
                rw [eqv_mk, tA, tB, of_decide_eq_true ht]
                congr 2
                by_cases q : x = y
                · subst q; simp
                · simp [q]
            · rintro td n2 env2 ⟨rfl, rfl, rfl⟩
              walk_at "up"
              refine stb_one ?_
              refine st_expr ?_
              refine ev_extend (i := 2) hX (by walk_at "lk") (by walk_at "mem") ?_
              refine ev_if ?_
              refine evt_val (fun _ => rfl) ?_
              walk_at "go"
              have hiff : A.take (i + 1) = B.take (i + 1) ↔ (A.take i = B.take i ∧ x = y) := by
                rw [tA, tB]
                constructor
                · intro q
                  obtain ⟨q1, q2⟩ := List.append_inj q lt
                  exact ⟨q1, by simpa using q2⟩
                · rintro ⟨q1, q2⟩
                  rw [q1, q2]
              rw [← tA, ← tB] at hsn
              cases hq : decide (A.take (i + 1) = B.take (i + 1)) with
              | false =>
                refine iteF ?_
                rw [if_neg (fun z => of_decide_eq_false hq (hiff.mpr z)), List.append_nil] at hsn
                refine ev_frz (evr_lst (ea_nil ⟨[], rfl, Nat.zero_le _, _, rfl, _, _, rfl, rfl, ?_, ?_⟩))
                · rw [List.length_map]; show _ + 0 ≤ _; omega
                · walk_at "up"
                  refine ⟨rfl, .dat (mkD x), .dat (mkD y), ?_⟩
                  rw [hsn, List.append_nil]
              | true =>
                refine iteT ?_
                rw [if_pos (hiff.mp (of_decide_eq_true hq))] at hsn
                refine ev_frz (evr_lst ?_)
                walk_at "go"
                refine ⟨_, _, rfl, rfl, ?_, ?_⟩
                · rw [List.length_map]; show _ + 1 ≤ _; omega
                · walk_at "up"
                  refine ⟨rfl, .dat (mkD x), .dat (mkD y), ?_⟩
                  rw [hsn, List.map_append]
                  rfl
      · rintro n' env' ⟨rfl, s4, s5, rfl⟩
        walk_at "go"
        walk_at "frz"
        rw [zipD_length, List.length_map, List.length_map, pfx_take]
        rw [hins, List.map_map] at hp
        exact hp
  cases h0 : decide ((0 : Int) < (j : Int)) with
  | false =>
    refine iteF ?_
    refine main false ?_
    rw [decide_eq_false]
    intro q
    have := of_decide_eq_false h0
    omega
  | true =>
    refine iteT ?_
    iterate 7 walk_at "one"
    refine main _ ?_
    have := of_decide_eq_true h0
    rw [List.length_map]
    by_cases q : j < us.length
    · rw [decide_eq_true (show (j : Int) < (us.length : Int) by omega), decide_eq_true ⟨by omega, q⟩]
    · rw [decide_eq_false (show ¬ (j : Int) < (us.length : Int) by omega), decide_eq_false (fun z => q z.2)]
end
/-! ## E7 -/
theorem EvT.imp {X : Cx} {C : Addr} {e : Expr} {n : Nat} {env : En} {QT Q' : QB} (h : EvT X C e n env Q') (hq : ∀ b n' env', Q' b n' env' → QT b n' env') : EvT X C e n env QT := fun B ts σ H R S q =>
  h B ts σ H R S fun b H' n' env' z S' => q b H' n' env' (hq _ _ _ z) S'
section
variable {P : Program} {w : World} {K : PySem.W.Frag} {mg : Str → Option Value} {base : Heap} {C : Addr}
/-! ### _law_body -/
abbrev sBody : Stmt := topS 32
theorem scBody : FnScope ["_law_pool_here", "_law_things", "_law_deep", "_law_found", "_law_k", "_law_thing", "_law_left", "_law_one_here"] ["_law_pool_here", "_law_things", "_law_deep"] (defScope sBody) := ⟨rfl, rfl, rfl, by decide +kernel, rfl, by decide +kernel, by decide +kernel⟩
def bodyCost : Nat → Nat
  | 0 => 2
  | 1 => 10
  | _ => 40
def bodySz : Nat → Nat
  | 0 => 4
  | 1 => 10
  | _ => 33
/-- m levels below -/
def RBody (m : Nat) : List D → Nat → (D → Nat → Prop) → Prop := fun ds n p => ∃ (ts : List Str), ds = [.lst (ts.map .str), .int ((2 - m : Nat) : Int)] ∧ m ≤ 2 ∧ ts.length ≤ 10 ∧ (∀ t ∈ ts, okT t = true) ∧ (m = 0 → ts = []) ∧ bodyCost m ≤ n ∧
  ∀ (b : Bd) n', b ≠ .nil → wfB b m ts → szB b ≤ bodySz m → n ≤ n' + bodyCost m → p (.tup (bdD b)) n'
theorem ok_body {f : Addr} {fd : FuncData} (F : Fun K "_law_body" "_law_body" sBody f fd) (hm : mg "_law_body" = some (.ref f)) (hb : Binds K fd ["_law_pool_here", "_law_things", "_law_deep"] []) (m1 : mg "range" = none) (m2 : mg "tuple" = none) (f1 : FnD P w K mg base C "_law_take" 1 true RTake) (f2 : FnD P w K mg base C "_law_one" 2 true ROne) : ∀ m, FnD P w K mg base C "_law_body" (m + 3) true (RBody m) := by
  intro m
  induction m using Nat.strongRecOn with
  | _ m ih =>
  refine fnD_of2 (k := m + 2) [.no, .no, .no, .no, .no] ["_law_pool_here", "_law_things", "_law_deep", "_law_found", "_law_k", "_law_thing", "_law_left"] ["_law_take", "_law_one", "_law_body", "range", "tuple"] ["_law_thing"] F hm scBody hb (by decide +kernel) (fun ds n p q h ⟨ts, e, z0, z1, z2, z3, z4, z⟩ => ⟨ts, e, z0, z1, z2, z3, z4, fun b n' c1 c2 c3 c4 => h _ _ (z b n' c1 c2 c3 c4)⟩) (fun ds n p ⟨ts, e, _⟩ => by subst e; rfl) ?_
  intro X e1 e2 e3 e4 e5 e6 hX hC ds n p ⟨ts, e, hm2, hlt, hok, hz, hn, hp⟩
  subst e e1 e2 e3 e4 e5
  walk_at "up"
  refine stb_cons ?_
  walk_at "go"
  walk_at "up"
  refine st_for hX ?_
  refine ei_range1 hX (by walk_at "mem") m1 ?_
  walk_at "go"
  obtain ⟨pc, psz, k1, k2, k3, k4, k5⟩ : ∃ pc psz, 1 + (m + 1) * pc ≤ bodyCost m ∧ (m + 1) * psz ≤ bodySz m ∧ 4 ≤ psz ∧ (0 < m → bodySz (m - 1) + 1 ≤ psz ∧ 2 + bodyCost (m - 1) ≤ pc) ∧ 1 ≤ pc ∧ (0 < m → 2 ≤ pc) := by
    rcases (show m = 0 ∨ m = 1 ∨ m = 2 by omega) with rfl | rfl | rfl
    · exact ⟨1, 4, by decide, by decide, by decide, fun h => absurd h (by decide), by decide, fun h => absurd h (by decide)⟩
    · exact ⟨4, 5, by decide, by decide, by decide, fun _ => by decide, by decide, fun _ => by decide⟩
    · exact ⟨12, 11, by decide, by decide, by decide, fun _ => by decide, by decide, fun _ => by decide⟩
  have e3m : (3 : Int) - ((2 - m : Nat) : Int) = ((m + 1 : Nat) : Int) := by omega
  rw [e3m]
  have k1' : 1 + (m + 1) * pc ≤ n := Nat.le_trans k1 hn
  refine ⟨m + 1, rfl, by omega, by omega, by omega, fun j hj => ?_⟩
  walk_at "go"
  refine ⟨by omega, by omega, ?_⟩
  have eq : ((1 : Int) + (j : Int)).toNat = j + 1 := by omega
  rw [eq]
  refine ⟨fun i n' env' => ∃ (b0 : Bd) (s4 s5 s6 : Sl), env' = [.pool, .dat (.lst (ts.map .str)), .dat (.int ((2 - m : Nat) : Int)), .lst (bdD b0), s4, s5, s6, .no] ∧ wfB b0 m ts ∧ (bdD b0).length = i ∧ szB b0 ≤ i * psz ∧ n ≤ n' + 1 + i * pc, ⟨.nil, .no, .no, .no, rfl, trivial, rfl, by show 0 ≤ _; omega, by omega⟩, ?_, ?_⟩
  · rintro i d n' env' hd ⟨b0, s4, s5, s6, rfl, hwf, hl, hsz, hn'⟩
    have hi : i < j + 1 := by
      have := (List.getElem?_eq_some_iff.mp hd).1
      unfold rangeD at this
      rw [List.length_map, List.length_range] at this
      exact this
    have him : (i + 1) * pc ≤ (m + 1) * pc := Nat.mul_le_mul_right _ (by omega)
    have him2 : (i + 1) * psz ≤ (m + 1) * psz := Nat.mul_le_mul_right _ (by omega)
    have e1 : (i + 1) * pc = i * pc + pc := Nat.succ_mul _ _
    have e2 : (i + 1) * psz = i * psz + psz := Nat.succ_mul _ _
    have hsz33 : bodySz m ≤ 33 := by
      rcases (show m = 0 ∨ m = 1 ∨ m = 2 by omega) with rfl | rfl | rfl <;> decide
    have hl0 : (bdD b0).length < 100000 := by have := bdD_sz b0; omega
    have hn1 : pc ≤ n' := by omega
    refine eg_name (i := 4) hX (by walk_at "lk") (by walk_at "mem") ?_
    walk_at "up"
    refine stb_one ?_
    refine st_if ?_
    refine EvT.imp (Q' := fun kk n2 env2 => (kk = true → 0 < m ∧ 0 < ts.length) ∧ n' ≤ n2 + 1 ∧ n2 ≤ n' ∧ (n2 = n' ∨ 0 < m) ∧ env2 = [.pool, .dat (.lst (ts.map .str)), .dat (.int ((2 - m : Nat) : Int)), .lst (bdD b0), .dat d, s5, s6, .no]) ?_ ?_
    · refine evt_of ?_
      refine evw_and ?_
      walk_at "go"
      refine o_neNil (List.all_eq_true.mpr fun x hx => by obtain ⟨t, ht, rfl⟩ := List.mem_map.mp hx; exact hok t ht) ?_
      refine ⟨_, rfl, ?_⟩
      cases hts : ts with
      | nil =>
        refine iteF ?_
        exact ⟨(fun h => nomatch h), by omega, Nat.le_refl _, .inl rfl, rfl⟩
      | cons t0 tr =>
        have hm0 : 0 < m := by
          rcases Nat.eq_zero_or_pos m with h | h
          · rw [hz h] at hts; cases hts
          · exact h
        have := k5.2 hm0
        refine iteT ?_
        walk_at "go"
        refine ⟨2, rfl, by omega, by omega, by omega, fun j2 hj2 => ?_⟩
        walk_at "go"
        exact ⟨fun _ => ⟨hm0, Nat.succ_pos _⟩, by omega, by omega, .inr hm0, rfl⟩
    · rintro kk n2 env2 ⟨hk, c1, c2, c3, rfl⟩
      have hn2 : 1 ≤ n2 := by
        rcases c3 with rfl | h
        · omega
        · have := k5.2 h; omega
      have hn3 : n' ≤ n2 + (pc - 1) := by
        rcases c3 with rfl | h
        · omega
        · have := k5.2 h; omega
      cases kk with
      | false =>
        refine iteF ?_
        refine stb_one ?_
        walk_at "go"
        refine ev_append (i := 3) hX (by walk_at "lk") (by walk_at "mem") ?_
        walk_at "go"
        refine ⟨3, rfl, by omega, by omega, by omega, fun j2 hj2 => ?_⟩
        walk_at "go"
        refine ⟨_, rfl, hl0, ?_⟩
        walk_at "up"
        have ej : ((1 : Int) + (j2 : Int)) = ((j2 + 1 : Nat) : Int) := by omega
        refine ⟨appB b0 (.u (j2 + 1) .nil), .dat d, s5, s6, ?_, wfB_app _ _ hwf (wfB_u (by omega) (by omega)), ?_, ?_, ?_⟩
        · rw [bdD_app, ej]; rfl
        · rw [bdD_app, List.length_append, hl]; rfl
        · rw [szB_app]; show szB b0 + (j2 + 1 + 1 + 0) ≤ _; omega
        · omega
      | true =>
        obtain ⟨hm0, hts⟩ := hk rfl
        obtain ⟨q1, q2⟩ := k4 hm0
        refine iteT ?_
        refine stb_cons ?_
        walk_at "go"
        refine ⟨ts.map .str, rfl, by simpa using hts, by rw [List.length_map]; omega, by omega, fun jj dd hdd => ?_⟩
        rw [List.getElem?_map] at hdd
        cases htt : ts[jj]? with
        | none => rw [htt] at hdd; cases hdd
        | some t =>
          rw [htt] at hdd
          cases hdd
          have htm : t ∈ ts := List.mem_of_getElem? htt
          walk_at "up"
          refine stb_cons ?_
          refine st_set (i := 6) hX (by walk_at "lk") (by walk_at "mem") (EvR.imp (Q' := fun td n3 env3 => td = .dat (.lst ((if m = 2 then ts.filter (fun x => !decide (x = t)) else []).map .str)) ∧ n3 = n2 - 1 ∧ env3 = [.pool, .dat (.lst (ts.map .str)), .dat (.int ((2 - m : Nat) : Int)), .lst (bdD b0), .dat d, .dat (.str t), s6, .no]) ?_ ?_)
          · refine evr_of ?_
            refine ev_if ?_
            walk_at "go"
            by_cases h2 : m = 2
            · subst h2
              refine iteT ?_
              refine ev_frz ?_
              refine evr_lcF ["_law_one_here", "_law_thing"] ["_law_one_here"] [] ["_law_thing"] [("_law_one_here", 7)] hX hC (by decide +kernel) (by decide +kernel) (fun d => match d with | .str s => !decide (s = t) | _ => true) id ?_
              refine ei_list ?_
              walk_at "go"
              refine ⟨by rw [List.length_map]; omega, rfl, fun d' hd' => ?_, ?_⟩
              · obtain ⟨c, hc, rfl⟩ := List.mem_map.mp hd'
                intro s H0 Cc cl fp hX' hC'
                refine egv_name (i := 7) hX' (by walk_at "lk") (by walk_at "mem") (by decide) ?_
                refine ⟨rfl, ?_⟩
                intro s H0 Cc cl fp hX' hC'
                walk_at "up"
                refine ept_one ?_
                walk_at "go"
                refine ⟨rfl, rfl, rfl, fun _ => ?_⟩
                intro s H0 Cc cl fp hX' hC'
                walk_at "go"
                exact ⟨rfl, rfl, rfl⟩
              · refine ⟨_, rfl, ?_, rfl, rfl⟩
                rw [if_pos rfl, List.map_id, List.filter_map]
                rfl
            · have : decide (((2 - m : Nat) : Int) < 1) = false := decide_eq_false (by omega)
              rw [this]
              refine iteF ?_
              rw [if_neg h2]
              walk_at "go"
              exact ⟨rfl, rfl, rfl⟩
          · rintro td n3 env3 ⟨rfl, rfl, rfl⟩
            walk_at "up"
            refine stb_one ?_
            walk_at "go"
            refine ev_append (i := 3) hX (by walk_at "lk") (by walk_at "mem") ?_
            have fm := ih (m - 1) (by omega)
            refine ev_tup ?_
            walk_at "go"
            have ed : (((2 - m : Nat) : Int) + 1) = ((2 - (m - 1) : Nat) : Int) := by omega
            rw [ed]
            generalize hleft : (if m = 2 then ts.filter (fun x => !decide (x = t)) else []) = left
            have hls : ∀ x ∈ left, x ∈ ts.filter (fun x => !decide (x = t)) := fun x hx => by
              rw [← hleft] at hx
              split at hx
              · exact hx
              · simp at hx
            have hll : left.length ≤ ts.length := by
              rw [← hleft]
              split
              · exact List.length_filter_le _ _
              · exact Nat.zero_le _
            refine ⟨left, rfl, by omega, by omega, fun x hx => hok x (List.mem_filter.mp (hls x hx)).1, fun h => by rw [← hleft, if_neg (by omega)], by omega, fun b1 n4 g1 g2 g3 g4 => ?_⟩
            walk_at "go"
            refine ⟨_, rfl, hl0, ?_⟩
            walk_at "up"
            refine ⟨appB b0 (.g t b1 .nil), .dat d, .dat (.str t), .dat (.lst (left.map .str)), ?_, wfB_app _ _ hwf ⟨hm0, htm, g1, wfB_mono b1 g2 hls, trivial⟩, ?_, ?_, ?_⟩
            · rw [bdD_app]; rfl
            · rw [bdD_app, List.length_append, hl]; rfl
            · rw [szB_app]; show szB b0 + (szB b1 + 1 + 0) ≤ _; omega
            · omega
  · rintro n' env' ⟨b0, s4, s5, s6, rfl, hwf, hl, hsz, hn'⟩
    have hrl : (rangeD 0 (j + 1)).length = j + 1 := by unfold rangeD; rw [List.length_map, List.length_range]
    rw [hrl] at hl hsz hn'
    have him : (j + 1) * pc ≤ (m + 1) * pc := Nat.mul_le_mul_right _ (by omega)
    have him2 : (j + 1) * psz ≤ (m + 1) * psz := Nat.mul_le_mul_right _ (by omega)
    walk_at "go"
    walk_at "frz"
    walk_at "go"
    refine hp b0 n' (fun z => by subst z; cases hl) hwf (by omega) (by omega)
end
/-! ## E8 -/
section
variable {P : Program} {w : World} {K : PySem.W.Frag} {mg : Str → Option Value} {base : Heap} {C : Addr}
theorem words7_ok : ∀ w ∈ words7, isWordD (.str w) = true ∧ okT w = true := by decide +kernel
theorem things3_ok : ∀ w ∈ things3, isWordD (.str w) = true ∧ okT w = true := by decide +kernel
/-! ### _law_jobs -/
abbrev sJobs : Stmt := topS 33
theorem scJobs : FnScope ["_law_pool_here", "_law_many", "_law_words", "_law_order", "_law_found", "_law_word", "_law_priority", "_law_body_here", "_law_cost"] ["_law_pool_here", "_law_many"] (defScope sJobs) := ⟨rfl, rfl, rfl, by decide +kernel, rfl, by decide +kernel, by decide +kernel⟩
def RJobs : List D → Nat → (D → Nat → Prop) → Prop := fun ds n p => ∃ m : Nat, ds = [.int (m : Int)] ∧ 2 ≤ m ∧ m ≤ 4 ∧ 200 ≤ n ∧ ∀ js n', OkJs js → js.length = m → n ≤ n' + 200 → p (jobsD js) n'
theorem ok_jobs {f : Addr} {fd : FuncData} (F : Fun K "_law_jobs" "_law_jobs" sJobs f fd) (hm : mg "_law_jobs" = some (.ref f)) (hb : Binds K fd ["_law_pool_here", "_law_many"] []) (m1 : mg "zip" = none) (m2 : mg "len" = none) (f1 : FnD P w K mg base C "_law_take" 1 true RTake) (f2 : FnD P w K mg base C "_law_mixed" 2 true RMixed) (f3 : FnD P w K mg base C "_law_body" 5 true (RBody 2)) (f4 : FnD P w K mg base C "_law_units" 3 false (RUnits 2)) : FnD P w K mg base C "_law_jobs" 6 true RJobs := by
  refine fnD_of (k := 5) [.no, .no, .no, .no, .no, .no, .no] ["_law_take", "_law_mixed", "_law_body", "_law_units", "zip", "len"] [] F hm scJobs hb (by decide +kernel) (fun ds n p q h ⟨m, e, a, b, c, z⟩ => ⟨m, e, a, b, c, fun js n' c1 c2 c3 => h _ _ (z js n' c1 c2 c3)⟩) (fun ds n p ⟨ts, e, _⟩ => by subst e; rfl) ?_
  intro X e1 e2 e3 e4 e5 e6 hX hC ds n p ⟨m, e, hm1, hm2, hn, hp⟩
  subst e e1 e2 e3 e4 e5
  walk_at "up"
  refine stb_cons ?_
  refine st_set (i := 2) hX (by walk_at "lk") (by walk_at "mem") (EvR.imp (Q' := fun td n1 env1 => ∃ ws : List Str, ws.length = m ∧ ws.Nodup ∧ (∀ x ∈ ws, x ∈ words7) ∧ td = .dat (.lst (ws.map .str)) ∧ n1 = n - 7 ∧ env1 = [.pool, .dat (.int (m : Int)), .no, .no, .no, .no, .no, .no, .no]) ?_ ?_)
  · refine evr_of ?_
    refine ev_sliceTo ?_
    walk_at "go"
    refine ⟨words7.map .str, rfl, by decide +kernel, by decide, by show 7 ≤ n; omega, fun ys hys => ?_⟩
    obtain ⟨ws, hws, hpm⟩ := perm_map_inv hys words7 rfl
    subst hws
    refine ⟨_, rfl, ?_⟩
    walk_at "go"
    refine ⟨m, rfl, ws.take m, ?_, ?_, ?_, ?_, rfl, rfl⟩
    · rw [List.length_take, hpm.length_eq]; show min m 7 = m; omega
    · exact (List.take_sublist m ws).nodup (hpm.nodup_iff.mpr (by decide +kernel))
    · exact fun x hx => hpm.mem_iff.mp (List.mem_of_mem_take hx)
    · rw [List.map_take]
  · rintro td n1 env1 ⟨ws, w1, w2, w3, rfl, rfl, rfl⟩
    walk_at "up"
    refine stb_cons ?_
    refine st_par2 (i := 3) (j := 4) hX (by walk_at "lk") (by walk_at "lk") (by decide) (by rw [e6]; rfl) (by rw [e6]; rfl) ?_ (by generalize X.env = v at e6 ⊢; cases v; cases e6; rfl)
    refine EvR.imp (Q' := fun td n1 env1 => ∃ ps : List Nat, ps.length = m ∧ ps.Nodup ∧ (∀ x ∈ ps, 1 ≤ x ∧ x ≤ 20) ∧ td = .dat (.lst (ps.map fun (q : Nat) => D.int (q : Nat))) ∧ n1 = n - 15 ∧ env1 = [.pool, .dat (.int (m : Int)), .dat (.lst (ws.map .str)), .no, .no, .no, .no, .no, .no]) ?_ ?_
    · refine evr_of ?_
      refine ev_sliceTo ?_
      walk_at "go"
      refine ⟨([1, 2, 3, 4, 5, 7, 9, 20] : List Nat).map fun (q : Nat) => D.int (q : Nat), rfl, by decide +kernel, by decide, by show 8 ≤ n - 7; omega, fun ys hys => ?_⟩
      obtain ⟨ps, hps, hpm⟩ := perm_map_inv hys _ rfl
      subst hps
      refine ⟨_, rfl, ?_⟩
      walk_at "go"
      refine ⟨m, rfl, ps.take m, ?_, ?_, ?_, ?_, by show n - 7 - 8 = n - 15; omega, rfl⟩
      · rw [List.length_take, hpm.length_eq]; show min m 8 = m; omega
      · exact (List.take_sublist m ps).nodup (hpm.nodup_iff.mpr (by decide +kernel))
      · exact fun x hx => (by decide : ∀ x ∈ ([1, 2, 3, 4, 5, 7, 9, 20] : List Nat), 1 ≤ x ∧ x ≤ 20) x (hpm.mem_iff.mp (List.mem_of_mem_take hx))
      · rw [List.map_take]
    · rintro td n1 env1 ⟨ps, q1, q2, q3, rfl, rfl, rfl⟩
      refine evr_dict0 ?_
      walk_at "up"
      refine stb_cons ?_
      refine st_for hX ?_
      refine ei_zip hX (by walk_at "mem") m1 ?_
      walk_at "go"
      refine ⟨_, _, .inr rfl, ?_⟩
      refine ⟨fun i n' env' => ∃ (js : List Jb) (s5 s6 s7 s8 : Sl), env' = [.pool, .dat (.int (m : Int)), .dat (.lst (ws.map .str)), .dat (.lst (ps.map fun (q : Nat) => D.int (q : Nat))), .dct (js.map jkv), s5, s6, s7, s8] ∧ js.map (·.nm) = ws.take i ∧ js.map (·.pr) = ps.take i ∧ (∀ j ∈ js, OkJ j) ∧ n ≤ n' + 15 + i * 42, ⟨[], .no, .no, .no, .no, rfl, rfl, rfl, (fun _ h => nomatch h), by omega⟩, ?_, ?_⟩
      · rintro i d n' env' hd ⟨js, s5, s6, s7, s8, rfl, g1, g2, g3, g4⟩
        obtain ⟨d1, d2, h1, h2, rfl⟩ := zipD_get hd
        rw [List.getElem?_map] at h1 h2
        cases hw : ws[i]? with
        | none => rw [hw] at h1; cases h1
        | some x =>
          cases hp' : ps[i]? with
          | none => rw [hp'] at h2; cases h2
          | some y =>
            rw [hw] at h1; rw [hp'] at h2
            cases h1; cases h2
            have ilw := (List.getElem?_eq_some_iff.mp hw).1
            refine eg_tup hX ?_
            refine egs_name (i := 5) hX (by walk_at "lk") (by walk_at "mem") ?_
            refine egs_name (i := 6) hX (by walk_at "lk") (by walk_at "mem") ?_
            refine egs_nil ?_
            walk_at "up"
            refine stb_cons ?_
            walk_at "go"
            have hc5 : n ≤ n' + 15 + i * 42 := g4
            have hi4 : i < 4 := by omega
            refine ⟨things3, rfl, by decide, by decide, fun t ht => (things3_ok t ht).2, fun h => absurd h (by decide), by show 40 ≤ n'; omega, fun b n4 c1 c2 c3 c4 => ?_⟩
            have c4 : n' ≤ n4 + 40 := c4
            have c3 : szB b ≤ 33 := c3
            have hcs := csB_sz b
            walk_at "up"
            walk_at "go"
            refine ⟨b, [], rfl, wfB_dp b c2, by omega, by decide, ?_⟩
            walk_at "go"
            walk_at "up"
            refine st_asg ?_ (by generalize X.env = v at e6 ⊢; cases v; cases e6; rfl) (by generalize X.env = v at e6 ⊢; cases v; cases e6; rfl)
            have hlu : (List.map arD (unB b 0 [])).length = csB b := by rw [List.length_map, unB_length]
            rw [hlu]
            walk_at "go"
            refine ⟨6, rfl, by decide, by decide, by omega, fun t6 ht6 => ?_⟩
            walk_at "go"
            refine ⟨m, rfl, by omega, by omega, by omega, fun tm htm => ?_⟩
            walk_at "go"
            refine o_mulI (.inl ⟨by omega, by omega⟩) ?_
            walk_at "go"
            have ed : (1 + (t6 : Int) + (csB b : Int) * (1 + (tm : Int))) = ((1 + t6 + csB b * (1 + tm) : Nat) : Int) := by simp [Int.natCast_add, Int.natCast_mul]
            rw [ed]
            refine eg_putK (i := 4) hX (by walk_at "lk") (by walk_at "mem") ?_
            walk_at "go"
            have hmul1 : csB b * 1 ≤ csB b * (1 + tm) := Nat.mul_le_mul_left _ (by omega)
            have hmul2 : csB b * (1 + tm) ≤ 33 * 4 := Nat.mul_le_mul (by omega) (by omega)
            have hln : js.length = i := by have := congrArg List.length g1; rw [List.length_map, List.length_take] at this; omega
            refine ⟨x, _, rfl, rfl, by rw [List.length_map]; omega, ?_⟩
            have hnew : x ∉ (js.map jkv).map (·.1) := by
              have e : (js.map jkv).map (·.1) = ws.take i := by rw [← g1, List.map_map]; rfl
              rw [e]
              intro hx
              have := (List.nodup_append.mp ((List.take_append_drop i ws).symm ▸ w2)).2.2
              refine this x hx x ?_ rfl
              rw [List.mem_iff_getElem?]
              exact ⟨0, by rw [List.getElem?_drop]; simpa using hw⟩
            rw [putD_new hnew]
            walk_at "up"
            refine stb_nil ?_
            refine ⟨js ++ [⟨x, y, 1 + t6 + csB b * (1 + tm), b⟩], .dat (.str x), .dat (.int (y : Nat)), .dat (.tup (bdD b)), .dat (.int (csB b : Nat)), by rw [List.map_append]; rfl, ?_, ?_, ?_, by omega⟩
            · rw [List.map_append, g1, List.take_succ, hw]; rfl
            · rw [List.map_append, g2, List.take_succ, hp']; rfl
            · intro j hj
              rcases List.mem_append.mp hj with hj | hj
              · exact g3 j hj
              · rw [List.mem_singleton.mp hj]
                have hy := q3 y (List.mem_of_getElem? hp')
                exact ⟨c1, c2, c3, by show csB b + 1 ≤ 1 + t6 + csB b * (1 + tm); omega, by show 1 + t6 + csB b * (1 + tm) ≤ 200; omega, hy.1, hy.2, w3 x (List.mem_of_getElem? hw)⟩
      · rintro n' env' ⟨js, s5, s6, s7, s8, rfl, g1, g2, g3, g4⟩
        rw [zipD_length, List.length_map, List.length_map, w1, q1, Nat.min_self] at g1 g2 g4
        rw [List.take_of_length_le (by omega)] at g1 g2
        have hl : js.length = m := by rw [← w1, ← g1, List.length_map]
        have := Nat.mul_le_mul_right 42 hm2
        walk_at "go"
        walk_at "frz"
        exact hp js n' ⟨g3, by rw [g1]; exact w2, by rw [g2]; exact q2, by omega, by omega⟩ hl (by omega)
end
/-! ## E9 -/
section
variable {P : Program} {w : World} {K : PySem.W.Frag} {mg : Str → Option Value} {base : Heap} {C : Addr}
theorem things3_okT : ∀ t ∈ things3, okT t = true := fun t ht => (things3_ok t ht).2
/-! ### _law_ceilings -/
abbrev sCeils : Stmt := topS 37
theorem scCeils : FnScope ["_law_jobs_here", "_law_found", "_law_priority", "_law_distance", "_law_body_here", "_law_around", "_law_mark"] ["_law_jobs_here"] (defScope sCeils) := ⟨rfl, rfl, rfl, by decide +kernel, rfl, by decide +kernel, by decide +kernel⟩
def RCeils : List D → Nat → (D → Nat → Prop) → Prop := fun ds n p => ∃ js : List Jb, ds = [jobsD js] ∧ OkJs js ∧ ∀ ks : List (Str × D), (ks.map (·.1)).Nodup → (∀ t, getK t ks = oI (ceilO js t)) → p (.dct ks) n
theorem length_mergeD : ∀ (ls ks : List (Str × D)), (mergeD ks ls).length ≤ ks.length + ls.length
  | [], ks => Nat.le_refl _
  | p :: ls, ks => by
    have h1 := length_mergeD ls (putD ks p.1 p.2)
    have h2 := length_putD ks p.1 p.2
    show (mergeD (putD ks p.1 p.2) ls).length ≤ _
    rw [List.length_cons]; omega
theorem ok_ceils {f : Addr} {fd : FuncData} (F : Fun K "_law_ceilings" "_law_ceilings" sCeils f fd) (hm : mg "_law_ceilings" = some (.ref f)) (hb : Binds K fd ["_law_jobs_here"] []) (m1 : mg "dict" = none) (m2 : mg "max" = none) (f4 : FnD P w K mg base C "_law_units" 3 false (RUnits 2)) : FnD P w K mg base C "_law_ceilings" 4 false RCeils := by
  refine fnD_of2 (k := 3) [.no, .no, .no, .no, .no, .no] ["_law_jobs_here", "_law_found", "_law_priority", "_law_distance", "_law_body_here", "_law_around"] ["_law_units", "dict"] ["_law_found", "_law_priority"] F hm scCeils hb (by decide +kernel) (fun ds n p q h ⟨js, e, a, z⟩ => ⟨js, e, a, fun ks c1 c2 => h _ _ (z ks c1 c2)⟩) (fun ds n p ⟨ts, e, _⟩ => by subst e; rfl) ?_
  intro X e1 e2 e3 e4 e5 e6 hX hC ds n p ⟨js, e, hjs, hp⟩
  subst e e1 e2 e3 e4 e5
  walk_at "up"
  refine stb_cons ?_
  walk_at "go"
  walk_at "up"
  refine st_forK .vals hX (da_name (i := 0) hX (by walk_at "lk") (by walk_at "mem")) pk_vals ?_
  refine ⟨fun i n' env' => ∃ (ks : List (Str × D)) (s2 s3 s4 s5 : Sl), env' = [.dat (jobsD js), .dct ks, s2, s3, s4, s5, .no] ∧ n' = n ∧ (ks.map (·.1)).Nodup ∧ ks.length ≤ 100 * i ∧ ∀ t, getK t ks = oI (ceilO (js.take i) t), ⟨[], .no, .no, .no, .no, rfl, rfl, by simp, by simp, fun t => rfl⟩, ?_, ?_⟩
  · rintro i d n' env' hd ⟨ks, s2, s3, s4, s5, rfl, rfl, h1, h2, h3⟩
    have hd : ((js.map jkv).map fun p => p.2)[i]? = some d := hd
    rw [List.map_map, List.getElem?_map] at hd
    cases hj : js[i]? with
    | none => rw [hj] at hd; cases hd
    | some j =>
      rw [hj] at hd
      cases hd
      have okj := hjs.ok j (List.mem_of_getElem? hj)
      have hil := (List.getElem?_eq_some_iff.mp hj).1
      have hl4 := hjs.l2
      have tk : js.take (i + 1) = js.take i ++ [j] := by rw [List.take_succ, hj]; rfl
      refine eg_tup hX ?_
      refine egs_name (i := 2) hX (by walk_at "lk") (by walk_at "mem") ?_
      refine egs_name (i := 3) hX (by walk_at "lk") (by walk_at "mem") ?_
      refine egs_name (i := 4) hX (by walk_at "lk") (by walk_at "mem") ?_
      refine egs_nil ?_
      walk_at "up"
      refine stb_one ?_
      refine st_for hX ?_
      refine ei_list ?_
      walk_at "go"
      refine ⟨j.bd, [], rfl, wfB_dp j.bd okj.wf, by have := okj.sz; omega, by decide, ?_⟩
      refine ⟨_, rfl, ?_⟩
      refine ⟨fun q n1 env1 => ∃ (ks1 : List (Str × D)) (s5 : Sl), env1 = [.dat (jobsD js), .dct ks1, .dat (.int (j.pr : Nat)), .dat (.int (j.ds : Nat)), .dat (.tup (bdD j.bd)), s5, .no] ∧ n1 = n' ∧ (ks1.map (·.1)).Nodup ∧ ks1.length ≤ 100 * i + 2 * q ∧ ∀ t, getK t ks1 = oI (if (∃ u ∈ (usJ j).take q, t ∈ u.map (·.1)) then some (max j.pr ((ceilO (js.take i) t).getD 0)) else ceilO (js.take i) t), ⟨ks, s5, rfl, rfl, h1, by omega, fun t => by rw [h3]; simp⟩, ?_, ?_⟩
      · rintro q d1 n1 env1 hd1 ⟨ks1, s5', rfl, rfl, g1, g2, g3⟩
        rw [List.getElem?_map] at hd1
        cases hu : (usJ j)[q]? with
        | none => rw [hu] at hd1; cases hd1
        | some ar =>
          rw [hu] at hd1
          cases hd1
          have har := (unB_ok j.bd okj.wf 0 [] ar (List.mem_of_getElem? hu)).1
          have har : ar.length ≤ 2 := by simpa using har
          have hq := (List.getElem?_eq_some_iff.mp hu).1
          have hq2 : q < csB j.bd := by rw [unB_length] at hq; exact hq
          have hcs := csB_sz j.bd
          have hsz := okj.sz
          refine eg_name (i := 5) hX (by walk_at "lk") (by walk_at "mem") ?_
          walk_at "up"
          refine stb_one ?_
          refine st_expr ?_
          refine ev_upd (i := 1) hX (by walk_at "lk") (by walk_at "mem") ?_
          refine ev_frz (evr_dict1 hX m1 (by walk_at "mem") ?_)
          refine evr_lcF ["_law_mark", "_law_found", "_law_priority"] ["_law_mark"] ["max"] ["_law_found", "_law_priority"] [("_law_mark", 6)] hX hC (by decide +kernel) (by decide +kernel) (fun _ => true) (fun d => match d with | .tup (.str t :: _) => .tup [.str t, .int (max j.pr (((ceilO (js.take i) t).getD 0)) : Nat)] | d => d) ?_
          refine ei_tup ?_
          walk_at "go"
          refine ⟨by rw [List.length_map]; omega, rfl, fun d hd => ?_, ?_⟩
          · obtain ⟨x, hx, rfl⟩ := List.mem_map.mp hd
            intro s H0 Cc cl fp hX' hC'
            refine egv_name (i := 6) hX' (by walk_at "lk") (by walk_at "mem") (by decide) ?_
            refine ⟨rfl, ?_⟩
            intro s H0 Cc cl fp hX' hC'
            refine ept_nil ⟨rfl, rfl, rfl, fun _ => ?_⟩
            intro s H0 Cc cl fp hX' hC'
            walk_at "up"
            walk_at "go"
            refine ev_lookX "_law_found" 1 hX' (by walk_at "lk") rfl ?_
            walk_at "up"
            refine ev_get2 hX' ⟨rfl, rfl, rfl, rfl⟩ ?_
            walk_at "go"
            obtain ⟨v0, hv0, hv1⟩ : ∃ v0 : Nat, (getK x.1 ks1).getD (.int 0) = .int (v0 : Nat) ∧ max j.pr v0 = max j.pr ((ceilO (js.take i) x.1).getD 0) := by
              rw [g3]
              split
              · exact ⟨_, rfl, by show max j.pr (max j.pr _) = _; omega⟩
              · cases ceilO (js.take i) x.1 with
                | none => exact ⟨0, rfl, rfl⟩
                | some c => exact ⟨c, rfl, rfl⟩
            rw [hv0]
            refine ⟨rfl, ?_⟩
            walk_at "go"
            refine ⟨?_, rfl, rfl⟩
            show D.tup [.str x.1, .int (max (j.pr : Int) (v0 : Int))] = D.tup [.str x.1, .int ((max j.pr ((ceilO (js.take i) x.1).getD 0) : Nat) : Int)]
            rw [← hv1]
            have : (max (j.pr : Int) (v0 : Int)) = ((max j.pr v0 : Nat) : Int) := by omega
            rw [this]
          · have hmp : ((ar.map mkD).filter fun _ => true).map (fun d => match d with | .tup (.str t :: _) => .tup [.str t, .int (max j.pr (((ceilO (js.take i) t).getD 0)) : Nat)] | d => d) = (ar.map fun x => (x.1, D.int (max j.pr (((ceilO (js.take i) x.1).getD 0)) : Nat))).map pairD := by
              rw [List.filter_eq_self.mpr (fun _ _ => rfl), List.map_map, List.map_map]
              rfl
            rw [hmp]
            have hv : ∀ p ∈ (ar.map fun x => (x.1, D.int (max j.pr (((ceilO (js.take i) x.1).getD 0)) : Nat))), p.2 = (fun t => D.int (max j.pr (((ceilO (js.take i) t).getD 0)) : Nat)) p.1 := fun p hp => by
              obtain ⟨x, _, rfl⟩ := List.mem_map.mp hp
              rfl
            refine ⟨_, rfl, _, rfl, ?_⟩
            refine ⟨_, _, rfl, rfl, ?_, ?_⟩
            · have := length_mergeD (ar.map fun x => (x.1, D.int (max j.pr (((ceilO (js.take i) x.1).getD 0)) : Nat))) []
              rw [List.length_map] at this
              simp at this
              omega
            · walk_at "up"
              refine ⟨_, .dat (arD ar), rfl, rfl, nodup_merge g1, ?_, fun t => ?_⟩
              · have h5 := length_mergeD (mergeD [] (ar.map fun x => (x.1, D.int (max j.pr (((ceilO (js.take i) x.1).getD 0)) : Nat)))) ks1
                have := length_mergeD (ar.map fun x => (x.1, D.int (max j.pr (((ceilO (js.take i) x.1).getD 0)) : Nat))) []
                rw [List.length_map] at this
                simp at this
                omega
              · rw [getK_upd (v := fun t => D.int (max j.pr (((ceilO (js.take i) t).getD 0)) : Nat)) hv, g3]
                have e1 : (ar.map fun x => (x.1, D.int (max j.pr (((ceilO (js.take i) x.1).getD 0)) : Nat))).map (·.1) = ar.map (·.1) := by rw [List.map_map]; rfl
                rw [e1]
                have tq : (usJ j).take (q + 1) = (usJ j).take q ++ [ar] := by rw [List.take_succ, hu]; rfl
                have hex : (∃ u ∈ (usJ j).take (q + 1), t ∈ u.map (·.1)) ↔ ((∃ u ∈ (usJ j).take q, t ∈ u.map (·.1)) ∨ t ∈ ar.map (·.1)) := by
                  rw [tq]
                  constructor
                  · rintro ⟨u, hu, ht⟩
                    rcases List.mem_append.mp hu with hu | hu
                    · exact .inl ⟨u, hu, ht⟩
                    · rw [List.mem_singleton.mp hu] at ht; exact .inr ht
                  · rintro (⟨u, hu, ht⟩ | ht)
                    · exact ⟨u, List.mem_append_left _ hu, ht⟩
                    · exact ⟨ar, List.mem_append_right _ (List.mem_singleton.mpr rfl), ht⟩
                by_cases z : t ∈ ar.map (·.1)
                · rw [if_pos z, if_pos (hex.mpr (.inr z))]; rfl
                · rw [if_neg z]
                  by_cases z2 : ∃ u ∈ (usJ j).take q, t ∈ u.map (·.1)
                  · rw [if_pos z2, if_pos (hex.mpr (.inl z2))]
                  · rw [if_neg z2, if_neg (fun y => (hex.mp y).elim z2 z)]
      · rintro n1 env1 ⟨ks1, s5', rfl, rfl, g1, g2, g3⟩
        rw [List.length_map] at g2 g3
        have hul : (unB j.bd 0 []).length = csB j.bd := unB_length _ _ _
        have hcs := csB_sz j.bd
        have hsz := okj.sz
        refine ⟨ks1, _, _, _, _, rfl, rfl, g1, by omega, fun t => ?_⟩
        rw [g3, tk, ceilO_snoc, List.take_length]
        have := usJ_th okj t
        by_cases z : t ∈ thB j.bd
        · rw [if_pos z, if_pos (this.mpr z)]
        · rw [if_neg z, if_neg (fun y => z (this.mp y))]
  · rintro n' env' ⟨ks, s2, s3, s4, s5, rfl, rfl, h1, h2, h3⟩
    have hl : (itemsK .vals (js.map jkv)).length = js.length := by unfold itemsK; rw [List.length_map, List.length_map]
    rw [hl, List.take_length] at h3
    walk_at "go"
    walk_at "frz"
    exact hp ks h1 h3
end
/-! ## F1 -/
section
variable {P : Program} {w : World} {K : PySem.W.Frag} {mg : Str → Option Value} {base : Heap} {C : Addr}
/-! ### _law_users -/
abbrev sUsers : Stmt := topS 42
theorem scUsers : FnScope ["_law_jobs_here", "_law_thing", "_law_found", "_law_job", "_law_around", "_law_mark"] ["_law_jobs_here", "_law_thing"] (defScope sUsers) := ⟨rfl, rfl, rfl, by decide +kernel, rfl, by decide +kernel, by decide +kernel⟩
def RUsers : List D → Nat → (D → Nat → Prop) → Prop := fun ds n p => ∃ (js : List Jb) (t : Str), ds = [jobsD js, .str t] ∧ OkJs js ∧ ∀ ys : List Str, ys.Nodup → (∀ x, x ∈ ys ↔ ∃ j ∈ js, j.nm = x ∧ t ∈ thB j.bd) → p (.lst (ys.map .str)) n
theorem ok_users {f : Addr} {fd : FuncData} (F : Fun K "_law_users" "_law_users" sUsers f fd) (hm : mg "_law_users" = some (.ref f)) (hb : Binds K fd ["_law_jobs_here", "_law_thing"] []) (m1 : mg "sorted" = none) (m2 : mg "any" = none) (f4 : FnD P w K mg base C "_law_units" 3 false (RUnits 2)) : FnD P w K mg base C "_law_users" 4 false RUsers := by
  refine fnD_of2 (k := 3) [.no, .no, .no, .no] ["_law_jobs_here", "_law_thing", "_law_found", "_law_job"] ["_law_units", "sorted", "any"] ["_law_thing"] F hm scUsers hb (by decide +kernel) (fun ds n p q h ⟨js, t, e, a, z⟩ => ⟨js, t, e, a, fun ks c1 c2 => h _ _ (z ks c1 c2)⟩) (fun ds n p ⟨js, t, e, _⟩ => by subst e; rfl) ?_
  intro X e1 e2 e3 e4 e5 e6 hX hC ds n p ⟨js, t, e, hjs, hp⟩
  subst e e1 e2 e3 e4 e5
  walk_at "up"
  refine stb_cons ?_
  walk_at "go"
  walk_at "up"
  refine st_for hX ?_
  refine ei_list ?_
  refine ev_frz (evr_sorted hX m1 (by walk_at "mem") ?_)
  walk_at "go"
  refine f_sortK (by rw [List.length_map]; have := hjs.l2; omega) fun ord ho1 ho2 => ?_
  rw [keys_jobs] at ho1
  have ond : ord.Nodup := ho1.nodup_iff.mpr hjs.nn
  have hol : ord.length ≤ 4 := by rw [ho1.length_eq, List.length_map]; exact hjs.l2
  refine ⟨_, rfl, _, rfl, ?_⟩
  refine ⟨fun i n' env' => ∃ (ys : List Str) (s3 : Sl), env' = [.dat (jobsD js), .dat (.str t), .lst (ys.map .str), s3, .no, .no] ∧ n' = n ∧ ys.Sublist (ord.take i) ∧ ∀ x, x ∈ ys ↔ (x ∈ ord.take i ∧ ∃ j ∈ js, j.nm = x ∧ t ∈ thB j.bd), ⟨[], .no, rfl, rfl, List.Sublist.refl _, fun x => by simp⟩, ?_, ?_⟩
  · rintro i d n' env' hd ⟨ys, s3, rfl, rfl, hsub, hys⟩
    rw [List.getElem?_map] at hd
    cases hx : ord[i]? with
    | none => rw [hx] at hd; cases hd
    | some x =>
      rw [hx] at hd
      cases hd
      have tk : ord.take (i + 1) = ord.take i ++ [x] := by rw [List.take_succ, hx]; rfl
      obtain ⟨j, hj, hjx⟩ := List.mem_map.mp (ho1.mem_iff.mp (List.mem_of_getElem? hx))
      have okj := hjs.ok j hj
      have yl : ys.length ≤ 4 := by have := hsub.length_le; rw [List.length_take] at this; omega
      have hcs := csB_sz j.bd
      have hsz := okj.sz
      have uniq : (∃ j' ∈ js, j'.nm = x ∧ t ∈ thB j'.bd) ↔ t ∈ thB j.bd := by
        constructor
        · rintro ⟨j', h1, h2, h3⟩
          have : j' = j := map_inj hjs.nn h1 hj (h2.trans hjx.symm)
          rw [← this]; exact h3
        · intro h; exact ⟨j, hj, hjx, h⟩
      refine eg_name (i := 3) hX (by walk_at "lk") (by walk_at "mem") ?_
      walk_at "up"
      refine stb_one ?_
      refine st_if ?_
      refine EvT.imp (Q' := fun kk n1 env1 => kk = decide (t ∈ thB j.bd) ∧ n1 = n' ∧ env1 = [.dat (jobsD js), .dat (.str t), .lst (ys.map .str), .dat (.str x), .no, .no]) ?_ ?_
      · refine evt_val (fun _ => rfl) ?_
        walk_at "go"
        refine ev_frz ?_
        refine evr_lcF ["_law_around", "_law_thing"] ["_law_around"] [] ["_law_thing"] [("_law_around", 4)] hX hC (by decide +kernel) (by decide +kernel) (fun _ => true) (hasT t) ?_
        refine ei_list ?_
        walk_at "go"
        refine o_ixK (d := jobD j) (by rw [← hjx]; exact getK_jobs hjs.nn hj) ?_
        walk_at "go"
        refine ⟨j.bd, [], rfl, wfB_dp j.bd okj.wf, by omega, by decide, ?_⟩
        refine ⟨_, rfl, by rw [List.length_map, unB_length]; omega, rfl, fun d hd => ?_, ?_⟩
        · obtain ⟨ar, har, rfl⟩ := List.mem_map.mp hd
          have hal := (unB_ok j.bd okj.wf 0 [] ar har).1
          intro s H0 Cc cl fp hX' hC'
          refine egv_name (i := 4) hX' (by walk_at "lk") (by walk_at "mem") (by decide) ?_
          refine ⟨rfl, ?_⟩
          intro s H0 Cc cl fp hX' hC'
          refine ept_nil ⟨rfl, rfl, rfl, fun _ => ?_⟩
          intro s H0 Cc cl fp hX' hC'
          walk_at "up"
          walk_at "go"
          refine ev_frz ?_
          refine evr_lcF ["_law_mark"] ["_law_mark"] [] [] [("_law_mark", 5)] hX' hC' (by decide +kernel) (by decide +kernel) (fun _ => true) fsT ?_
          refine ei_tup ?_
          walk_at "go"
          refine ⟨by rw [List.length_map]; simp at hal; omega, rfl, fun d hd => ?_, ?_⟩
          · obtain ⟨x, hx, rfl⟩ := List.mem_map.mp hd
            intro s H0 Cc cl fp hX'' hC''
            refine egv_name (i := 5) hX'' (by walk_at "lk") (by walk_at "mem") (by decide) ?_
            refine ⟨rfl, ?_⟩
            intro s H0 Cc cl fp hX'' hC''
            refine ept_nil ⟨rfl, rfl, rfl, fun _ => ?_⟩
            intro s H0 Cc cl fp hX'' hC''
            walk_at "up"
            walk_at "go"
            exact ⟨rfl, rfl, rfl⟩
          · rw [fsT_ar]
            refine ⟨_, rfl, ?_⟩
            refine o_inL rfl flat_strs ?_
            refine ⟨?_, rfl, rfl⟩
            rw [inD_str, hasT_ar]
        · rw [hasT_us]
          refine ⟨_, rfl, ?_⟩
          walk_at "go"
          refine n_any ?_
          refine ⟨_, rfl, ?_, rfl, rfl⟩
          rw [Bool.eq_iff_iff, List.any_eq_true, decide_eq_true_eq, ← usJ_th okj t]
          constructor
          · rintro ⟨b, hb, h⟩
            obtain ⟨u, hu, rfl⟩ := List.mem_map.mp hb
            exact ⟨u, hu, of_decide_eq_true h⟩
          · rintro ⟨u, hu, h⟩
            exact ⟨_, List.mem_map.mpr ⟨u, hu, rfl⟩, decide_eq_true h⟩
      · rintro kk n1 env1 ⟨rfl, rfl, rfl⟩
        cases hq : decide (t ∈ thB j.bd) with
        | true =>
          refine iteT ?_
          refine stb_one ?_
          walk_at "go"
          refine ev_append (i := 2) hX (by walk_at "lk") (by walk_at "mem") ?_
          walk_at "go"
          refine ⟨_, rfl, by rw [List.length_map]; omega, ?_⟩
          walk_at "up"
          refine ⟨ys ++ [x], .dat (.str x), by rw [List.map_append]; rfl, rfl, by rw [tk]; exact hsub.append (List.Sublist.refl _), fun y => ?_⟩
          rw [tk, List.mem_append, List.mem_append, hys, List.mem_singleton]
          constructor
          · rintro (h | rfl)
            · exact ⟨.inl h.1, h.2⟩
            · exact ⟨.inr rfl, uniq.mpr (of_decide_eq_true hq)⟩
          · rintro ⟨h1 | rfl, h2⟩
            · exact .inl ⟨h1, h2⟩
            · exact .inr rfl
        | false =>
          refine iteF ?_
          refine stb_nil ?_
          refine ⟨ys, .dat (.str x), rfl, rfl, by rw [tk]; exact hsub.trans (List.sublist_append_left _ _), fun y => ?_⟩
          rw [tk, List.mem_append, hys, List.mem_singleton]
          constructor
          · intro h; exact ⟨.inl h.1, h.2⟩
          · rintro ⟨h1 | rfl, h2⟩
            · exact ⟨h1, h2⟩
            · exact absurd (uniq.mp h2) (of_decide_eq_false hq)
  · rintro n' env' ⟨ys, s3, rfl, rfl, hsub, hys⟩
    rw [List.length_map, List.take_length] at hsub hys
    walk_at "go"
    walk_at "frz"
    refine hp ys (hsub.nodup ond) fun x => ?_
    rw [hys]
    constructor
    · exact fun h => h.2
    · rintro ⟨j, h1, h2, h3⟩
      exact ⟨ho1.mem_iff.mpr (List.mem_map.mpr ⟨j, h1, h2⟩), j, h1, h2, h3⟩
end
/-! ## F2 -/
section
variable {P : Program} {w : World} {K : PySem.W.Frag} {mg : Str → Option Value} {base : Heap} {C : Addr}
/-! ### _law_spots -/
abbrev sSpots : Stmt := topS 43
theorem scSpots : FnScope ["_law_jobs_here", "_law_thing", "_law_found", "_law_job", "_law_units_here", "_law_did"] ["_law_jobs_here", "_law_thing"] (defScope sSpots) := ⟨rfl, rfl, rfl, by decide +kernel, rfl, by decide +kernel, by decide +kernel⟩
def spotD (x : Str × Nat) : D := .tup [.str x.1, .int (x.2 : Nat)]
def RSpots : List D → Nat → (D → Nat → Prop) → Prop := fun ds n p => ∃ (js : List Jb) (t : Str), ds = [jobsD js, .str t] ∧ OkJs js ∧ ∀ sp : List (Str × Nat), sp.length ≤ 200 → (∀ x d, (x, d) ∈ sp ↔ ∃ j ∈ js, j.nm = x ∧ t ∈ insU (usJ j) d) → p (.lst (sp.map spotD)) n
theorem ok_spots {f : Addr} {fd : FuncData} (F : Fun K "_law_spots" "_law_spots" sSpots f fd) (hm : mg "_law_spots" = some (.ref f)) (hb : Binds K fd ["_law_jobs_here", "_law_thing"] []) (m1 : mg "sorted" = none) (m2 : mg "range" = none) (m3 : mg "len" = none) (f4 : FnD P w K mg base C "_law_units" 3 false (RUnits 2)) (f5 : FnD P w K mg base C "_law_inside" 1 false RInside) : FnD P w K mg base C "_law_spots" 4 false RSpots := by
  refine fnD_of2 (k := 3) [.no, .no, .no, .no] ["_law_jobs_here", "_law_thing", "_law_found", "_law_job", "_law_units_here"] ["_law_units", "sorted", "range", "len"] ["_law_thing", "_law_job", "_law_units_here"] F hm scSpots hb (by decide +kernel) (fun ds n p q h ⟨js, t, e, a, z⟩ => ⟨js, t, e, a, fun ks c1 c2 => h _ _ (z ks c1 c2)⟩) (fun ds n p ⟨js, t, e, _⟩ => by subst e; rfl) ?_
  intro X e1 e2 e3 e4 e5 e6 hX hC ds n p ⟨js, t, e, hjs, hp⟩
  subst e e1 e2 e3 e4 e5
  walk_at "up"
  refine stb_cons ?_
  walk_at "go"
  walk_at "up"
  refine st_for hX ?_
  refine ei_list ?_
  refine ev_frz (evr_sorted hX m1 (by walk_at "mem") ?_)
  walk_at "go"
  refine f_sortK (by rw [List.length_map]; have := hjs.l2; omega) fun ord ho1 ho2 => ?_
  rw [keys_jobs] at ho1
  have hol : ord.length ≤ 4 := by rw [ho1.length_eq, List.length_map]; exact hjs.l2
  refine ⟨_, rfl, _, rfl, ?_⟩
  refine ⟨fun i n' env' => ∃ (sp : List (Str × Nat)) (s3 s4 : Sl), env' = [.dat (jobsD js), .dat (.str t), .lst (sp.map spotD), s3, s4, .no] ∧ n' = n ∧ sp.length ≤ 40 * i ∧ ∀ x d, (x, d) ∈ sp ↔ (x ∈ ord.take i ∧ ∃ j ∈ js, j.nm = x ∧ t ∈ insU (usJ j) d), ⟨[], .no, .no, rfl, rfl, Nat.zero_le _, fun x d => by simp⟩, ?_, ?_⟩
  · rintro i d n' env' hd ⟨sp, s3, s4, rfl, rfl, hlen, hsp⟩
    rw [List.getElem?_map] at hd
    cases hx : ord[i]? with
    | none => rw [hx] at hd; cases hd
    | some x =>
      rw [hx] at hd
      cases hd
      have hil := (List.getElem?_eq_some_iff.mp hx).1
      have tk : ord.take (i + 1) = ord.take i ++ [x] := by rw [List.take_succ, hx]; rfl
      obtain ⟨j, hj, hjx⟩ := List.mem_map.mp (ho1.mem_iff.mp (List.mem_of_getElem? hx))
      have okj := hjs.ok j hj
      have hcs := csB_sz j.bd
      have hsz := okj.sz
      have hul : (unB j.bd 0 []).length = csB j.bd := unB_length _ _ _
      refine eg_name (i := 3) hX (by walk_at "lk") (by walk_at "mem") ?_
      walk_at "up"
      refine stb_cons ?_
      walk_at "go"
      refine o_ixK (d := jobD j) (by rw [← hjx]; exact getK_jobs hjs.nn hj) ?_
      walk_at "go"
      refine ⟨j.bd, [], rfl, wfB_dp j.bd okj.wf, by omega, by decide, ?_⟩
      walk_at "up"
      refine stb_one ?_
      refine st_expr ?_
      refine ev_extend (i := 2) hX (by walk_at "lk") (by walk_at "mem") ?_
      refine ev_frz ?_
      refine evr_lcF ["_law_did", "_law_thing", "_law_job", "_law_units_here"] ["_law_did"] ["_law_inside"] ["_law_thing", "_law_job", "_law_units_here"] [("_law_did", 5)] hX hC (by decide +kernel) (by decide +kernel) (fun d => match d with | .int q => decide (t ∈ insU (usJ j) q.toNat) | _ => false) (fun d => match d with | .int q => spotD (x, q.toNat) | d => d) ?_
      refine ei_range2 hX (by walk_at "mem") m2 ?_
      walk_at "go"
      refine ⟨by decide, by decide, ?_⟩
      walk_at "go"
      rw [List.length_map, hul]
      have rl : (rangeD 1 ((csB j.bd : Int) - 1).toNat).length = csB j.bd - 1 := by unfold rangeD; rw [List.length_map, List.length_range]; omega
      refine ⟨by omega, by omega, by rw [rl]; omega, rfl, fun d hd => ?_, ?_⟩
      · unfold rangeD at hd
        obtain ⟨q, hq, rfl⟩ := List.mem_map.mp hd
        have ed : ((1 : Int) + (q : Int)) = ((1 + q : Nat) : Int) := by omega
        intro s H0 Cc cl fp hX' hC'
        refine egv_name (i := 5) hX' (by walk_at "lk") (by walk_at "mem") (by decide) ?_
        refine ⟨rfl, ?_⟩
        intro s H0 Cc cl fp hX' hC'
        walk_at "up"
        rw [ed]
        refine ept_one ?_
        walk_at "go"
        refine ⟨usJ j, 1 + q, rfl, usJ_ok okj things3_okT, ?_⟩
        refine o_inL rfl flat_strs ?_
        refine ⟨_, rfl, ?_, rfl, rfl, fun _ => ?_⟩
        · rw [inD_str]; rfl
        · intro s H0 Cc cl fp hX' hC'
          walk_at "go"
          exact ⟨rfl, rfl, rfl⟩
      · have hm : ((rangeD 1 ((csB j.bd : Int) - 1).toNat).filter (fun d => match d with | .int q => decide (t ∈ insU (usJ j) q.toNat) | _ => false)).map (fun d => match d with | .int q => spotD (x, q.toNat) | d => d) = (((List.range (csB j.bd - 1)).map (fun q => 1 + q)).filter fun q => decide (t ∈ insU (usJ j) q)).map fun q => spotD (x, q) := by
          unfold rangeD
          have e1 : ((csB j.bd : Int) - 1).toNat = csB j.bd - 1 := by omega
          rw [e1, List.filter_map, List.filter_map, List.map_map, List.map_map]
          have e2 : ∀ q : Nat, ((1 : Int) + (q : Int)).toNat = 1 + q := fun q => by omega
          have e3 : ((fun d => match d with | D.int q => decide (t ∈ insU (usJ j) q.toNat) | _ => false) ∘ fun (i : Nat) => D.int (1 + (i : Int))) = ((fun q => decide (t ∈ insU (usJ j) q)) ∘ fun q => 1 + q) := by
            funext q
            show decide (t ∈ insU (usJ j) ((1 : Int) + (q : Int)).toNat) = decide (t ∈ insU (usJ j) (1 + q))
            rw [e2]
          rw [e3]
          apply List.map_congr_left
          intro q _
          show spotD (x, ((1 : Int) + (q : Int)).toNat) = spotD (x, 1 + q)
          rw [e2]
        rw [hm]
        refine ⟨_, rfl, _, _, rfl, rfl, ?_, ?_⟩
        · rw [List.length_map, List.length_map]
          have := List.length_filter_le (fun q => decide (t ∈ insU (usJ j) q)) ((List.range (csB j.bd - 1)).map (fun q => 1 + q))
          rw [List.length_map, List.length_range] at this
          omega
        · walk_at "up"
          refine ⟨sp ++ (((List.range (csB j.bd - 1)).map (fun q => 1 + q)).filter fun q => decide (t ∈ insU (usJ j) q)).map (fun q => (x, q)), .dat (.str x), .dat (unD (unB j.bd 0 [])), by rw [List.map_append, List.map_map]; rfl, rfl, ?_, fun y d => ?_⟩
          · rw [List.length_append, List.length_map]
            have := List.length_filter_le (fun q => decide (t ∈ insU (usJ j) q)) ((List.range (csB j.bd - 1)).map (fun q => 1 + q))
            rw [List.length_map, List.length_range] at this
            omega
          · rw [List.mem_append, hsp, tk, List.mem_append, List.mem_singleton]
            constructor
            · rintro (h | h)
              · exact ⟨.inl h.1, h.2⟩
              · obtain ⟨q, hq, e⟩ := List.mem_map.mp h
                cases e
                exact ⟨.inr rfl, j, hj, hjx, of_decide_eq_true (List.mem_filter.mp hq).2⟩
            · rintro ⟨h1 | rfl, j', h2, h3, h4⟩
              · exact .inl ⟨h1, j', h2, h3, h4⟩
              · right
                have : j' = j := map_inj hjs.nn h2 hj (h3.trans hjx.symm)
                subst this
                have hi := insU_mem h4
                have hul2 : (usJ j').length = csB j'.bd := hul
                refine List.mem_map.mpr ⟨d, List.mem_filter.mpr ⟨List.mem_map.mpr ⟨d - 1, List.mem_range.mpr (by omega), by omega⟩, decide_eq_true h4⟩, rfl⟩
  · rintro n' env' ⟨sp, s3, s4, rfl, rfl, hlen, hsp⟩
    rw [List.length_map] at hlen hsp
    rw [List.take_length] at hsp
    walk_at "go"
    walk_at "frz"
    refine hp sp (by omega) fun x d => ?_
    rw [hsp]
    constructor
    · exact fun h => h.2
    · rintro ⟨j, h1, h2, h3⟩
      exact ⟨ho1.mem_iff.mpr (List.mem_map.mpr ⟨j, h1, h2⟩), j, h1, h2, h3⟩
end
/-! ## F3 -/
section
variable {P : Program} {w : World} {K : PySem.W.Frag} {mg : Str → Option Value} {base : Heap} {C : Addr}
/-! ### _law_can_tangle -/
abbrev sCan : Stmt := topS 44
theorem scCan : FnScope ["_law_jobs_here", "_law_ceilings_here", "_law_thing", "_law_job", "_law_did", "_law_inside_here", "_law_now", "_law_one_here", "_law_other"] ["_law_jobs_here", "_law_ceilings_here", "_law_thing"] (defScope sCan) := ⟨rfl, rfl, rfl, by decide +kernel, rfl, by decide +kernel, by decide +kernel⟩
theorem nodup_len {α : Type} [DecidableEq α] : ∀ {ys xs : List α}, ys.Nodup → (∀ y ∈ ys, y ∈ xs) → ys.length ≤ xs.length
  | [], _, _, _ => Nat.zero_le _
  | y :: ys, xs, hn, h => by
    rw [List.nodup_cons] at hn
    have hy := h y List.mem_cons_self
    have ih := nodup_len (ys := ys) (xs := xs.erase y) hn.2 fun z hz => by
      have := h z (List.mem_cons_of_mem _ hz)
      exact (List.mem_erase_of_ne (fun e => hn.1 (by rw [← e]; exact hz))).mpr this
    rw [List.length_erase_of_mem hy] at ih
    have : 0 < xs.length := List.length_pos_of_mem hy
    rw [List.length_cons]
    omega
theorem pfx_len : ∀ a b : List Mk, (pfx a b).length ≤ a.length
  | [], b => by simp [pfx]
  | q :: a, [] => by simp [pfx]
  | q :: a, r :: b => by
    unfold pfx
    split
    · have := pfx_len a b; simp only [List.length_cons]; omega
    · simp
theorem insU_len {j : Jb} (okj : OkJ j) (d : Nat) : (insU (usJ j) d).length ≤ 2 := by
  unfold insU
  split
  · rename_i h
    rw [List.length_map]
    refine Nat.le_trans (pfx_len _ _) ?_
    rw [List.getD_eq_getElem?_getD, List.getElem?_eq_getElem (by omega)]
    have := (unB_ok j.bd okj.wf 0 [] _ (List.getElem_mem (show d - 1 < (unB j.bd 0 []).length by have h2 : d < (unB j.bd 0 []).length := h.2; omega))).1
    simpa using this
  · exact Nat.zero_le _
/-- a job's priority, by its name -/
def prJ (js : List Jb) (x : Str) : Nat := ((js.find? fun j => decide (j.nm = x)).map (·.pr)).getD 0
theorem prJ_eq : ∀ {js : List Jb}, (js.map (·.nm)).Nodup → ∀ {j : Jb}, j ∈ js → prJ js j.nm = j.pr
  | [], _, _, h => by cases h
  | a :: js, hn, j, h => by
    rw [List.map_cons, List.nodup_cons] at hn
    unfold prJ
    rw [List.find?_cons]
    rcases List.mem_cons.mp h with rfl | h
    · simp
    · have : ¬ a.nm = j.nm := fun e => hn.1 (by rw [e]; exact List.mem_map.mpr ⟨j, h, rfl⟩)
      rw [decide_eq_false this]
      exact prJ_eq hn.2 h
/-- the dict of ceilings ks holds cf at each thing that a job uses -/
def CeilK (js : List Jb) (ks : List (Str × D)) (cf : Str → Nat) : Prop := ∀ j ∈ js, ∀ t ∈ thB j.bd, getK t ks = some (.int (cf t : Nat))
open Classical in
def RCan : List D → Nat → (D → Nat → Prop) → Prop := fun ds n p => ∃ (js : List Jb) (ks : List (Str × D)) (cf : Str → Nat) (t : Str), ds = [jobsD js, .dct ks, .str t] ∧ OkJs js ∧ CeilK js ks cf ∧ p (.bl (decide (canT js cf t))) n
open Classical in
theorem ok_can {f : Addr} {fd : FuncData} (F : Fun K "_law_can_tangle" "_law_can_tangle" sCan f fd) (hm : mg "_law_can_tangle" = some (.ref f)) (hb : Binds K fd ["_law_jobs_here", "_law_ceilings_here", "_law_thing"] []) (m1 : mg "max" = none) (m2 : mg "any" = none) (f4 : FnD P w K mg base C "_law_units" 3 false (RUnits 2)) (f5 : FnD P w K mg base C "_law_inside" 1 false RInside) (f6 : FnD P w K mg base C "_law_spots" 4 false RSpots) (f7 : FnD P w K mg base C "_law_users" 4 false RUsers) : FnD P w K mg base C "_law_can_tangle" 5 false RCan := by
  refine fnD_of2 (k := 4) [.no, .no, .no, .no, .no, .no] ["_law_jobs_here", "_law_ceilings_here", "_law_thing", "_law_job", "_law_did", "_law_inside_here", "_law_now"] ["_law_units", "_law_inside", "_law_spots", "_law_users", "max", "any"] ["_law_jobs_here", "_law_ceilings_here", "_law_now"] F hm scCan hb (by decide +kernel) (fun ds n p q h ⟨js, ks, cf, t, e, a, b, z⟩ => ⟨js, ks, cf, t, e, a, b, h _ _ z⟩) (fun ds n p ⟨js, ks, cf, t, e, _⟩ => by subst e; rfl) ?_
  intro X e1 e2 e3 e4 e5 e6 hX hC ds n p ⟨js, ks, cf, t, e, hjs, hcf, hp⟩
  subst e e1 e2 e3 e4 e5
  walk_at "up"
  refine stb_cons ?_
  refine st_for hX ?_
  refine ei_list ?_
  walk_at "go"
  refine ⟨js, t, rfl, hjs, fun sp hspl hsp => ?_⟩
  refine ⟨_, rfl, ?_⟩
  refine ⟨fun i n' env' => ∃ (s3 s4 s5 s6 : Sl), env' = [.dat (jobsD js), .dat (.dct ks), .dat (.str t), s3, s4, s5, s6, .no, .no] ∧ n' = n ∧ ∀ q ∈ sp.take i, ∀ j ∈ js, j.nm = q.1 → ∀ o ∈ js, t ∈ thB o.bd → o.pr ≤ nowU cf j.pr (insU (usJ j) q.2), ⟨.no, .no, .no, .no, rfl, rfl, fun q hq => by simp at hq⟩, ?_, ?_⟩
  · rintro i d n' env' hd ⟨s3, s4, s5, s6, rfl, rfl, hno⟩
    rw [List.getElem?_map] at hd
    cases hx : sp[i]? with
    | none => rw [hx] at hd; cases hd
    | some q =>
      rw [hx] at hd
      cases hd
      obtain ⟨x, dd⟩ := q
      have tk : sp.take (i + 1) = sp.take i ++ [(x, dd)] := by rw [List.take_succ, hx]; rfl
      obtain ⟨j, hj, hjx, hins⟩ := (hsp x dd).mp (List.mem_of_getElem? hx)
      have okj := hjs.ok j hj
      have hsz := okj.sz
      have hgj : getK x (js.map jkv) = some (jobD j) := by rw [← hjx]; exact getK_jobs hjs.nn hj
      refine eg_tup hX ?_
      refine egs_name (i := 3) hX (by walk_at "lk") (by walk_at "mem") ?_
      refine egs_name (i := 4) hX (by walk_at "lk") (by walk_at "mem") ?_
      refine egs_nil ?_
      walk_at "up"
      refine stb_cons ?_
      walk_at "go"
      refine o_ixK hgj ?_
      walk_at "go"
      refine ⟨j.bd, [], rfl, wfB_dp j.bd okj.wf, by omega, by decide, ?_⟩
      walk_at "go"
      refine ⟨usJ j, dd, rfl, usJ_ok okj things3_okT, ?_⟩
      walk_at "up"
      refine stb_cons ?_
      walk_at "go"
      refine o_ixK hgj ?_
      walk_at "go"
      have hil := insU_len okj dd
      refine ev_frz ?_
      refine evr_lcF ["_law_one_here", "_law_ceilings_here"] ["_law_one_here"] [] ["_law_ceilings_here"] [("_law_one_here", 7)] hX hC (by decide +kernel) (by decide +kernel) (fun _ => true) (fun d => match d with | .str x => .int (cf x : Nat) | d => d) ?_
      refine ei_list ?_
      walk_at "go"
      refine ⟨by rw [List.length_map]; omega, rfl, fun d hd => ?_, ?_⟩
      · obtain ⟨y, hy, rfl⟩ := List.mem_map.mp hd
        intro s H0 Cc cl fp hX' hC'
        refine egv_name (i := 7) hX' (by walk_at "lk") (by walk_at "mem") (by decide) ?_
        refine ⟨rfl, ?_⟩
        intro s H0 Cc cl fp hX' hC'
        refine ept_nil ⟨rfl, rfl, rfl, fun _ => ?_⟩
        intro s H0 Cc cl fp hX' hC'
        walk_at "up"
        walk_at "go"
        refine o_ixK (hcf j hj y (insU_th okj hy)) ?_
        exact ⟨rfl, rfl, rfl⟩
      · refine ⟨_, rfl, ?_⟩
        have hls : (((insU (usJ j) dd).map D.str).filter fun _ => true).map (fun d => match d with | .str x => D.int (cf x : Nat) | d => d) = (insU (usJ j) dd).map fun x => D.int (cf x : Nat) := by
          rw [List.filter_eq_self.mpr (fun _ _ => rfl), List.map_map]; rfl
        rw [hls]
        refine o_addL (by rw [List.length_map]; show 1 + _ ≤ _; omega) ?_
        walk_at "go"
        have hns : ([D.int (j.pr : Nat)] ++ (insU (usJ j) dd).map fun x => D.int (cf x : Nat)) = ((j.pr : Int) :: (insU (usJ j) dd).map fun t => ((cf t : Nat) : Int)).map .int := by
          rw [List.map_cons, List.map_map]; rfl
        rw [hns]
        refine n_maxL (by simp) fun m hm1 hm2 => ?_
        have hmn := nowU_eq hm1 hm2
        subst hmn
        walk_at "up"
        refine stb_one ?_
        refine st_if ?_
        refine EvT.imp (Q' := fun kk n1 env1 => kk = decide (∃ o ∈ js, t ∈ thB o.bd ∧ nowU cf j.pr (insU (usJ j) dd) < o.pr) ∧ n1 = n' ∧ env1 = [.dat (jobsD js), .dat (.dct ks), .dat (.str t), .dat (.str x), .dat (.int (dd : Nat)), .dat (.lst ((insU (usJ j) dd).map .str)), .dat (.int (nowU cf j.pr (insU (usJ j) dd) : Nat)), .no, .no]) ?_ ?_
        · refine evt_val (fun _ => rfl) ?_
          walk_at "go"
          refine ev_frz ?_
          refine evr_lcF ["_law_other", "_law_jobs_here", "_law_now"] ["_law_other"] [] ["_law_jobs_here", "_law_now"] [("_law_other", 8)] hX hC (by decide +kernel) (by decide +kernel) (fun _ => true) (fun d => match d with | .str y => .bl (decide (((nowU cf j.pr (insU (usJ j) dd) : Nat) : Int) < ((prJ js y : Nat) : Int))) | d => d) ?_
          refine ei_list ?_
          walk_at "go"
          refine ⟨js, t, rfl, hjs, fun ys hyn hys => ?_⟩
          have hyl : ys.length ≤ 4 := by
            have : ys.length ≤ (js.map (·.nm)).length := nodup_len hyn fun y hy => by obtain ⟨o, h1, h2, _⟩ := (hys y).mp hy; exact List.mem_map.mpr ⟨o, h1, h2⟩
            rw [List.length_map] at this
            exact Nat.le_trans this hjs.l2
          refine ⟨_, rfl, by rw [List.length_map]; omega, rfl, fun d hd => ?_, ?_⟩
          · obtain ⟨y, hy, rfl⟩ := List.mem_map.mp hd
            obtain ⟨o, ho, hoy, _⟩ := (hys y).mp hy
            have hgo : getK y (js.map jkv) = some (jobD o) := by rw [← hoy]; exact getK_jobs hjs.nn ho
            have hpo : prJ js y = o.pr := by rw [← hoy]; exact prJ_eq hjs.nn ho
            intro s H0 Cc cl fp hX' hC'
            refine egv_name (i := 8) hX' (by walk_at "lk") (by walk_at "mem") (by decide) ?_
            refine ⟨rfl, ?_⟩
            intro s H0 Cc cl fp hX' hC'
            refine ept_nil ⟨rfl, rfl, rfl, fun _ => ?_⟩
            intro s H0 Cc cl fp hX' hC'
            walk_at "up"
            walk_at "go"
            refine o_ixK hgo ?_
            walk_at "go"
            refine ⟨?_, rfl, rfl⟩
            show D.bl _ = D.bl (decide (((nowU cf j.pr (insU (usJ j) dd) : Nat) : Int) < ((prJ js y : Nat) : Int)))
            rw [hpo]
          · have hbl : ((ys.map D.str).filter fun _ => true).map (fun d => match d with | .str y => D.bl (decide (((nowU cf j.pr (insU (usJ j) dd) : Nat) : Int) < ((prJ js y : Nat) : Int))) | d => d) = (ys.map fun y => decide (((nowU cf j.pr (insU (usJ j) dd) : Nat) : Int) < ((prJ js y : Nat) : Int))).map .bl := by
              rw [List.filter_eq_self.mpr (fun _ _ => rfl), List.map_map, List.map_map]; rfl
            rw [hbl]
            refine ⟨_, rfl, ?_⟩
            walk_at "go"
            refine n_any ?_
            refine ⟨_, rfl, ?_, rfl, rfl⟩
            rw [Bool.eq_iff_iff, List.any_eq_true, decide_eq_true_eq]
            constructor
            · rintro ⟨b, hb, h⟩
              obtain ⟨y, hy, rfl⟩ := List.mem_map.mp hb
              obtain ⟨o, ho, hoy, hto⟩ := (hys y).mp hy
              have hpo : prJ js y = o.pr := by rw [← hoy]; exact prJ_eq hjs.nn ho
              have h := of_decide_eq_true h
              rw [hpo] at h
              exact ⟨o, ho, hto, by omega⟩
            · rintro ⟨o, ho, hto, hlt⟩
              refine ⟨_, List.mem_map.mpr ⟨o.nm, (hys o.nm).mpr ⟨o, ho, rfl, hto⟩, rfl⟩, decide_eq_true ?_⟩
              rw [prJ_eq hjs.nn ho]
              omega
        · rintro kk n1 env1 ⟨rfl, rfl, rfl⟩
          by_cases hq : ∃ o ∈ js, t ∈ thB o.bd ∧ nowU cf j.pr (insU (usJ j) dd) < o.pr
          · rw [decide_eq_true hq]
            refine iteT ?_
            refine stb_one ?_
            walk_at "go"
            obtain ⟨o, ho, hto, hlt⟩ := hq
            have : canT js cf t := ⟨j, hj, dd, hins, o, ho, hto, hlt⟩
            rw [decide_eq_true this] at hp
            exact hp
          · rw [decide_eq_false hq]
            refine iteF ?_
            refine stb_nil ?_
            refine ⟨_, _, _, _, rfl, rfl, fun q hq' j' hj' hn o ho hto => ?_⟩
            rw [tk] at hq'
            rcases List.mem_append.mp hq' with h | h
            · exact hno q h j' hj' hn o ho hto
            · rw [List.mem_singleton.mp h] at hn ⊢
              have : j' = j := map_inj hjs.nn hj' hj (hn.trans hjx.symm)
              subst this
              exact Nat.not_lt.mp fun z => hq ⟨o, ho, hto, z⟩
  · rintro n' env' ⟨s3, s4, s5, s6, rfl, rfl, hno⟩
    rw [List.length_map, List.take_length] at hno
    walk_at "go"
    have : ¬ canT js cf t := by
      rintro ⟨j, hj, d, hd, o, ho, hto, hlt⟩
      have := hno (j.nm, d) ((hsp j.nm d).mpr ⟨j, hj, rfl, hd⟩) j hj rfl o ho hto
      exact absurd hlt (Nat.not_lt.mpr this)
    rw [decide_eq_false this] at hp
    exact hp
end
/-! ## F4 -/
section
variable {X : Cx} {C : Addr} {k : Nat} {N Vn Ln Gn : List Str} {n : Nat} {env : En} {QT : QB} {pos : Pos} {a b c : Expr}
theorem evt_chain {op op' : CmpOp} {r r' : R2} (ho : OpR X (compareOp op) r) (ho' : OpR X (compareOp op') r') (h : Ev X C a n env fun d1 n1 env1 => Ev X C b n1 env1 fun d2 n2 env2 => Op2 X.K C r d1 d2 fun d => ∃ k, d = .bl k ∧ if k = true then Ev X C c n2 env2 fun d3 n3 env3 => Op2 X.K C r' d2 d3 fun d => ∃ k, d = .bl k ∧ QT k n3 env3 else QT false n2 env2)
    (hm : lastMarks [op, op'] [b, c] = false := by with_unfolding_all rfl) : EvT X C (.Compare a [op, op'] [b, c] pos) n env QT := fun B ts σ H R S q => by
  refine of_pt (pt_chain ho ho' pe_t pe_t pe_t hm) (h B ts σ H _ S fun v1 H1 d1 n1 env1 h1 S1 => h1 B _ σ H1 _ S1 fun v2 H2 d2 n2 env2 h2 S2 => ?_)
  obtain ⟨F, W, S2⟩ := S2
  obtain ⟨td2, td1, tr⟩ := S2.temps
  cases td2 with
  | dat r2 =>
    cases td1 with
    | dat r1 =>
      refine h2 F H2 v1 v2 _ S2.ex2 r1 r2 fun v d F' H' ⟨kk, hd, hq⟩ e1 e2 e3 nw rp => ?_
      subst hd
      cases rp
      refine ⟨kk, rfl, ?_⟩
      have S3 := S2.pop.pop.grow e1 e2 e3 nw
      have r2' := r2.mono (LeR.of e1)
      cases kk with
      | false => simp only [Bool.false_eq_true, if_false] at hq ⊢; exact ⟨false, rfl, q _ H' n2 env2 hq ⟨F', W, S3⟩⟩
      | true =>
        simp only [if_true] at hq ⊢
        refine hq B _ σ H' _ ⟨F', W, S3.push r2'⟩ fun v3 H3 d3 n3 env3 h3 S4 => ?_
        obtain ⟨F4, W4, S4⟩ := S4
        obtain ⟨td3, td2', tr⟩ := S4.temps
        cases td3 with
        | dat r3 =>
          cases td2' with
          | dat r2'' =>
            refine h3 F4 H3 v2 v3 _ S4.ex2 r2'' r3 fun v d F' H' ⟨kk, hd, hq⟩ e1 e2 e3 nw rp => ?_
            subst hd
            cases rp
            exact ⟨kk, rfl, q _ H' n3 env3 hq ⟨F', W4, S4.pop.pop.grow e1 e2 e3 nw⟩⟩
end
section
variable {P : Program} {w : World} {K : PySem.W.Frag} {mg : Str → Option Value} {base : Heap} {C : Addr}
/-! ### inside_at -/
abbrev sInsAt : Stmt := topS 20
theorem scInsAt : FnScope ["jobs", "job", "units", "path", "thing", "begin", "end"] ["jobs", "job", "units"] (defScope sInsAt) := ⟨rfl, rfl, rfl, by decide +kernel, rfl, by decide +kernel, by decide +kernel⟩
def RInsAt : List D → Nat → (D → Nat → Prop) → Prop := fun ds n p => ∃ (js : List Jb) (ks : List (Str × D)) (j : Jb) (d : Nat), ds = [objD js ks, .str j.nm, .int (d : Nat)] ∧ OkJs js ∧ j ∈ js ∧ p (.lst ((insS (spJ j) d).map .str)) n
theorem ok_insAt {f : Addr} {fd : FuncData} (F : Fun K "inside_at" "inside_at" sInsAt f fd) (hm : mg "inside_at" = some (.ref f)) (hb : Binds K fd ["jobs", "job", "units"] []) (hc : Cls K C) (a1 : NoAttr K C "kept_spans") : FnD P w K mg base C "inside_at" 1 false RInsAt := by
  refine fnD_of2 (k := 0) [.no, .no, .no, .no] ["jobs", "job", "units"] [] ["units"] F hm scInsAt hb (by decide +kernel) (fun ds n p q h ⟨js, ks, j, d, e, a, b, z⟩ => ⟨js, ks, j, d, e, a, b, h _ _ z⟩) (fun ds n p ⟨js, ks, j, d, e, _⟩ => by subst e; rfl) ?_
  intro X e1 e2 e3 e4 e5 e6 hX hC ds n p ⟨js, ks, j, d, e, hjs, hj, hp⟩
  subst e e1 e2 e3 e4 e5
  have okj := hjs.ok j hj
  have hsz := okj.sz
  have hsl : (spJ j).length ≤ szB j.bd := spB_len j.bd [] 0 0
  walk_at "up"
  refine stb_one ?_
  refine st_ret ?_
  refine ev_frz ?_
  refine evr_lcF ["path", "thing", "begin", "end", "units"] ["path", "thing", "begin", "end"] [] ["units"] [("path", 3), ("thing", 4), ("begin", 5), ("end", 6)] hX hC (by decide +kernel) (by decide +kernel) (fun e => match e with | .tup [_, _, .int b, .int e] => decide (b < (d : Int)) && decide ((d : Int) < e) | _ => false) (fun e => match e with | .tup [_, t, _, _] => t | e => e) ?_
  refine ei_list ?_
  refine ev_sub1 hX (fun _ _ => rfl) ?_
  refine ev_fld hc a1 ?_
  walk_at "go"
  refine ⟨_, _, rfl, rfl, ?_⟩
  walk_at "go"
  refine o_ixK (getK_of (f := fun j => .lst ((spJ j).map spnD)) hjs.nn hj) ?_
  walk_at "go"
  refine ⟨by rw [List.length_map]; omega, rfl, fun d1 hd => ?_, ?_⟩
  · obtain ⟨sp, hsp, rfl⟩ := List.mem_map.mp hd
    intro s H0 Cc cl fp hX' hC'
    refine egv_tup hX' ?_
    refine egvs_name (i := 3) hX' (by walk_at "lk") (by walk_at "mem") (by decide) ?_
    refine egvs_name (i := 4) hX' (by walk_at "lk") (by walk_at "mem") (by decide) ?_
    refine egvs_name (i := 5) hX' (by walk_at "lk") (by walk_at "mem") (by decide) ?_
    refine egvs_name (i := 6) hX' (by walk_at "lk") (by walk_at "mem") (by decide) ?_
    refine egvs_nil ?_
    refine ⟨rfl, ?_⟩
    intro s H0 Cc cl fp hX' hC'
    walk_at "up"
    refine ept_one ?_
    refine evt_chain op_lt op_lt ?_ (by with_unfolding_all rfl)
    walk_at "go"
    cases hb1 : decide ((sp.bg : Int) < (d : Int)) with
    | false =>
      refine iteF ?_
      refine ⟨?_, rfl, rfl, fun h => nomatch h⟩
      rw [Bool.false_and]
    | true =>
      refine iteT ?_
      walk_at "go"
      refine ⟨?_, rfl, rfl, fun _ => ?_⟩
      · rw [Bool.true_and]
      · intro s H0 Cc cl fp hX' hC'
        walk_at "go"
        exact ⟨rfl, rfl, rfl⟩
  · have hl : (((spJ j).map spnD).filter (fun e => match e with | .tup [_, _, .int b, .int e] => decide (b < (d : Int)) && decide ((d : Int) < e) | _ => false)).map (fun e => match e with | .tup [_, t, _, _] => t | e => e) = (insS (spJ j) d).map .str := by
      unfold insS
      rw [List.filter_map, List.map_map, List.map_map]
      have : ((fun e => match e with | D.tup [_, _, .int b, .int e] => decide (b < (d : Int)) && decide ((d : Int) < e) | _ => false) ∘ spnD) = fun s : Spn => decide (s.bg < d ∧ d < s.en) := by
        funext s
        show (decide ((s.bg : Int) < (d : Int)) && decide ((d : Int) < (s.en : Int))) = _
        by_cases h1 : s.bg < d
        · by_cases h2 : d < s.en
          · rw [decide_eq_true (show (s.bg : Int) < (d : Int) by omega), decide_eq_true (show (d : Int) < (s.en : Int) by omega), decide_eq_true ⟨h1, h2⟩]; rfl
          · rw [decide_eq_false (show ¬ (d : Int) < (s.en : Int) by omega), decide_eq_false (show ¬ (s.bg < d ∧ d < s.en) from fun z => h2 z.2), Bool.and_false]
        · rw [decide_eq_false (show ¬ (s.bg : Int) < (d : Int) by omega), decide_eq_false (show ¬ (s.bg < d ∧ d < s.en) from fun z => h1 z.1)]; rfl
      rw [this]
      apply List.map_congr_left
      intro s _
      rfl
    rw [hl]
    exact ⟨_, rfl, hp⟩
end
/-! ## F5 -/
section
variable {P : Program} {w : World} {K : PySem.W.Frag} {mg : Str → Option Value} {base : Heap} {C : Addr}
/-! ### users_of -/
abbrev sUsOf : Stmt := topS 23
theorem scUsOf : FnScope ["jobs", "thing", "job", "path", "name", "begin", "end"] ["jobs", "thing"] (defScope sUsOf) := ⟨rfl, rfl, rfl, by decide +kernel, rfl, by decide +kernel, by decide +kernel⟩
def usersD (js : List Jb) (t : Str) : List Jb := js.filter fun j => decide (t ∈ thB j.bd)
def RUsOf : List D → Nat → (D → Nat → Prop) → Prop := fun ds n p => ∃ (js : List Jb) (ks : List (Str × D)) (t : Str), ds = [objD js ks, .str t] ∧ OkJs js ∧ p (.lst ((usersD js t).map fun j => .str j.nm)) n
theorem ok_usOf {f : Addr} {fd : FuncData} (F : Fun K "users_of" "users_of" sUsOf f fd) (hm : mg "users_of" = some (.ref f)) (hb : Binds K fd ["jobs", "thing"] []) (hc : Cls K C) (a1 : NoAttr K C "kept_spans") (a2 : NoAttr K C "kept_jobs") : FnD P w K mg base C "users_of" 1 false RUsOf := by
  refine fnD_of2 (k := 0) [.no, .no, .no, .no, .no] ["jobs", "thing"] [] ["jobs", "thing"] F hm scUsOf hb (by decide +kernel) (fun ds n p q h ⟨js, ks, t, e, a, z⟩ => ⟨js, ks, t, e, a, h _ _ z⟩) (fun ds n p ⟨js, ks, t, e, _⟩ => by subst e; rfl) ?_
  intro X e1 e2 e3 e4 e5 e6 hX hC ds n p ⟨js, ks, t, e, hjs, hp⟩
  subst e e1 e2 e3 e4 e5
  walk_at "up"
  refine stb_one ?_
  refine st_ret ?_
  refine ev_frz ?_
  refine evr_lcK .keys (ks := js.map jkv) ["job", "jobs", "thing"] ["job"] [] ["jobs", "thing"] [("job", 2)] hX hC (by decide +kernel) (by decide +kernel) (da_fld (i := 0) hX (by walk_at "lk") (by walk_at "mem") hc a2 rfl) pk_keys ?_
  refine ⟨fun i acc n' env' => acc = ((usersD (js.take i) t).map fun j => .str j.nm) ∧ n' = n ∧ env' = [.dat (objD js ks), .dat (.str t), .no, .no, .no, .no, .no], ⟨rfl, rfl, rfl⟩, ?_, ?_⟩
  · rintro i d acc n' env' hd ⟨rfl, rfl, rfl⟩
    have hd : ((js.map jkv).map fun p => D.str p.1)[i]? = some d := hd
    rw [List.map_map, List.getElem?_map] at hd
    cases hx : js[i]? with
    | none => rw [hx] at hd; cases hd
    | some j =>
      rw [hx] at hd
      cases hd
      have hj := List.mem_of_getElem? hx
      have okj := hjs.ok j hj
      have hsz := okj.sz
      have hsl : (spJ j).length ≤ szB j.bd := spB_len j.bd [] 0 0
      have tk : js.take (i + 1) = js.take i ++ [j] := by rw [List.take_succ, hx]; rfl
      have hul : (usersD (js.take i) t).length ≤ 4 := by
        have h1 := List.length_filter_le (fun j => decide (t ∈ thB j.bd)) (js.take i)
        have h2 : (js.take i).length ≤ js.length := by rw [List.length_take]; omega
        have h3 := hjs.l2
        show (List.filter _ _).length ≤ 4
        omega
      intro s H0 Cc cl fp hX' hC'
      refine egv_name (i := 2) hX' (by walk_at "lk") (by walk_at "mem") (by decide) ?_
      intro s H0 Cc cl fp hX' hC'
      walk_at "up"
      refine ept_one ?_
      walk_at "go"
      refine ev_frz ?_
      refine evr_lcF ["path", "name", "begin", "end"] ["path", "name", "begin", "end"] [] [] [("path", 3), ("name", 4), ("begin", 5), ("end", 6)] hX' hC' (by decide +kernel) (by decide +kernel) (fun _ => true) (fun e => match e with | .tup [_, t, _, _] => t | e => e) ?_
      refine ei_list ?_
      refine ev_sub1 hX' (fun _ _ => rfl) ?_
      refine ev_fld hc a1 ?_
      walk_at "go"
      refine ⟨_, _, rfl, rfl, ?_⟩
      walk_at "go"
      refine o_ixK (getK_of (f := fun j => .lst ((spJ j).map spnD)) hjs.nn hj) ?_
      walk_at "go"
      refine ⟨by rw [List.length_map]; omega, rfl, fun d1 hd => ?_, ?_⟩
      · obtain ⟨sp, hsp, rfl⟩ := List.mem_map.mp hd
        intro s H0 Cc cl fp hX'' hC''
        refine egv_tup hX'' ?_
        refine egvs_name (i := 3) hX'' (by walk_at "lk") (by walk_at "mem") (by decide) ?_
        refine egvs_name (i := 4) hX'' (by walk_at "lk") (by walk_at "mem") (by decide) ?_
        refine egvs_name (i := 5) hX'' (by walk_at "lk") (by walk_at "mem") (by decide) ?_
        refine egvs_name (i := 6) hX'' (by walk_at "lk") (by walk_at "mem") (by decide) ?_
        refine egvs_nil ?_
        refine ⟨rfl, ?_⟩
        intro s H0 Cc cl fp hX'' hC''
        refine ept_nil ⟨rfl, rfl, rfl, fun _ => ?_⟩
        intro s H0 Cc cl fp hX'' hC''
        walk_at "up"
        walk_at "go"
        exact ⟨rfl, rfl, rfl⟩
      · have hl : (((spJ j).map spnD).filter fun _ => true).map (fun e => match e with | .tup [_, t, _, _] => t | e => e) = ((spJ j).map (·.th)).map .str := by
          rw [List.filter_eq_self.mpr (fun _ _ => rfl), List.map_map, List.map_map]; rfl
        rw [hl]
        refine ⟨_, rfl, ?_⟩
        refine o_inL rfl flat_strs ?_
        rw [inD_str]
        refine ⟨_, rfl, ?_⟩
        have hth : decide (t ∈ (spJ j).map (·.th)) = decide (t ∈ thB j.bd) := by
          rw [Bool.eq_iff_iff, decide_eq_true_eq, decide_eq_true_eq, ← spB_th j.bd [] 0 0 t, List.mem_map]
        rw [hth]
        by_cases hq : t ∈ thB j.bd
        · rw [decide_eq_true hq, if_pos rfl]
          intro s H0 Cc cl fp hX' hC'
          walk_at "go"
          refine ⟨by rw [List.length_map]; omega, ?_, rfl, rfl⟩
          rw [tk]
          show _ = ((List.filter _ (js.take i ++ [j])).map _)
          rw [List.filter_append, List.map_append]
          simp [usersD, hq]
        · rw [decide_eq_false hq, if_neg (by decide)]
          refine ⟨?_, rfl, rfl⟩
          rw [tk]
          show _ = ((List.filter _ (js.take i ++ [j])).map _)
          rw [List.filter_append, List.map_append]
          simp [usersD, hq]
  · rintro acc n' env' ⟨rfl, rfl, rfl⟩
    refine ⟨rfl, _, rfl, ?_⟩
    have hl : (itemsK .keys (js.map jkv)).length = js.length := by unfold itemsK; rw [List.length_map, List.length_map]
    rw [hl, List.take_length]
    exact hp
end
/-! ## F6 -/
section
variable {P : Program} {w : World} {K : PySem.W.Frag} {mg : Str → Option Value} {base : Heap} {C : Addr}
/-! ### open_spots -/
abbrev sOpen : Stmt := topS 22
theorem scOpen : FnScope ["jobs", "thing", "found", "job", "spans", "path", "name", "begin", "end", "units", "others", "one"] ["jobs", "thing"] (defScope sOpen) := ⟨rfl, rfl, rfl, by decide +kernel, rfl, by decide +kernel, by decide +kernel⟩
structure Opn where
  nm : Str
  un : Nat
  pr : Nat
abbrev opnD (o : Opn) : D := .tup [.str o.nm, .int (o.un : Nat), .int (o.pr : Nat)]
/-- the moments within a span -/
def within (s : Spn) : List Nat := (List.range (s.en - (s.bg + 1))).map fun q => s.bg + 1 + q
def prOf (cf : Str → Nat) (t : Str) (j : Jb) (d : Nat) : Nat := nowU cf j.pr ((insS (spJ j) d).filter fun x => !decide (x = t))
def opS (cf : Str → Nat) (t : Str) (j : Jb) (s : Spn) : List Opn := if s.th = t then (within s).map fun d => ⟨j.nm, d, prOf cf t j d⟩ else []
def opJ (cf : Str → Nat) (t : Str) (j : Jb) : List Opn := ((spJ j).map (opS cf t j)).flatten
def opens (js : List Jb) (cf : Str → Nat) (t : Str) : List Opn := (js.map (opJ cf t)).flatten
def ROpen : List D → Nat → (D → Nat → Prop) → Prop := fun ds n p => ∃ (js : List Jb) (ks : List (Str × D)) (cf : Str → Nat) (t : Str), ds = [objD js ks, .str t] ∧ OkJs js ∧ CeilK js ks cf ∧ p (.lst ((opens js cf t).map opnD)) n
theorem spB_le : ∀ (b : Bd) (p : List Nat) (k a : Nat), ∀ s ∈ spB b p k a, s.bg ≤ s.en
  | .nil, _, _, _, s, h => by simp [spB] at h
  | .u n r, p, k, a, s, h => spB_le r p (k + 1) (a + n) s h
  | .g t b r, p, k, a, s, h => by
    have h : s ∈ ⟨p ++ [k], t, a, a + csB b⟩ :: (spB b (p ++ [k]) 0 a ++ spB r p (k + 1) (a + csB b)) := h
    rcases List.mem_cons.mp h with rfl | h
    · exact Nat.le_add_right _ _
    · rcases List.mem_append.mp h with h | h
      · exact spB_le b _ _ _ s h
      · exact spB_le r _ _ _ s h
theorem within_mem {s : Spn} {d : Nat} : d ∈ within s ↔ s.bg < d ∧ d < s.en := by
  unfold within
  rw [List.mem_map]
  constructor
  · rintro ⟨q, hq, rfl⟩
    have := List.mem_range.mp hq
    omega
  · rintro ⟨h1, h2⟩
    exact ⟨d - (s.bg + 1), List.mem_range.mpr (by omega), by omega⟩
theorem ok_open {f : Addr} {fd : FuncData} (F : Fun K "open_spots" "open_spots" sOpen f fd) (hm : mg "open_spots" = some (.ref f)) (hb : Binds K fd ["jobs", "thing"] []) (hc : Cls K C) (a1 : NoAttr K C "kept_spans") (a2 : NoAttr K C "kept_jobs") (a3 : NoAttr K C "kept_ceilings") (m1 : mg "list" = none) (m2 : mg "range" = none) (m3 : mg "max" = none) (f1 : FnD P w K mg base C "inside_at" 1 false RInsAt) : FnD P w K mg base C "open_spots" 2 false ROpen := by
  refine fnD_of2 (k := 1) [.no, .no, .no, .no, .no, .no, .no, .no, .no, .no] ["jobs", "thing", "found", "job", "spans", "path", "name", "begin", "end", "units", "others"] ["list", "range", "max", "inside_at"] ["jobs", "thing"] F hm scOpen hb (by decide +kernel) (fun ds n p q h ⟨js, ks, cf, t, e, a, b, z⟩ => ⟨js, ks, cf, t, e, a, b, h _ _ z⟩) (fun ds n p ⟨js, ks, cf, t, e, _⟩ => by subst e; rfl) ?_
  intro X e1 e2 e3 e4 e5 e6 hX hC ds n p ⟨js, ks, cf, t, e, hjs, hcf, hp⟩
  subst e e1 e2 e3 e4 e5
  walk_at "up"
  refine stb_cons ?_
  walk_at "go"
  walk_at "up"
  refine st_forK .items (ks := js.map fun j => (j.nm, .lst ((spJ j).map spnD))) hX (da_fld (i := 0) hX (by walk_at "lk") (by walk_at "mem") hc a1 rfl) pk_items ?_
  refine ⟨fun i n' env' => ∃ (s3 s4 s5 s6 s7 s8 s9 s10 : Sl), env' = [.dat (objD js ks), .dat (.str t), .lst ((opens (js.take i) cf t).map opnD), s3, s4, s5, s6, s7, s8, s9, s10, .no] ∧ n' = n ∧ (opens (js.take i) cf t).length ≤ 1200 * i, ⟨.no, .no, .no, .no, .no, .no, .no, .no, rfl, rfl, Nat.zero_le _⟩, ?_, ?_⟩
  · rintro i d n' env' hd ⟨s3, s4, s5, s6, s7, s8, s9, s10, rfl, rfl, hln⟩
    have hd : ((js.map fun j => (j.nm, D.lst ((spJ j).map spnD))).map fun p => D.tup [.str p.1, p.2])[i]? = some d := hd
    rw [List.map_map, List.getElem?_map] at hd
    cases hx : js[i]? with
    | none => rw [hx] at hd; cases hd
    | some j =>
      rw [hx] at hd
      cases hd
      have hj := List.mem_of_getElem? hx
      have okj := hjs.ok j hj
      have hsz := okj.sz
      have tk : js.take (i + 1) = js.take i ++ [j] := by rw [List.take_succ, hx]; rfl
      refine eg_tup hX ?_
      refine egs_name (i := 3) hX (by walk_at "lk") (by walk_at "mem") ?_
      refine egs_name (i := 4) hX (by walk_at "lk") (by walk_at "mem") ?_
      refine egs_nil ?_
      walk_at "up"
      refine stb_one ?_
      refine st_for hX ?_
      refine ei_list ?_
      walk_at "go"
      have hil := (List.getElem?_eq_some_iff.mp hx).1
      have hl4 := hjs.l2
      have hsl : (spJ j).length ≤ szB j.bd := spB_len j.bd [] 0 0
      have hgj : getK j.nm (js.map jkv) = some (jobD j) := getK_jobs hjs.nn hj
      refine ⟨fun q n1 env1 => ∃ (s5 s6 s7 s8 s9 s10 : Sl), env1 = [.dat (objD js ks), .dat (.str t), .lst ((opens (js.take i) cf t ++ (((spJ j).take q).map (opS cf t j)).flatten).map opnD), .dat (.str j.nm), .dat (.lst ((spJ j).map spnD)), s5, s6, s7, s8, s9, s10, .no] ∧ n1 = n' ∧ (opens (js.take i) cf t ++ (((spJ j).take q).map (opS cf t j)).flatten).length ≤ 1200 * i + 35 * q, ⟨s5, s6, s7, s8, s9, s10, by simp, rfl, by simp; omega⟩, ?_, ?_⟩
      · rintro q d1 n1 env1 hd1 ⟨s5, s6, s7, s8, s9, s10, rfl, rfl, hln2⟩
        rw [List.getElem?_map] at hd1
        cases hq : (spJ j)[q]? with
        | none => rw [hq] at hd1; cases hd1
        | some sp =>
          rw [hq] at hd1
          cases hd1
          have hqi := (List.getElem?_eq_some_iff.mp hq).1
          have hqi2 : q < (spJ j).length := hqi
          have hsp := spB_en j.bd [] 0 0 sp (List.mem_of_getElem? hq)
          have hcs := csB_sz j.bd
          have hle := spB_le j.bd [] 0 0 sp (List.mem_of_getElem? hq)
          have tkq : (spJ j).take (q + 1) = (spJ j).take q ++ [sp] := by rw [List.take_succ, hq]; rfl
          refine eg_tup hX ?_
          refine egs_name (i := 5) hX (by walk_at "lk") (by walk_at "mem") ?_
          refine egs_name (i := 6) hX (by walk_at "lk") (by walk_at "mem") ?_
          refine egs_name (i := 7) hX (by walk_at "lk") (by walk_at "mem") ?_
          refine egs_name (i := 8) hX (by walk_at "lk") (by walk_at "mem") ?_
          refine egs_nil ?_
          walk_at "up"
          refine stb_one ?_
          refine st_for hX ?_
          refine ei_list ?_
          refine Ev.imp (Q' := fun d n2 env2 => d = .lst ((if sp.th = t then within sp else []).map fun (q : Nat) => D.int (q : Nat)) ∧ n2 = n1 ∧ env2 = [.dat (objD js ks), .dat (.str t), .lst ((opens (js.take i) cf t ++ (((spJ j).take q).map (opS cf t j)).flatten).map opnD), .dat (.str j.nm), .dat (.lst ((spJ j).map spnD)), .dat (.tup (sp.pt.map fun q => .int (q : Nat))), .dat (.str sp.th), .dat (.int (sp.bg : Nat)), .dat (.int (sp.en : Nat)), s9, s10, .no]) ?_ ?_
          · refine ev_if ?_
            walk_at "go"
            by_cases hth : sp.th = t
            · rw [decide_eq_true hth, if_pos hth]
              refine iteT ?_
              refine ev_frz (evr_listRg2 hX (by walk_at "mem") m1 (by walk_at "mem") m2 ?_)
              walk_at "go"
              refine ⟨⟨by omega, by omega, by omega, by omega⟩, _, rfl, ?_, rfl, rfl⟩
              have e1 : ((sp.en : Int) - ((sp.bg : Int) + 1)).toNat = sp.en - (sp.bg + 1) := by omega
              rw [e1]
              unfold rangeD within
              rw [List.map_map]
              congr 1
            · rw [decide_eq_false hth, if_neg hth]
              refine iteF ?_
              walk_at "go"
              exact ⟨rfl, rfl, rfl⟩
          · rintro d n2 env2 ⟨rfl, rfl, rfl⟩
            refine ⟨_, rfl, ?_⟩
            generalize hA : opens (js.take i) cf t ++ (((spJ j).take q).map (opS cf t j)).flatten = A2 at hln2
            generalize hu : (if sp.th = t then within sp else []) = ul
            have hul : ul.length ≤ 33 := by
              rw [← hu]
              split
              · unfold within; rw [List.length_map, List.length_range]; omega
              · exact Nat.zero_le _
            have hdd : ∀ d ∈ ul, d ≤ 33 := fun d hd => by
              rw [← hu] at hd
              split at hd
              · have := within_mem.mp hd; omega
              · cases hd
            refine ⟨fun r n1 env1 => ∃ (s9 s10 : Sl), env1 = [.dat (objD js ks), .dat (.str t), .lst ((A2 ++ (ul.take r).map fun d => (⟨j.nm, d, prOf cf t j d⟩ : Opn)).map opnD), .dat (.str j.nm), .dat (.lst ((spJ j).map spnD)), .dat (.tup (sp.pt.map fun q => .int (q : Nat))), .dat (.str sp.th), .dat (.int (sp.bg : Nat)), .dat (.int (sp.en : Nat)), s9, s10, .no] ∧ n1 = n2, ⟨s9, s10, by simp, rfl⟩, ?_, ?_⟩
            · rintro r d3 n3 env3 hd3 ⟨s9, s10, rfl, rfl⟩
              rw [List.getElem?_map] at hd3
              cases hr : ul[r]? with
              | none => rw [hr] at hd3; cases hd3
              | some dm =>
                rw [hr] at hd3
                cases hd3
                have hri := (List.getElem?_eq_some_iff.mp hr).1
                have tkr : ul.take (r + 1) = ul.take r ++ [dm] := by rw [List.take_succ, hr]; rfl
                have hdm := hdd dm (List.mem_of_getElem? hr)
                refine eg_name (i := 9) hX (by walk_at "lk") (by walk_at "mem") ?_
                walk_at "up"
                refine stb_cons ?_
                refine st_setLcF (i := 10) ["one", "jobs", "thing"] ["one"] [] ["jobs", "thing"] [("one", 11)] hX hC (by walk_at "lk") (by rw [e6]; rfl) (by decide +kernel) (by decide +kernel) (fun e => match e with | .str y => !decide (y = t) | _ => true) (fun e => match e with | .str y => .int (cf y : Nat) | e => e) ?_ (by rw [e6]; rfl)
                refine ei_list ?_
                walk_at "go"
                refine ⟨js, ks, j, dm, rfl, hjs, hj, ?_⟩
                have hin : ((spJ j).filter fun s => decide (s.bg < dm ∧ dm < s.en)).length ≤ 33 := Nat.le_trans (List.length_filter_le _ _) (by omega)
                have hin : (insS (spJ j) dm).length ≤ 33 := by unfold insS; rw [List.length_map]; exact hin
                refine ⟨_, rfl, by rw [List.length_map]; omega, rfl, fun d hd => ?_, ?_⟩
                · obtain ⟨y, hy, rfl⟩ := List.mem_map.mp hd
                  have hyt : y ∈ thB j.bd := by
                    obtain ⟨s', hs', rfl⟩ := List.mem_map.mp hy
                    exact (spB_en j.bd [] 0 0 s' (List.mem_filter.mp hs').1).2.2
                  intro s H0 Cc cl fp hX' hC'
                  refine egv_name (i := 11) hX' (by walk_at "lk") (by walk_at "mem") (by decide) ?_
                  refine ⟨rfl, ?_⟩
                  intro s H0 Cc cl fp hX' hC'
                  walk_at "up"
                  refine ept_one ?_
                  walk_at "go"
                  refine ⟨rfl, rfl, rfl, fun _ => ?_⟩
                  intro s H0 Cc cl fp hX' hC'
                  refine ev_sub1 hX' (fun _ _ => rfl) ?_
                  refine ev_fld hc a3 ?_
                  walk_at "go"
                  refine ⟨_, _, rfl, rfl, ?_⟩
                  walk_at "go"
                  refine o_ixK (hcf j hj y hyt) ?_
                  exact ⟨rfl, rfl, rfl⟩
                · have hls : (((insS (spJ j) dm).map D.str).filter (fun e => match e with | .str y => !decide (y = t) | _ => true)).map (fun e => match e with | .str y => D.int (cf y : Nat) | e => e) = ((insS (spJ j) dm).filter fun x => !decide (x = t)).map fun x => D.int (cf x : Nat) := by
                    rw [List.filter_map, List.map_map]; rfl
                  have hol : ((insS (spJ j) dm).filter fun x => !decide (x = t)).length ≤ 33 := Nat.le_trans (List.length_filter_le _ _) hin
                  rw [hls]
                  walk_at "up"
                  refine stb_one ?_
                  refine st_expr ?_
                  refine ev_append (i := 2) hX (by walk_at "lk") (by walk_at "mem") ?_
                  walk_at "go"
                  refine ev_fld hc a2 ?_
                  walk_at "go"
                  refine ⟨_, _, rfl, rfl, ?_⟩
                  walk_at "go"
                  refine o_ixK hgj ?_
                  walk_at "go"
                  walk_at "frz"
                  walk_at "go"
                  refine o_addL (by rw [List.length_map]; show 1 + _ ≤ _; omega) ?_
                  walk_at "go"
                  have hns : ([D.int (j.pr : Nat)] ++ ((insS (spJ j) dm).filter fun x => !decide (x = t)).map fun x => D.int (cf x : Nat)) = ((j.pr : Int) :: ((insS (spJ j) dm).filter fun x => !decide (x = t)).map fun t => ((cf t : Nat) : Int)).map .int := by
                    rw [List.map_cons, List.map_map]; rfl
                  rw [hns]
                  refine n_maxL (by simp) fun m hm1 hm2 => ?_
                  have hmn := nowU_eq hm1 hm2
                  subst hmn
                  walk_at "go"
                  refine ⟨_, rfl, ?_, ?_⟩
                  · rw [List.length_map, List.length_append, List.length_map, List.length_take]; omega
                  · walk_at "up"
                    refine ⟨.dat (.int (dm : Nat)), _, by rw [tkr, List.map_append, List.map_append, List.map_append, List.map_append, List.append_assoc]; rfl, rfl⟩
            · rintro n1 env1 ⟨s9, s10, rfl, rfl⟩
              rw [List.length_map, List.take_length]
              have eo : A2 ++ ul.map (fun d => (⟨j.nm, d, prOf cf t j d⟩ : Opn)) = opens (js.take i) cf t ++ (((spJ j).take (q + 1)).map (opS cf t j)).flatten := by
                rw [← hA, ← hu, tkq, List.map_append, List.flatten_append, List.append_assoc]
                congr 1
                congr 1
                show _ = [opS cf t j sp].flatten
                unfold opS
                split <;> simp
              refine ⟨_, _, _, _, _, _, by rw [eo], rfl, ?_⟩
              rw [← eo, List.length_append, List.length_map]
              omega
      · rintro n1 env1 ⟨s5, s6, s7, s8, s9, s10, rfl, rfl, hln2⟩
        rw [List.length_map] at hln2 ⊢
        rw [List.take_length] at hln2 ⊢
        have e : opens (js.take (i + 1)) cf t = opens (js.take i) cf t ++ ((spJ j).map (opS cf t j)).flatten := by
          unfold opens
          rw [tk, List.map_append, List.flatten_append]
          simp [opJ]
        refine ⟨_, _, _, _, _, _, _, _, by rw [e], rfl, ?_⟩
        rw [e]
        have hsl2 : (spJ j).length ≤ 33 := by omega
        omega
  · rintro n' env' ⟨s3, s4, s5, s6, s7, s8, s9, s10, rfl, rfl, hln⟩
    have hl : (itemsK .items (js.map fun j => (j.nm, D.lst ((spJ j).map spnD)))).length = js.length := by unfold itemsK; rw [List.length_map, List.length_map]
    rw [hl, List.take_length]
    walk_at "go"
    walk_at "frz"
    exact hp
end
/-! ## F7 -/
section
variable {P : Program} {w : World} {K : PySem.W.Frag} {mg : Str → Option Value} {base : Heap} {C : Addr}
/-! ### spans_of -/
abbrev sSpans : Stmt := topS 18
theorem scSpans : FnScope ["body", "path", "begin", "found", "at", "number", "part", "here", "inner", "end"] ["body", "path", "begin"] (defScope sSpans) := ⟨rfl, rfl, rfl, by decide +kernel, rfl, by decide +kernel, by decide +kernel⟩
theorem wfB_drop : ∀ (i : Nat) (b : Bd) {m : Nat} {ts : List Str}, wfB b m ts → wfB (dropB i b) m ts
  | 0, _, _, _, h => h
  | _ + 1, .nil, _, _, h => h
  | i + 1, .u _ r, _, _, h => wfB_drop i r h.2.2
  | i + 1, .g _ _ r, _, _, h => wfB_drop i r h.2.2.2.2
def RSpans (m : Nat) : List D → Nat → (D → Nat → Prop) → Prop := fun ds n p => ∃ (b : Bd) (pt : List Nat) (a : Nat), ds = [.tup (bdD b), .tup (pt.map fun q => .int (q : Nat)), .int (a : Nat)] ∧ (∃ mm ts, wfB b mm ts) ∧ dpB b ≤ m ∧ szB b ≤ 1000 ∧ pt.length + m ≤ 100 ∧
  p (.tup [.lst ((spB b pt 0 a).map spnD), .int ((a + csB b : Nat) : Int)]) n
theorem ok_spans {f : Addr} {fd : FuncData} (F : Fun K "spans_of" "spans_of" sSpans f fd) (hm : mg "spans_of" = some (.ref f)) (hb : Binds K fd ["body", "path", "begin"] []) (m2 : mg "enumerate" = none) (f1 : FnD P w K mg base C "is_positive" 2 false RIsPos) : ∀ m, FnD P w K mg base C "spans_of" (m + 3) false (RSpans m) := by
  intro m
  induction m using Nat.strongRecOn with
  | _ m ih =>
  refine fnD_of (k := m + 2) [.no, .no, .no, .no, .no, .no, .no] ["is_positive", "spans_of", "enumerate"] [] F hm scSpans hb (by decide +kernel) (fun ds n p q h ⟨b, pt, a, e, z1, z2, z3, z4, z⟩ => ⟨b, pt, a, e, z1, z2, z3, z4, h _ _ z⟩) (fun ds n p ⟨b, pt, a, e, _⟩ => by subst e; rfl) ?_
  intro X e1 e2 e3 e4 e5 e6 hX hC ds n p ⟨b, pt, a, e, ⟨mm, ts, hwf⟩, hdp, hsz, hpt, hp⟩
  subst e e1 e2 e3 e4 e5
  walk_at "up"
  refine stb_cons ?_
  refine st_par2 (i := 3) (j := 4) hX (by walk_at "lk") (by walk_at "lk") (by decide) (by rw [e6]; rfl) (by rw [e6]; rfl) ?_ (by generalize X.env = v at e6 ⊢; cases v; cases e6; rfl)
  refine evr_lst (ea_nil ⟨[], rfl, Nat.zero_le _, ?_⟩)
  refine evr_of ?_
  iterate 1 walk_at "one"
  walk_at "up"
  refine stb_frzL (x := "found") (i := 3) (N := ["body", "path", "begin", "found", "at", "number", "part", "here", "inner", "end"]) (ds := []) (by walk_at "lk") ?_
  walk_at "up"
  refine stb_cons ?_
  refine st_for hX ?_
  refine ei_enumT hX (by walk_at "mem") m2 ?_
  walk_at "go"
  refine ⟨fun i n' env' => ∃ (acc : List Spn) (at0 : Nat) (s5 s6 s7 s8 s9 : Sl), env' = [.dat (.tup (bdD b)), .dat (.tup (pt.map fun q => .int (q : Nat))), .dat (.int (a : Nat)), .dat (.lst (acc.map spnD)), .dat (.int (at0 : Nat)), s5, s6, s7, s8, s9] ∧ n' = n ∧ acc ++ spB (dropB i b) pt i at0 = spB b pt 0 a ∧ at0 + csB (dropB i b) = a + csB b, ⟨[], a, .no, .no, .no, .no, .no, rfl, rfl, rfl, rfl⟩, ?_, ?_⟩
  · rintro i d n' env' hi ⟨acc, at0, s5, s6, s7, s8, s9, rfl, rfl, hacc, hat⟩
    obtain ⟨d', hd', rfl⟩ := enumD_get hi
    have hall := spB_len b pt 0 a
    have hacl : acc.length + (spB (dropB i b) pt i at0).length ≤ szB b := by rw [← List.length_append, hacc]; exact hall
    rw [bdD_get] at hd'
    have hnx := dropB_succ i b
    have hwd := wfB_drop i b hwf
    refine eg_tup hX ?_
    refine egs_name (i := 5) hX (by walk_at "lk") (by walk_at "mem") ?_
    refine egs_name (i := 6) hX (by walk_at "lk") (by walk_at "mem") ?_
    refine egs_nil ?_
    walk_at "up"
    refine stb_cons ?_
    walk_at "go"
    refine o_addT (by rw [List.length_map]; show _ + 1 ≤ _; omega) ?_
    walk_at "up"
    have hpt2 : D.tup (pt.map (fun q => D.int (q : Nat)) ++ [.int (i : Int)]) = .tup ((pt ++ [i]).map fun q => D.int (q : Nat)) := by rw [List.map_append]; rfl
    rw [hpt2]
    refine stb_one ?_
    refine st_if ?_
    cases hb2 : dropB i b with
    | nil => rw [hb2] at hd'; cases hd'
    | u q r =>
      rw [hb2] at hd' hnx hacc hat hwd
      cases hd'
      have hq1 : 1 ≤ q := hwd.1
      refine evt_val (fun _ => rfl) ?_
      walk_at "go"
      refine ⟨_, rfl, rfl, ?_⟩
      refine ⟨true, by show D.bl (decide ((1 : Int) ≤ (q : Int))) = _; rw [decide_eq_true (by omega)], ?_⟩
      refine iteT ?_
      refine stb_one ?_
      walk_at "go"
      have hat : at0 + (q + csB r) = a + csB b := hat
      refine ⟨acc, at0 + q, .dat (.int (i : Nat)), .dat (.int (q : Nat)), .dat (.tup ((pt ++ [i]).map fun q => .int (q : Nat))), s8, s9, by simp; rfl, rfl, ?_, ?_⟩
      · rw [hnx]; exact hacc
      · rw [hnx]; show at0 + q + csB r = _; omega
    | g t b1 r =>
      rw [hb2] at hd' hnx hacc hat hwd
      cases hd'
      refine evt_val (fun _ => rfl) ?_
      walk_at "go"
      refine ⟨_, rfl, rfl, false, rfl, ?_⟩
      refine iteF ?_
      refine stb_cons ?_
      have hq := dropB_sz i b
      rw [hb2] at hq
      have hq : szB b1 + 1 + szB r ≤ szB b := hq
      have hdp1 := dropB_dp i b
      rw [hb2] at hdp1
      have hdp1 : dpB b1 + 1 ≤ dpB b := Nat.le_trans (Nat.le_max_left _ _) hdp1
      have hat : at0 + (csB b1 + csB r) = a + csB b := hat
      have hl1 := spB_len b1 (pt ++ [i]) 0 at0
      have hacl2 : acc.length ≤ szB b := by omega
      have fm := ih (m - 1) (by omega)
      refine st_asg ?_ (by generalize X.env = v at e6 ⊢; cases v; cases e6; rfl) (by generalize X.env = v at e6 ⊢; cases v; cases e6; rfl)
      walk_at "go"
      refine ⟨b1, pt ++ [i], at0, rfl, ⟨_, _, hwd.2.2.2.1⟩, by omega, by omega, by rw [List.length_append]; show pt.length + 1 + (m - 1) ≤ 100; omega, ?_⟩
      refine eg_tup hX ?_
      refine egs_name (i := 8) hX (by walk_at "lk") (by walk_at "mem") ?_
      refine egs_name (i := 9) hX (by walk_at "lk") (by walk_at "mem") ?_
      refine egs_nil ?_
      walk_at "up"
      refine stb_cons ?_
      walk_at "go"
      refine o_addL (by rw [List.length_map]; show _ + 1 ≤ _; omega) ?_
      walk_at "go"
      refine o_addL (by rw [List.length_append, List.length_map, List.length_map]; show _ + 1 + _ ≤ _; omega) ?_
      walk_at "up"
      walk_at "go"
      have hmsp : (acc ++ [(⟨pt ++ [i], t, at0, at0 + csB b1⟩ : Spn)] ++ spB b1 (pt ++ [i]) 0 at0).map spnD = acc.map spnD ++ [spnD ⟨pt ++ [i], t, at0, at0 + csB b1⟩] ++ (spB b1 (pt ++ [i]) 0 at0).map spnD := by rw [List.map_append, List.map_append]; rfl
      refine ⟨acc ++ [⟨pt ++ [i], t, at0, at0 + csB b1⟩] ++ spB b1 (pt ++ [i]) 0 at0, at0 + csB b1, .dat (.int (i : Nat)), .dat (.tup [.str t, .tup (bdD b1)]), .dat (.tup ((pt ++ [i]).map fun q => .int (q : Nat))), .dat (.lst ((spB b1 (pt ++ [i]) 0 at0).map spnD)), .dat (.int ((at0 + csB b1 : Nat) : Int)), by rw [hmsp]; rfl, rfl, ?_, ?_⟩
      · rw [hnx, List.append_assoc, List.append_assoc]; exact hacc
      · rw [hnx]; show at0 + csB b1 + csB r = _; omega
  · rintro n' env' ⟨acc, at0, s5, s6, s7, s8, s9, rfl, rfl, hacc, hat⟩
    rw [enumD_length, dropB_len] at hacc hat
    have hacc : acc = spB b pt 0 a := by rw [← hacc]; exact (List.append_nil _).symm
    have hat : at0 = a + csB b := hat
    walk_at "go"
    rw [hacc, hat]
    exact hp
end
/-! ## M9 -/
/-! ### what is handed: lists and tuples at will -/
def HB (H : List D → Prop) (d : D) : Prop := ∃ l, (d = .lst l ∨ d = .tup l) ∧ H l
/-- l is the parts of the body, handed -/
def HP : Bd → List D → Prop
  | .nil, l => l = []
  | .u n r, l => ∃ l', l = .int (n : Nat) :: l' ∧ HP r l'
  | .g t b r, l => ∃ d l', l = d :: l' ∧ (∃ e, (d = .lst [.str t, e] ∨ d = .tup [.str t, e]) ∧ HB (HP b) e) ∧ HP r l'
theorem HP_len : ∀ (b : Bd) {l : List D}, HP b l → l.length = (bdD b).length
  | .nil, l, h => by rw [show l = [] from h]; rfl
  | .u n r, l, h => by obtain ⟨l', e, h⟩ := h; rw [e, List.length_cons, HP_len r h]; rfl
  | .g t b r, l, h => by obtain ⟨d, l', e, _, h⟩ := h; rw [e, List.length_cons, HP_len r h]; rfl
theorem HP_drop : ∀ (i : Nat) (b : Bd) {l : List D}, HP b l → HP (dropB i b) (l.drop i)
  | 0, _, _, h => h
  | i + 1, .nil, l, h => by rw [show l = [] from h]; show ([] : List D).drop (i + 1) = []; rfl
  | i + 1, .u n r, l, h => by obtain ⟨l', e, h⟩ := h; rw [e]; exact HP_drop i r h
  | i + 1, .g t b r, l, h => by obtain ⟨d, l', e, _, h⟩ := h; rw [e]; exact HP_drop i r h
/-! ## F8 -/
theorem ei_seq {X : Cx} {C : Addr} {tg iter : Expr} {n : Nat} {env : En} {QI' : QI} {d : D} {l : List D} (hd : d = .lst l ∨ d = .tup l) (h : Ev X C iter n env fun d' n' env' => d' = d ∧ QI' l n' env') : EvI X C tg iter n env QI' := by
  rcases hd with rfl | rfl
  · exact ei_list (h.imp fun d' n' env' ⟨e, q⟩ => ⟨l, by rw [e]; rfl, q⟩)
  · exact ei_tup (h.imp fun d' n' env' ⟨e, q⟩ => ⟨l, e, q⟩)
section
variable {P : Program} {w : World} {K : PySem.W.Frag} {mg : Str → Option Value} {base : Heap} {C : Addr}
/-! ### body_kept -/
abbrev sKept : Stmt := topS 17
theorem scKept : FnScope ["body", "part"] ["body"] (defScope sKept) := ⟨rfl, rfl, rfl, by decide +kernel, rfl, by decide +kernel, by decide +kernel⟩
def RKept (m : Nat) : List D → Nat → (D → Nat → Prop) → Prop := fun ds n p => ∃ (d : D) (b : Bd), ds = [d] ∧ HB (HP b) d ∧ (∃ mm ts, wfB b mm ts) ∧ dpB b ≤ m ∧ szB b ≤ 1000 ∧ p (.tup (bdD b)) n
theorem ok_kept {f : Addr} {fd : FuncData} (F : Fun K "body_kept" "body_kept" sKept f fd) (hm : mg "body_kept" = some (.ref f)) (hb : Binds K fd ["body"] []) (m2 : mg "tuple" = none) (f1 : FnD P w K mg base C "is_positive" 2 false RIsPos) : ∀ m, FnD P w K mg base C "body_kept" (m + 3) false (RKept m) := by
  intro m
  induction m using Nat.strongRecOn with
  | _ m ih =>
  refine fnD_of2 (k := m + 2) [.no] ["body"] ["tuple"] [] F hm scKept hb (by decide +kernel) (fun ds n p q h ⟨d, b, e, z1, z2, z3, z4, z⟩ => ⟨d, b, e, z1, z2, z3, z4, h _ _ z⟩) (fun ds n p ⟨d, b, e, _⟩ => by subst e; rfl) ?_
  intro X e1 e2 e3 e4 e5 e6 hX hC ds n p ⟨d, b, e, ⟨l, hdl, hl⟩, ⟨mm, ts, hwf⟩, hdp, hsz, hp⟩
  subst e e1 e2 e3 e4 e5
  walk_at "up"
  refine stb_one ?_
  walk_at "go"
  refine ev_frz ?_
  refine evr_lc ["part"] ["part"] ["is_positive", "body_kept"] [] [("part", 1)] hX hC (by decide +kernel) (by decide +kernel) ?_
  have hlen := HP_len b hl
  have hbl := bdD_sz b
  refine ei_seq hdl ?_
  walk_at "go"
  refine ⟨rfl, fun i acc n' env' => acc ++ bdD (dropB i b) = bdD b ∧ n' = n ∧ env' = [.dat d, .no], ⟨rfl, rfl, rfl⟩, ?_, ?_⟩
  · rintro i d1 acc n' env' hd1 ⟨hacc, rfl, rfl⟩
    have hnx := dropB_succ i b
    have hwd := wfB_drop i b hwf
    have hpd := HP_drop i b hl
    have hdrop : l.drop i = d1 :: l.drop (i + 1) := by
      have hi := (List.getElem?_eq_some_iff.mp hd1)
      rw [List.drop_eq_getElem_cons hi.1, hi.2]
    have hal : acc.length ≤ 1000 := by
      have := congrArg List.length hacc
      rw [List.length_append] at this
      omega
    rw [hdrop] at hpd
    intro s H0 Cc cl fp hX' hC'
    refine egv_name (i := 1) hX' (by walk_at "lk") (by walk_at "mem") (by decide) ?_
    intro s H0 Cc cl fp hX' hC'
    refine ept_nil ?_
    refine iteT ?_
    intro s H0 Cc cl fp hX' hC'
    walk_at "up"
    refine ev_if ?_
    refine evt_val (fun _ => rfl) ?_
    cases hb2 : dropB i b with
    | nil => rw [hb2] at hpd; exact absurd hpd (by intro h; cases h)
    | u q r =>
      rw [hb2] at hpd hnx hacc hwd
      obtain ⟨l', e, _⟩ := hpd
      cases e
      have hq1 : 1 ≤ q := hwd.1
      refine ev_callD f1 hX' (by omega) (by walk_at "mem") ?_
      walk_at "go"
      refine ⟨_, rfl, rfl, true, by show D.bl (decide ((1 : Int) ≤ (q : Int))) = _; rw [decide_eq_true (by omega)], ?_⟩
      refine iteT ?_
      walk_at "go"
      refine ⟨by omega, ?_, rfl, rfl⟩
      rw [hnx, List.append_assoc]; exact hacc
    | g t b1 r =>
      rw [hb2] at hpd hnx hacc hwd
      obtain ⟨e, l', e1, ⟨e2, he2, hb1⟩, _⟩ := hpd
      cases e1
      have hq := dropB_sz i b
      rw [hb2] at hq
      have hq : szB b1 + 1 + szB r ≤ szB b := hq
      have hdp1 := dropB_dp i b
      rw [hb2] at hdp1
      have hdp1 : dpB b1 + 1 ≤ dpB b := Nat.le_trans (Nat.le_max_left _ _) hdp1
      have fm := ih (m - 1) (by omega)
      refine ev_callD f1 hX' (by omega) (by walk_at "mem") ?_
      walk_at "go"
      have hfin : ∀ d9 : D, d9 = .tup [.str t, .tup (bdD b1)] → acc.length < 100000 ∧ (acc ++ [d9]) ++ bdD (dropB (i + 1) b) = bdD b := fun d9 h => ⟨by omega, by rw [h, hnx, List.append_assoc]; exact hacc⟩
      rcases he2 with rfl | rfl
      · refine ⟨_, rfl, rfl, false, rfl, ?_⟩
        refine iteF ?_
        walk_at "go"
        refine ⟨e2, b1, rfl, hb1, ⟨_, _, hwd.2.2.2.1⟩, by omega, by omega, ?_⟩
        walk_at "go"
        exact ⟨(hfin _ rfl).1, (hfin _ rfl).2, rfl, rfl⟩
      · refine ⟨_, rfl, rfl, false, rfl, ?_⟩
        refine iteF ?_
        walk_at "go"
        refine ⟨e2, b1, rfl, hb1, ⟨_, _, hwd.2.2.2.1⟩, by omega, by omega, ?_⟩
        walk_at "go"
        exact ⟨(hfin _ rfl).1, (hfin _ rfl).2, rfl, rfl⟩
  · rintro acc n' env' ⟨h, rfl, rfl⟩
    rw [hlen, dropB_len] at h
    have h : acc = bdD b := by rw [← h]; exact (List.append_nil _).symm
    subst h
    refine ⟨rfl, _, rfl, ?_⟩
    walk_at "go"
    exact hp
end
/-! ## F9 -/
section
variable {P : Program} {w : World} {K : PySem.W.Frag} {mg : Str → Option Value} {base : Heap} {C : Addr}
/-! ### is_job_body -/
abbrev sJBody : Stmt := topS 15
theorem scJBody : FnScope ["thing", "within", "part"] ["thing", "within"] (defScope sJBody) := ⟨rfl, rfl, rfl, by decide +kernel, rfl, by decide +kernel, by decide +kernel⟩
def RJBody (m : Nat) : List D → Nat → (D → Nat → Prop) → Prop := fun ds n p => ∃ (d : D) (b : Bd) (wi ts : List Str), ds = [d, .tup (wi.map .str)] ∧ HB (HP b) d ∧ b ≠ .nil ∧ (∃ mm, wfB b mm ts) ∧ (∀ t ∈ ts, t ∈ things3 ∧ t ∉ wi) ∧ dpB b ≤ m ∧ szB b ≤ 1000 ∧ wi.length + m ≤ 100 ∧ p (.bl true) n
theorem ok_jbody {f : Addr} {fd : FuncData} (F : Fun K "is_job_body" "is_job_body" sJBody f fd) (hm : mg "is_job_body" = some (.ref f)) (hb : Binds K fd ["thing", "within"] []) (m1 : mg "len" = none) (f1 : FnD P w K mg base C "is_positive" 2 false RIsPos) (f2 : FnD P w K mg base C "is_list" 1 false RIsList) (f3 : FnD P w K mg base C "is_pair" 2 false RIsPair) (f4 : FnD P w K mg base C "is_word" 1 false RWord) : ∀ m, FnD P w K mg base C "is_job_body" (m + 3) false (RJBody m) := by
  intro m
  induction m using Nat.strongRecOn with
  | _ m ih =>
  refine fnD_of (k := m + 2) [.no] ["len", "is_positive", "is_list", "is_pair", "is_word", "is_job_body"] [] F hm scJBody hb (by decide +kernel) (fun ds n p q h ⟨d, b, wi, ts, e, z1, z2, z3, z4, z5, z6, z7, z⟩ => ⟨d, b, wi, ts, e, z1, z2, z3, z4, z5, z6, z7, h _ _ z⟩) (fun ds n p ⟨d, b, wi, ts, e, _⟩ => by subst e; rfl) ?_
  intro X e1 e2 e3 e4 e5 e6 hX hC ds n p ⟨d, b, wi, ts, e, ⟨l, hdl, hl⟩, hbn, ⟨mm, hwf⟩, hts, hdp, hsz, hwi, hp⟩
  subst e e1 e2 e3 e4 e5
  have hlen := HP_len b hl
  have hbl := bdD_sz b
  have hl0 : l.length ≠ 0 := by
    rw [hlen]
    cases b with
    | nil => exact absurd rfl hbn
    | u _ _ => exact Nat.succ_ne_zero _
    | g _ _ _ => exact Nat.succ_ne_zero _
  have hty : (tyD d).isSome = true := by rcases hdl with rfl | rfl <;> rfl
  have hisl : isListD d = true := by rcases hdl with rfl | rfl <;> rfl
  walk_at "up"
  refine stb_cons ?_
  refine st_if ?_
  refine EvT.imp (Q' := fun kk n1 env1 => kk = false ∧ n1 = n ∧ env1 = [.dat d, .dat (.tup (wi.map .str)), .no]) ?_ ?_
  · refine evt_of ?_
    refine evw_or ?_
    refine evt_not ?_
    refine evt_val (fun _ => rfl) ?_
    walk_at "go"
    refine ⟨d, rfl, hty, true, by rw [hisl], ?_⟩
    rw [if_neg (by decide)]
    refine evw_or1 ?_
    have hne : ¬ ((l.length : Int) = 0) := by omega
    rcases hdl with rfl | rfl
    · walk_at "go"
      exact ⟨decide_eq_false hne, rfl, rfl⟩
    · walk_at "go"
      exact ⟨decide_eq_false hne, rfl, rfl⟩
  · rintro kk n1 env1 ⟨rfl, rfl, rfl⟩
    refine iteF ?_
    refine stb_nil ?_
    refine stb_cons ?_
    refine st_for hX ?_
    refine ei_seq hdl ?_
    walk_at "go"
    refine ⟨rfl, fun i n' env' => ∃ s2, n' = n1 ∧ env' = [.dat d, .dat (.tup (wi.map .str)), s2], ⟨.no, rfl, rfl⟩, ?_, ?_⟩
    · rintro i d1 n' env' hd1 ⟨s2, rfl, rfl⟩
      have hwd := wfB_drop i b hwf
      have hpd := HP_drop i b hl
      have hdrop : l.drop i = d1 :: l.drop (i + 1) := by
        have hi := (List.getElem?_eq_some_iff.mp hd1)
        rw [List.drop_eq_getElem_cons hi.1, hi.2]
      rw [hdrop] at hpd
      refine eg_name (i := 2) hX (by walk_at "lk") (by walk_at "mem") ?_
      walk_at "up"
      refine stb_one ?_
      refine st_if ?_
      refine evt_not ?_
      refine evt_val (fun _ => rfl) ?_
      cases hb2 : dropB i b with
      | nil => rw [hb2] at hpd; exact absurd hpd (by intro h; cases h)
      | u q r =>
        rw [hb2] at hpd hwd
        obtain ⟨l', e, _⟩ := hpd
        cases e
        have hq1 : 1 ≤ q := hwd.1
        walk_at "go"
        refine ⟨_, rfl, rfl, true, by show D.bl (decide ((1 : Int) ≤ (q : Int))) = _; rw [decide_eq_true (by omega)], ?_⟩
        rw [if_neg (by decide)]
        refine stb_nil ?_
        exact ⟨_, rfl, rfl⟩
      | g t b1 r =>
        rw [hb2] at hpd hwd
        obtain ⟨e, l', e1, ⟨e2, he2, hb1⟩, _⟩ := hpd
        cases e1
        have hq := dropB_sz i b
        rw [hb2] at hq
        have hq : szB b1 + 1 + szB r ≤ szB b := hq
        have hdp1 := dropB_dp i b
        rw [hb2] at hdp1
        have hdp1 : dpB b1 + 1 ≤ dpB b := Nat.le_trans (Nat.le_max_left _ _) hdp1
        have fm := ih (m - 1) (by omega)
        obtain ⟨ht3, htw⟩ := hts t hwd.2.1
        obtain ⟨htok, _⟩ := things3_ok t ht3
        have htl : t.length ≤ 1000 := by
          rcases List.mem_cons.mp ht3 with rfl | h
          · decide
          · rcases List.mem_cons.mp h with rfl | h
            · decide
            · rw [List.mem_singleton.mp h]; decide
        have hrec : RJBody (m - 1) [e2, .tup ((wi ++ [t]).map .str)] n' fun d9 n9 => d9 = .bl true ∧ n9 = n' := ⟨e2, b1, wi ++ [t], ts.filter fun x => !decide (x = t), rfl, hb1, hwd.2.2.1, ⟨_, hwd.2.2.2.1⟩, fun x hx => by
          obtain ⟨h1, h2⟩ := List.mem_filter.mp hx
          refine ⟨(hts x h1).1, fun h => ?_⟩
          rcases List.mem_append.mp h with h | h
          · exact (hts x h1).2 h
          · rw [List.mem_singleton.mp h] at h2; simp at h2, by omega, by omega, by rw [List.length_append]; show wi.length + 1 + (m - 1) ≤ 100; omega, rfl, rfl⟩
        rcases he2 with rfl | rfl
        · walk_at "go"
          refine ⟨_, rfl, rfl, false, rfl, ?_⟩
          rw [if_pos (by decide)]
          refine stb_cons ?_
          refine st_if ?_
          refine EvT.imp (Q' := fun kk n2 env2 => kk = false ∧ n2 = n' ∧ env2 = [.dat d, .dat (.tup (wi.map .str)), .dat (.lst [.str t, e2])]) ?_ ?_
          rotate_left
          · rintro kk n2 env2 ⟨rfl, rfl, rfl⟩
            refine iteF ?_
            refine stb_nil ?_
            refine stb_one ?_
            refine st_if ?_
            refine evt_not ?_
            refine evt_val (fun _ => rfl) ?_
            refine ev_callD fm hX (by omega) (by walk_at "mem") ?_
            walk_at "go"
            refine o_addT (by rw [List.length_map]; show _ + 1 ≤ _; omega) ?_
            walk_at "go"
            have hmm : D.tup (wi.map .str ++ [.str t]) = .tup ((wi ++ [t]).map .str) := by rw [List.map_append]; rfl
            rw [hmm]
            obtain ⟨q1, q2, q3, q4, q5, q6, q7, q8, q9, q10, q11, q12, q13, q14⟩ := hrec
            refine ⟨q1, q2, q3, q4, q5, q6, q7, q8, q9, q10, q11, q12, true, rfl, ?_⟩
            rw [if_neg (by decide)]
            refine stb_nil ?_
            exact ⟨_, rfl, rfl⟩
          · refine evt_of ?_
            refine evw_or ?_
            refine evt_not ?_
            refine evt_val (fun _ => rfl) ?_
            walk_at "go"
            refine ⟨_, rfl, rfl, true, rfl, ?_⟩
            rw [if_neg (by decide)]
            refine evw_or ?_
            refine evt_not ?_
            refine evt_val (fun _ => rfl) ?_
            walk_at "go"
            refine ⟨_, rfl, rfl, fun z hz => by cases hz; exact htl, true, by rw [htok], ?_⟩
            rw [if_neg (by decide)]
            refine evw_or1 ?_
            walk_at "go"
            refine o_inT rfl flat_strs ?_
            refine ⟨false, by rw [inD_str, decide_eq_false htw], rfl, rfl, rfl⟩
        · walk_at "go"
          refine ⟨_, rfl, rfl, false, rfl, ?_⟩
          rw [if_pos (by decide)]
          refine stb_cons ?_
          refine st_if ?_
          refine EvT.imp (Q' := fun kk n2 env2 => kk = false ∧ n2 = n' ∧ env2 = [.dat d, .dat (.tup (wi.map .str)), .dat (.tup [.str t, e2])]) ?_ ?_
          rotate_left
          · rintro kk n2 env2 ⟨rfl, rfl, rfl⟩
            refine iteF ?_
            refine stb_nil ?_
            refine stb_one ?_
            refine st_if ?_
            refine evt_not ?_
            refine evt_val (fun _ => rfl) ?_
            refine ev_callD fm hX (by omega) (by walk_at "mem") ?_
            walk_at "go"
            refine o_addT (by rw [List.length_map]; show _ + 1 ≤ _; omega) ?_
            walk_at "go"
            have hmm : D.tup (wi.map .str ++ [.str t]) = .tup ((wi ++ [t]).map .str) := by rw [List.map_append]; rfl
            rw [hmm]
            obtain ⟨q1, q2, q3, q4, q5, q6, q7, q8, q9, q10, q11, q12, q13, q14⟩ := hrec
            refine ⟨q1, q2, q3, q4, q5, q6, q7, q8, q9, q10, q11, q12, true, rfl, ?_⟩
            rw [if_neg (by decide)]
            refine stb_nil ?_
            exact ⟨_, rfl, rfl⟩
          · refine evt_of ?_
            refine evw_or ?_
            refine evt_not ?_
            refine evt_val (fun _ => rfl) ?_
            walk_at "go"
            refine ⟨_, rfl, rfl, true, rfl, ?_⟩
            rw [if_neg (by decide)]
            refine evw_or ?_
            refine evt_not ?_
            refine evt_val (fun _ => rfl) ?_
            walk_at "go"
            refine ⟨_, rfl, rfl, fun z hz => by cases hz; exact htl, true, by rw [htok], ?_⟩
            rw [if_neg (by decide)]
            refine evw_or1 ?_
            walk_at "go"
            refine o_inT rfl flat_strs ?_
            refine ⟨false, by rw [inD_str, decide_eq_false htw], rfl, rfl, rfl⟩
    · rintro n' env' ⟨s2, rfl, rfl⟩
      walk_at "go"
      exact hp
end
/-! ## F10 -/
section
variable {P : Program} {w : World} {K : PySem.W.Frag} {mg : Str → Option Value} {base : Heap} {C : Addr}
/-! ### is_job -/
abbrev sIsJob : Stmt := topS 16
theorem scIsJob : FnScope ["thing", "priorities"] ["thing", "priorities"] (defScope sIsJob) := ⟨rfl, rfl, rfl, by decide +kernel, rfl, by decide +kernel, by decide +kernel⟩
/-- a job, handed -/
def HJ (d : D) (j : Jb) : Prop := ∃ e, (d = .lst [.int (j.pr : Nat), .int (j.ds : Nat), e] ∨ d = .tup [.int (j.pr : Nat), .int (j.ds : Nat), e]) ∧ HB (HP j.bd) e
def RIsJob : List D → Nat → (D → Nat → Prop) → Prop := fun ds n p => ∃ (d : D) (j : Jb) (ps : List Int), ds = [d, .lst (ps.map .int)] ∧ HJ d j ∧ OkJ j ∧ ((j.pr : Int) ∉ ps) ∧ p (.bl true) n
theorem ok_isJob {f : Addr} {fd : FuncData} (F : Fun K "is_job" "is_job" sIsJob f fd) (hm : mg "is_job" = some (.ref f)) (hb : Binds K fd ["thing", "priorities"] []) (m1 : mg "len" = none) (f1 : FnD P w K mg base C "is_positive" 2 false RIsPos) (f2 : FnD P w K mg base C "is_list" 1 false RIsList) (f3 : FnD P w K mg base C "is_job_body" 5 false (RJBody 2)) : FnD P w K mg base C "is_job" 6 false RIsJob := by
  refine fnD_of (k := 5) [] ["len", "is_positive", "is_list", "is_job_body"] [] F hm scIsJob hb (by decide +kernel) (fun ds n p q h ⟨d, j, ps, e, z1, z2, z3, z⟩ => ⟨d, j, ps, e, z1, z2, z3, h _ _ z⟩) (fun ds n p ⟨d, j, ps, e, _⟩ => by subst e; rfl) ?_
  intro X e1 e2 e3 e4 e5 e6 hX hC ds n p ⟨d, j, ps, e, ⟨e2', hd, hb2⟩, okj, hnp, hp⟩
  subst e e1 e2 e3 e4 e5
  have hp1 := okj.p1
  have hd1 := okj.d1
  have hsz := okj.sz
  have hx1 : D.bl (isPosD (.int (j.pr : Nat))) = .bl true := by show D.bl (decide ((1 : Int) ≤ (j.pr : Int))) = _; rw [decide_eq_true (by omega)]
  have hx2 : D.bl (isPosD (.int (j.ds : Nat))) = .bl true := by show D.bl (decide ((1 : Int) ≤ (j.ds : Int))) = _; rw [decide_eq_true (by omega)]
  have hni : inD (.int (j.pr : Nat)) (ps.map .int) = false := by
    unfold inD
    rw [flV_ints]
    show inV (.int (j.pr : Nat)) (ps.map .int) = false
    rw [inV_ints, decide_eq_false hnp]
  walk_at "up"
  refine stb_cons ?_
  refine st_if ?_
  rcases hd with rfl | rfl
  · refine EvT.imp (Q' := fun kk n1 env1 => kk = false ∧ n1 = n ∧ env1 = [.dat (.lst [.int (j.pr : Nat), .int (j.ds : Nat), e2']), .dat (.lst (ps.map .int))]) ?_ ?_
    · refine evt_of ?_
      refine evw_or ?_
      refine evt_not ?_
      refine evt_val (fun _ => rfl) ?_
      walk_at "go"
      refine ⟨_, rfl, rfl, true, rfl, ?_⟩
      rw [if_neg (by decide)]
      refine evw_or ?_
      walk_at "go"
      rw [if_neg (by simp)]
      refine evw_or ?_
      refine evt_not ?_
      refine evt_val (fun _ => rfl) ?_
      walk_at "go"
      refine ⟨_, rfl, rfl, true, hx1, ?_⟩
      rw [if_neg (by decide)]
      refine evw_or1 ?_
      refine evt_not ?_
      refine evt_val (fun _ => rfl) ?_
      walk_at "go"
      refine ⟨_, rfl, rfl, true, hx2, ?_⟩
      exact ⟨rfl, rfl, rfl⟩
    · rintro kk n1 env1 ⟨rfl, rfl, rfl⟩
      refine iteF ?_
      refine stb_nil ?_
      refine stb_one ?_
      walk_at "go"
      refine o_notinL rfl flat_ints ?_
      rw [hni]
      refine ⟨true, rfl, ?_⟩
      refine iteT ?_
      walk_at "go"
      refine ⟨e2', j.bd, [], things3, rfl, hb2, okj.ne, ⟨2, okj.wf⟩, fun t ht => ⟨ht, fun z => by cases z⟩, wfB_dp j.bd okj.wf, by omega, by decide, ?_⟩
      walk_at "go"
      exact hp
  · refine EvT.imp (Q' := fun kk n1 env1 => kk = false ∧ n1 = n ∧ env1 = [.dat (.tup [.int (j.pr : Nat), .int (j.ds : Nat), e2']), .dat (.lst (ps.map .int))]) ?_ ?_
    · refine evt_of ?_
      refine evw_or ?_
      refine evt_not ?_
      refine evt_val (fun _ => rfl) ?_
      walk_at "go"
      refine ⟨_, rfl, rfl, true, rfl, ?_⟩
      rw [if_neg (by decide)]
      refine evw_or ?_
      walk_at "go"
      rw [if_neg (by simp)]
      refine evw_or ?_
      refine evt_not ?_
      refine evt_val (fun _ => rfl) ?_
      walk_at "go"
      refine ⟨_, rfl, rfl, true, hx1, ?_⟩
      rw [if_neg (by decide)]
      refine evw_or1 ?_
      refine evt_not ?_
      refine evt_val (fun _ => rfl) ?_
      walk_at "go"
      refine ⟨_, rfl, rfl, true, hx2, ?_⟩
      exact ⟨rfl, rfl, rfl⟩
    · rintro kk n1 env1 ⟨rfl, rfl, rfl⟩
      refine iteF ?_
      refine stb_nil ?_
      refine stb_one ?_
      walk_at "go"
      refine o_notinL rfl flat_ints ?_
      rw [hni]
      refine ⟨true, rfl, ?_⟩
      refine iteT ?_
      walk_at "go"
      refine ⟨e2', j.bd, [], things3, rfl, hb2, okj.ne, ⟨2, okj.wf⟩, fun t ht => ⟨ht, fun z => by cases z⟩, wfB_dp j.bd okj.wf, by omega, by decide, ?_⟩
      walk_at "go"
      exact hp
end
/-! ## K11 -/
/-! ### dicts of lists of one's own -/
def getL (k : Str) (ks : List (Str × List D)) : Option (List D) := (ks.find? fun p => decide (p.1 = k)).map (·.2)
def putL (ks : List (Str × List D)) (k : Str) (d : List D) : List (Str × List D) := if (ks.any fun p => decide (p.1 = k)) then ks.map fun p => if p.1 = k then (k, d) else p else ks ++ [(k, d)]
theorem getL_cons {t k : Str} {d : List D} {ks : List (Str × List D)} : getL t ((k, d) :: ks) = if k = t then some d else getL t ks := by
  unfold getL
  rw [List.find?_cons]
  by_cases h : k = t
  · subst h; simp
  · simp [h]
theorem map_put_no {ks : List (Str × List D)} {k : Str} {d : List D} (h : k ∉ ks.map (·.1)) : (ks.map fun p => if p.1 = k then (k, d) else p) = ks := by
  induction ks with
  | nil => rfl
  | cons p r ih =>
    rw [List.map_cons, ih (fun z => h (by simp at z ⊢; exact .inr z)), if_neg (fun e => h (by simp [e]))]
section
variable {K : PySem.W.Frag} {C : Addr} {F H H' : Hp} {W : Addr → Option Tg} {t : Tg}
theorem RepL.frame {kvs : List (Key × V)} {ks : List (Str × List D)} {as : List Addr} (h : RepL K C F H W t kvs ks as) : (∀ a ∈ as, H' a = H a) → RepL K C F H' W t kvs ks as := by
  induction h with
  | nil => intro _; exact .nil
  | cons w g r na q ih => intro e; exact .cons w ((e _ List.mem_cons_self).trans g) r na (ih fun a ha => e a (List.mem_cons_of_mem _ ha))
theorem RepL.anyK {s : Str} {kvs : List (Key × V)} {ks : List (Str × List D)} {as : List Addr} (h : RepL K C F H W t kvs ks as) : (kvs.any fun kv => decide (kv.1 = Sum.inr s)) = ks.any fun p => decide (p.1 = s) := by
  induction h with
  | nil => rfl
  | cons w g r na q ih => rw [List.any_cons, List.any_cons, ih, inr_dec]
theorem RepL.len {kvs : List (Key × V)} {ks : List (Str × List D)} {as : List Addr} (h : RepL K C F H W t kvs ks as) : kvs.length = ks.length := by
  induction h with
  | nil => rfl
  | cons w g r na q ih => exact congrArg (· + 1) ih
theorem RepL.ad {kvs : List (Key × V)} {ks : List (Str × List D)} {as : List Addr} (h : RepL K C F H W t kvs ks as) : ∀ a ∈ as, W a = some t ∧ ∃ vs, H a = some (.lst vs) := by
  induction h with
  | nil => intro a ha; cases ha
  | cons w g r na q ih => intro a ha; rcases List.mem_cons.mp ha with e | ha; exact e ▸ ⟨w, _, g⟩; exact ih a ha
/-- the list at a key; it is changed -/
theorem RepL.at {s : Str} {kvs : List (Key × V)} {ks : List (Str × List D)} {as : List Addr} (h : RepL K C F H W t kvs ks as) : ∀ {ds : List D}, (ks.map (·.1)).Nodup → getL s ks = some ds → ∃ b vs, valV kvs (.inr s) = some (.ref b) ∧ b ∈ as ∧ W b = some t ∧ H b = some (.lst vs) ∧ Reps K C F vs ds ∧
    ∀ vs' ds', Reps K C F vs' ds' → RepL K C F (upd H b (.lst vs')) W t kvs (ks.map fun p => if p.1 = s then (s, ds') else p) as := by
  induction h with
  | nil => intro ds _ h; cases h
  | @cons k b vs ds0 r r' as w g rp na q ih =>
    intro ds hn hs
    rw [getL_cons] at hs
    rw [List.map_cons, List.nodup_cons] at hn
    by_cases e : k = s
    · subst e
      rw [if_pos rfl] at hs
      cases hs
      refine ⟨b, vs, valV_pos rfl, List.mem_cons_self, w, g, rp, fun vs' ds' rp' => ?_⟩
      rw [List.map_cons, if_pos rfl, map_put_no hn.1]
      exact .cons w upd_same rp' na (q.frame fun a ha => upd_ne fun z => na (by rw [← z]; exact ha))
    · rw [if_neg e] at hs
      obtain ⟨b', vs', h1, h2, h3, h4, h5, h6⟩ := ih hn.2 hs
      have e2 : ¬ (Sum.inr k : Key) = Sum.inr s := fun q => e (Sum.inr.inj q)
      refine ⟨b', vs', (valV_neg (p := (Sum.inr k, V.ref b)) e2).trans h1, List.mem_cons_of_mem _ h2, h3, h4, h5, fun vs'' ds'' rp'' => ?_⟩
      rw [List.map_cons, if_neg e]
      exact .cons w ((upd_ne fun z => na (by rw [z]; exact h2)).trans g) rp na (h6 vs'' ds'' rp'')
/-- a new list is put at a key -/
theorem RepL.put {s : Str} {b : Addr} {vs : List V} {ds : List D} (w : W b = some t) (g : H b = some (.lst vs)) (rp : Reps K C F vs ds) {kvs : List (Key × V)} {ks : List (Str × List D)} {as : List Addr} (h : RepL K C F H W t kvs ks as) : b ∉ as → (ks.map (·.1)).Nodup →
    ∃ as', (∀ a ∈ as', a = b ∨ a ∈ as) ∧ RepL K C F H W t (putK kvs (.inr s) (.ref b)) (putL ks s ds) as' := by
  have app : ∀ {kvs : List (Key × V)} {ks : List (Str × List D)} {as : List Addr}, RepL K C F H W t kvs ks as → b ∉ as → RepL K C F H W t (kvs ++ [(.inr s, .ref b)]) (ks ++ [(s, ds)]) (as ++ [b]) := by
    intro kvs ks as h
    induction h with
    | nil => intro _; exact .cons w g rp (fun z => nomatch z) .nil
    | @cons k b' vs' ds' r r' as w' g' rp' na q ih =>
      intro hb
      exact .cons w' g' rp' (fun z => by
        rcases List.mem_append.mp z with z | z
        · exact na z
        · exact hb (by rw [List.mem_singleton.mp z]; exact List.mem_cons_self)) (ih fun z => hb (List.mem_cons_of_mem _ z))
  have mp : ∀ {kvs : List (Key × V)} {ks : List (Str × List D)} {as : List Addr}, RepL K C F H W t kvs ks as → b ∉ as → (ks.map (·.1)).Nodup → ∃ as', (∀ a ∈ as', a = b ∨ a ∈ as) ∧ (s ∉ ks.map (·.1) → b ∉ as') ∧ RepL K C F H W t (kvs.map fun kv => if kv.1 = Sum.inr s then (kv.1, .ref b) else kv) (ks.map fun p => if p.1 = s then (s, ds) else p) as' := by
    intro kvs ks as h
    induction h with
    | nil => intro _ _; exact ⟨[], (fun a ha => (List.not_mem_nil ha).elim), (fun _ z => List.not_mem_nil z), RepL.nil⟩
    | @cons k b' vs' ds' r r' as w' g' rp' na q ih =>
      intro hb hn
      rw [List.map_cons, List.nodup_cons] at hn
      have hb' : b ∉ as := fun z => hb (List.mem_cons_of_mem _ z)
      obtain ⟨as', h1, h2, h3⟩ := ih hb' hn.2
      by_cases e : k = s
      · subst e
        refine ⟨b :: as', fun a ha => ?_, fun z => absurd (by simp) z, ?_⟩
        · rcases List.mem_cons.mp ha with e | ha
          · exact .inl e
          · exact (h1 a ha).imp_right (List.mem_cons_of_mem _)
        · rw [List.map_cons, List.map_cons, if_pos rfl, if_pos rfl]
          exact .cons w g rp (h2 hn.1) h3
      · have e2 : ¬ (Sum.inr k : Key) = Sum.inr s := fun q => e (Sum.inr.inj q)
        refine ⟨b' :: as', fun a ha => ?_, fun z z2 => ?_, ?_⟩
        · rcases List.mem_cons.mp ha with e | ha
          · exact .inr (e ▸ List.mem_cons_self)
          · exact (h1 a ha).imp_right (List.mem_cons_of_mem _)
        · rcases List.mem_cons.mp z2 with e | z2
          · exact hb (e ▸ List.mem_cons_self)
          · exact h2 (fun y => z (List.mem_cons_of_mem _ y)) z2
        · rw [List.map_cons, List.map_cons, if_neg e2, if_neg e]
          exact .cons w' g' rp' (fun z => by
            rcases h1 b' z with e | z
            · exact hb (e ▸ List.mem_cons_self)
            · exact na z) h3
  intro hb hn
  unfold putK putL
  rw [h.anyK]
  split
  · obtain ⟨as', h1, _, h3⟩ := mp h hb hn
    exact ⟨as', h1, h3⟩
  · exact ⟨as ++ [b], fun a ha => by
      rcases List.mem_append.mp ha with h | h
      · exact .inr h
      · exact .inl (List.mem_singleton.mp h), app h hb⟩
end
section
variable {K : PySem.W.Frag} {C : Addr} {F H : Hp} {W : Addr → Option Tg} {B : Bs} {ts : List (V × TD)} {n : Nat} {env : En} {σ : St}
theorem Stt.slot {i : Nat} {sl : Sl} (S : Stt K C B F W ts n env σ H) (hs : SlOk K C F H W B i σ[i]? sl) : Stt K C B F W ts n (env.set i sl) σ H := by
  refine ⟨S.ex1, S.ex2, S.base, S.new, S.own, S.pool, by simpa using S.len, fun j s h => ?_, S.temps⟩
  by_cases e : i = j
  · subst e
    have hi : i < env.length := by
      have := (List.getElem?_eq_some_iff.mp h).1
      simpa using this
    rw [List.getElem?_set_self hi] at h
    cases h
    exact hs
  · rw [List.getElem?_set_ne e] at h
    exact S.slots j s h
/-- an empty dict is one of lists -/
theorem Stt.dcl0 {i : Nat} (S : Stt K C B F W ts n env σ H) (he : env[i]? = some (.dct [])) : Stt K C B F W ts n (env.set i (.dcl [])) σ H := by
  refine S.slot ?_
  have s := S.slots i _ he
  generalize σ[i]? = o at s ⊢
  cases s with
  | dct w g r => cases r; exact .dcl w g .nil
/-- the last temp, a new list, belongs to slot i now -/
theorem Stt.give {i : Nat} {v : V} {ds : List D} (S : Stt K C B F W ((v, .fl ds) :: ts) n env σ H) : ∃ b vs W', v = .ref b ∧ W b = some (.tp ts.length) ∧ W' b = some (.sl i) ∧ (∀ a, a ≠ b → W' a = W a) ∧ H b = some (.lst vs) ∧ Reps K C F vs ds ∧ Stt K C B F W' ts n env σ H := by
  have t := S.temps.1
  generalize hv : v = v' at t
  cases t with
  | @fl b vs _ w g r =>
    refine ⟨b, vs, Stt.retag W b (some (.sl i)), rfl, w, Stt.retag_same, fun a h => Stt.retag_ne h, g, r, S.ex1, S.ex2, S.base, S.new, fun a u h => ?_, S.pool, S.len, fun j sl h => ?_, ?_⟩
    · by_cases e : a = b
      · subst e; exact S.own a _ w
      · rw [Stt.retag_ne e] at h; exact S.own a u h
    · refine (S.slots j sl h).mono LeR.refl (fun _ _ _ h => h) fun a ha => ?_
      have : a ≠ b := fun z => by subst z; rw [w] at ha; cases ha
      rw [Stt.retag_ne this]; exact ha
    · refine TsOk.mono LeR.refl (fun _ _ _ _ _ h => h) (fun a j hj ha => ?_) S.temps.2
      have : a ≠ b := fun z => by subst z; rw [w] at ha; cases ha; exact absurd hj (Nat.lt_irrefl _)
      rw [Stt.retag_ne this]; exact ha
/-- x[k] = a new list -/
theorem Stt.putL {i : Nat} {v : V} {ds : List D} {ks : List (Str × List D)} {s : Str} (S : Stt K C B F W ((v, .fl ds) :: ts) n env σ H) (he : env[i]? = some (.dcl ks)) (hn : (ks.map (·.1)).Nodup) :
    ∃ a kvs, σ[i]? = some (some (.ref a)) ∧ H a = some (.dK kvs) ∧ kvs.length = ks.length ∧ ∃ W', Stt K C B F W' ts n (env.set i (.dcl (DL.putL ks s ds))) σ (upd H a (.dK (putK kvs (.inr s) v))) := by
  obtain ⟨b, vs, W', ev, wb, wb', wo, g, r, S'⟩ := S.give (i := i)
  subst ev
  have sl := S.slots i _ he
  generalize hx : σ[i]? = o at sl
  cases sl with
  | @dcl a kvs _ as w h q =>
    have hab : a ≠ b := fun z => by subst z; rw [h] at g; cases g
    have wa : W' a = some (.sl i) := (wo a hab).trans w
    have q' : RepL K C F H W' (.sl i) kvs ks as := q.mono LeR.refl (fun _ _ _ h => h) fun x hx => by
      have : x ≠ b := fun z => by subst z; rw [wb] at hx; cases hx
      rw [wo x this]; exact hx
    have hb : b ∉ as := fun z => by have := (q.ad b z).1; rw [wb] at this; cases this
    obtain ⟨as', h1, h2⟩ := q'.put (s := s) wb' g r hb hn
    refine ⟨a, kvs, rfl, h, q.len, W', S'.change wa ?_⟩
    rw [hx]
    refine .dcl (as := as') wa upd_same (h2.frame fun x hx => upd_ne fun z => ?_)
    obtain ⟨_, vs', e⟩ := h2.ad x hx
    rw [z, h] at e; cases e
/-- the list at x[k]: it is changed -/
theorem Stt.atL {i : Nat} {ds : List D} {ks : List (Str × List D)} {s : Str} (S : Stt K C B F W ts n env σ H) (he : env[i]? = some (.dcl ks)) (hn : (ks.map (·.1)).Nodup) (hs : getL s ks = some ds) :
    ∃ a kvs b vs, σ[i]? = some (some (.ref a)) ∧ H a = some (.dK kvs) ∧ valV kvs (.inr s) = some (.ref b) ∧ H b = some (.lst vs) ∧ Reps K C F vs ds ∧
      ∀ vs' ds', Reps K C F vs' ds' → Stt K C B F W ts n (env.set i (.dcl (ks.map fun p => if p.1 = s then (s, ds') else p))) σ (upd H b (.lst vs')) := by
  have sl := S.slots i _ he
  generalize hx : σ[i]? = o at sl
  cases sl with
  | @dcl a kvs _ as w h q =>
    obtain ⟨b, vs, h1, h2, h3, h4, h5, h6⟩ := q.at hn hs
    refine ⟨a, kvs, b, vs, rfl, h, h1, h4, h5, fun vs' ds' rp => S.change h3 ?_⟩
    rw [hx]
    have hab : a ≠ b := fun z => by subst z; rw [h] at h4; cases h4
    exact .dcl (as := as) w ((upd_ne hab).trans h) (h6 vs' ds' rp)
/-- x's lists are data from now on -/
theorem Stt.frzDL {i : Nat} {ks : List (Str × List D)} (S : Stt K C B F W ts n env σ H) (he : env[i]? = some (.dcl ks)) : ∃ F' W' v, σ[i]? = some (some v) ∧ Stt K C B F' W' ((v, .dat (.dct (ks.map fun p => (p.1, .lst p.2)))) :: ts) n (env.set i (.dat (.dct (ks.map fun p => (p.1, .lst p.2))))) σ H := by
  have hi := (List.getElem?_eq_some_iff.mp he).1
  have s := S.slots i _ he
  generalize hx : σ[i]? = x at s
  cases s with
  | @dcl a kvs _ as w h q =>
    have fi : ∀ b, W b = some (.sl i) → Stt.Fi W F H i b = H b := fun b h => by unfold Stt.Fi; rw [if_pos h]
    have fo : ∀ b, W b ≠ some (.sl i) → Stt.Fi W F H i b = F b := fun b h => by unfold Stt.Fi; rw [if_neg h]
    have eF : Ex F (Stt.Fi W F H i) := fun b o h => by
      rw [fo b fun z => by rw [(S.own b _ z).1] at h; cases h]
      exact h
    have l : LeR K F (Stt.Fi W F H i) := LeR.of eF
    let W' : Addr → Option Tg := fun b => if W b = some (.sl i) then none else W b
    have wn : ∀ b t, W b = some t → t ≠ .sl i → W' b = some t := fun b t hb ht => by
      show (if W b = some (.sl i) then none else W b) = _
      rw [if_neg (fun z => ht (Option.some.inj (hb.symm.trans z)))]; exact hb
    have wo : ∀ b t, W' b = some t → W b = some t ∧ t ≠ .sl i := fun b t hb => by
      have hb : (if W b = some (.sl i) then none else W b) = some t := hb
      by_cases z : W b = some (.sl i)
      · rw [if_pos z] at hb; cases hb
      · rw [if_neg z] at hb; exact ⟨hb, fun y => z (by rw [hb, y])⟩
    have rep : Rep K C (Stt.Fi W F H i) (.ref a) (.dct (ks.map fun p => (p.1, .lst p.2))) := .dct (.inl ((fi _ w).trans h)) (RepL.dct l (fun a o h1 h2 => (fi a h1).trans h2) q)
    refine ⟨Stt.Fi W F H i, W', .ref a, rfl, S.ex1.trans eF, fun b o h => ?_, S.base, fun b o h => ?_, fun b t hb => ?_, fun hp => ?_, by simpa using S.len, fun j sl hj => ?_, ⟨.dat rep, ?_⟩⟩
    · by_cases z : W b = some (.sl i)
      · rw [fi b z] at h; exact h
      · rw [fo b z] at h; exact S.ex2 b o h
    · by_cases z : W b = some (.sl i)
      · exact .inr (S.own b _ z).2.1
      · rw [fo b z] at h; exact S.new b o h
    · obtain ⟨h1, h2⟩ := wo b t hb
      obtain ⟨h3, h4⟩ := S.own b t h1
      exact ⟨by rw [fo b fun z => h2 (Option.some.inj (h1.symm.trans z))]; exact h3, h4⟩
    · obtain ⟨h1, ⟨u, h2⟩, h3⟩ := S.pool hp
      refine ⟨?_, ⟨u, h2⟩, h3⟩
      rw [fo B.p fun z => by rw [(S.own _ _ z).2.1] at h2; cases h2]
      exact h1
    · by_cases e : i = j
      · subst e
        rw [List.getElem?_set_self hi] at hj
        cases hj
        rw [hx]
        exact .dat rep
      · rw [List.getElem?_set_ne e] at hj
        exact (S.slots j sl hj).mono l (fun _ _ _ h => h) fun b hb => wn b _ hb fun z => by cases z; exact e rfl
    · exact TsOk.mono l (fun _ _ _ _ _ h => h) (fun b j _ hb => wn b _ hb fun z => by cases z) S.temps
end
section
variable {X : Cx} {C : Addr} {k : Nat} {N Vn Ln Gn : List Str} {n : Nat} {env : En} {Q : QE} {QG : QN} {QR' : QR} {QA' : QA} {x y : Str} {p p2 pos : Pos} {e a b c : Expr} {es : List Expr} {d : D} {E : EnD} {st : Stmt} {sts : List Stmt}
theorem stb_dcl0 {i : Nat} (hl : Lk N env x i (.dct [])) (h : StB X C sts n (env.set i (.dcl [])) E) : StB X C sts n env E := fun B ts σ H Z S h1 h2 h3 h4 => by
  obtain ⟨F, W, S⟩ := S
  exact h B ts σ H Z ⟨F, W, S.dcl0 hl.ix.2⟩ h1 h2 h3 h4
theorem stb_frzDL {i : Nat} {ks : List (Str × List D)} (hl : Lk N env x i (.dcl ks)) (h : StB X C sts n (env.set i (.dat (.dct (ks.map fun p => (p.1, .lst p.2))))) E) : StB X C sts n env E := fun B ts σ H Z S h1 h2 h3 h4 => by
  obtain ⟨F, W, S⟩ := S
  obtain ⟨F', W', v, _, S'⟩ := S.frzDL hl.ix.2
  exact h B ts σ H Z ⟨F', W', S'.pop⟩ h1 h2 h3 h4
/-- x[k] = a new list -/
theorem eg_putL {i : Nat} {ds : List D} {ks0 : List (Str × List D)} (hX : XOk X k N Vn Ln Gn) (hl : Lk N env x i (.dcl ks0)) (hv : x ∈ Vn) (h : Ev X C b n env fun dk n1 env1 => ∃ s ks, dk = .str s ∧ env1[i]? = some (.dcl ks) ∧ (ks.map (·.1)).Nodup ∧ ks.length < 100000 ∧ QG n1 (env1.set i (.dcl (putL ks s ds))))
    (ha : ∀ v, assign (.Subscript (.Name x p) b pos) X.env v = (do
      let ov ← holding [v] (eval (.Name x p) X.env)
      let iv ← holding [v, ov] (eval b X.env)
      standAt pos
      holding [v, ov, iv] (setItem ov iv v)
      release [v, ov, iv] []) := by intro _; rfl) : EvG X C (.Subscript (.Name x p) b pos) (.fl ds) n env QG := fun B ts v σ H R S q => by
  obtain ⟨h1, h2⟩ := hl.ix
  obtain ⟨v1, v2, v3⟩ := hX.vis x hv
  obtain ⟨F, W, S0⟩ := id S
  have s := S0.slots i _ h2
  generalize hx : σ[i]? = o at s
  refine of_pg (pg_sub (pe_var (hX.get h1) v1 v2 v3) pe_t (set_dict hX.hu) ha) ?_
  cases s with
  | @dcl a0 kvs0 _ as0 w0 g0 r0 =>
    refine ⟨.ref a0, hx, h B _ σ H _ S fun vk H1 dk n1 env1 ⟨s, ks, hd, he, hn, hz, hq⟩ S1 => ?_⟩
    subst hd
    obtain ⟨F1, W1, S1⟩ := S1
    have t1 := S1.temps.1
    generalize hvk : vk = vk' at t1
    cases t1 with
    | dat rk =>
      have rk : Rep X.K C F1 vk' (.str s) := rk
      cases rk
      subst hvk
      obtain ⟨a, kvs, e1, e2, e3, W2, S2⟩ := S1.pop.putL (s := s) he hn
      rw [hx] at e1
      cases e1
      refine ⟨a0, _, rfl, .inl ⟨kvs, .inr s, e2, rfl, Nat.lt_of_lt_of_le (by rw [e3]; exact hz) (by decide), rfl⟩, ?_⟩
      exact q n1 _ σ _ hq ⟨F1, W2, S2⟩
/-- x[k][j] = data -/
theorem eg_putLL {i j : Nat} {jj : Nat} {pj : Pos} {ks0 : List (Str × List D)} (hX : XOk X k N Vn Ln Gn) (hl : Lk N env x i (.dcl ks0)) (hv : x ∈ Vn) (hp : PlainIx b) (h : Ev X C b n env fun dk n1 env1 => ∃ s ks ds, dk = .str s ∧ env1[i]? = some (.dcl ks) ∧ (ks.map (·.1)).Nodup ∧ getL s ks = some ds ∧ j < ds.length ∧ QG n1 (env1.set i (.dcl (ks.map fun p => if p.1 = s then (s, ds.set j d) else p))))
    (ha : ∀ v, assign (.Subscript (.Subscript (.Name x p) b p2) (.Constant (.int (j : Nat)) jj pj) pos) X.env v = (do
      let ov ← holding [v] (eval (.Subscript (.Name x p) b p2) X.env)
      let iv ← holding [v, ov] (eval (.Constant (.int (j : Nat)) jj pj) X.env)
      standAt pos
      holding [v, ov, iv] (setItem ov iv v)
      release [v, ov, iv] []) := by intro _; rfl) : EvG X C (.Subscript (.Subscript (.Name x p) b p2) (.Constant (.int (j : Nat)) jj pj) pos) (.dat d) n env QG := fun B ts v σ H R S q => by
  obtain ⟨h1, h2⟩ := hl.ix
  obtain ⟨v1, v2, v3⟩ := hX.vis x hv
  obtain ⟨F, W, S0⟩ := id S
  have s := S0.slots i _ h2
  generalize hx : σ[i]? = o at s
  refine of_pg (pg_sub (pe_ix (ix_dict hX.hu) (pe_var (hX.get h1) v1 v2 v3) pe_t hp) pe_int set_list ha) ?_
  cases s with
  | @dcl a0 kvs0 _ as0 w0 g0 r0 =>
    refine ⟨.ref a0, hx, h B _ σ H _ S fun vk H1 dk n1 env1 ⟨s, ks, ds, hd, he, hn, hs, hj, hq⟩ S1 => ?_⟩
    subst hd
    obtain ⟨F1, W1, S1⟩ := S1
    have t1 := S1.temps.1
    generalize hvk : vk = vk' at t1
    cases t1 with
    | dat rk =>
      have rk : Rep X.K C F1 vk' (.str s) := rk
      cases rk
      subst hvk
      have S2 := S1.pop
      have t2 := S2.temps.1
      cases t2 with
      | dat rv =>
        obtain ⟨a, kvs, b', vs, e1, e2, e3, e4, e5, e6⟩ := S2.pop.atL he hn hs
        rw [hx] at e1
        cases e1
        refine ⟨a0, .ref b', rfl, .inl ⟨kvs, .inr s, .inl e2, rfl, e3.symm⟩, ?_⟩
        refine ⟨b', vs, (j : Nat), j, rfl, rfl, e4, ?_, ?_⟩
        · have hl' := e5.length
          unfold ixN
          rw [if_pos (by omega), if_pos (by omega)]
          simp
        · exact q n1 _ σ _ hq ⟨F1, W1, e6 _ _ (e5.set j rv)⟩
/-- a, b = x[k] -/
theorem st_unpL {i : Nat} {ks0 : List (Str × List D)} {tgs : List Expr} {kt : Nat} {pt : Pos} (hX : XOk X k N Vn Ln Gn) (hl : Lk N env x i (.dcl ks0)) (hv : x ∈ Vn) (hp : PlainIx b) (h : Ev X C b n env fun dk n1 env1 => ∃ s ks ds, dk = .str s ∧ env1[i]? = some (.dcl ks) ∧ (ks.map (·.1)).Nodup ∧ getL s ks = some ds ∧ (assignEach tgs X.env).length = ds.length ∧ EvGs X C tgs ds n1 env1 E.nx)
    (hst : (assignEach tgs X.env).findIdx? (·.1) = none := by rfl) (hs : swapsWithSole [.Tuple tgs kt pt] (.Subscript (.Name x p) b p2) pos.line X.env = pure false := by rfl) (hw : swappedStores [.Tuple tgs kt pt] (.Subscript (.Name x p) b p2) X.env = pure none := by rfl)
    (hh : (assignEach [.Tuple tgs kt pt] X.env).map (·.2) = [assign (.Tuple tgs kt pt) X.env] := by rfl) : StS X C (.Assign [.Tuple tgs kt pt] (.Subscript (.Name x p) b p2) pos) n env E := fun B ts σ H Z S q1 _ _ _ => by
  obtain ⟨h1, h2⟩ := hl.ix
  obtain ⟨v1, v2, v3⟩ := hX.vis x hv
  obtain ⟨F, W, S0⟩ := id S
  have s := S0.slots i _ h2
  generalize hx : σ[i]? = o at s
  refine of_ps (ps_asg (pe_ix (ix_dict hX.hu) (pe_var (hX.get h1) v1 v2 v3) pe_t hp) (pg_lst (n := (assignEach tgs X.env).length) hX.calm pgs_t rfl hst) hs hw hh) ?_
  cases s with
  | @dcl a0 kvs0 _ as0 w0 g0 r0 =>
    refine ⟨.ref a0, hx, h B _ σ H _ S fun vk H1 dk n1 env1 ⟨s, ks, ds, hd, he, hn, hs, hj, hq⟩ S1 => ?_⟩
    subst hd
    obtain ⟨F1, W1, S1⟩ := S1
    have t1 := S1.temps.1
    generalize hvk : vk = vk' at t1
    cases t1 with
    | dat rk =>
      have rk : Rep X.K C F1 vk' (.str s) := rk
      cases rk
      subst hvk
      obtain ⟨a, kvs, b', vs, e1, e2, e3, e4, e5, e6⟩ := S1.pop.atL he hn hs
      rw [hx] at e1
      cases e1
      refine ⟨a0, .ref b', rfl, .inl ⟨kvs, .inr s, .inl e2, rfl, e3.symm⟩, ?_⟩
      refine ⟨b', vs, rfl, SqL.of e4, by rw [e5.length, hj], ?_⟩
      have pushAll : ∀ {ws : List V} {es : List D} {us : List (V × TD)}, Reps X.K C F1 ws es → Stt X.K C B F1 W1 us n1 env1 σ H1 → Stt X.K C B F1 W1 (stk ws (es.map .dat) us) n1 env1 σ H1 := by
        intro ws
        induction ws with
        | nil => intro es us r S; cases r; exact S
        | cons w ws ih =>
          intro es us r S
          cases r with
          | cons r1 r2 => exact ih r2 (S.push r1)
      exact hq B ts vs σ H1 _ e5.length ⟨F1, W1, pushAll e5 S1.pop⟩ q1
/-- x[k].append(z) -/
theorem ev_appL {i iz : Nat} {z : Str} {pz apos cpos : Pos} {ks0 : List (Str × List D)} (hX : XOk X k N Vn Ln Gn) (hl : Lk N env x i (.dcl ks0)) (hv : x ∈ Vn) (hp : PlainIx b) (hz : Lk N env z iz (.dat d)) (hzv : z ∈ Vn)
    (h : Ev X C b n env fun dk n1 env1 => ∃ s ds, dk = .str s ∧ env1 = env ∧ (ks0.map (·.1)).Nodup ∧ getL s ks0 = some ds ∧ ds.length < 100000 ∧ Q .non n1 (env.set i (.dcl (ks0.map fun p => if p.1 = s then (s, ds ++ [d]) else p))))
    (hbase : attributeBase (.Subscript (.Name x p) b p2) "append" X.env (eval (.Subscript (.Name x p) b p2) X.env) = eval (.Subscript (.Name x p) b p2) X.env := by rfl)
    (hfew : ((backTo cpos (starEach [.Name z pz] X.env)).all (fun x => !x.1) && (backToKw cpos (keywordEach [] X.env)).all (fun x => x.1.isSome) && decide ([Expr.Name z pz].length + ([] : List Keyword).length + (if ([] : List Keyword).isEmpty then 0 else 1) < 30)) = true := by rfl)
    (hline : (apos.endLine == cpos.line) = true := by rfl) (hs : starEach [.Name z pz] X.env = (false, eval (.Name z pz) X.env) :: starEach [] X.env := by rfl) (hplain : (backTo cpos (starEach [] X.env)).any (·.1) = false := by rfl) : Ev X C (.Call (.Attribute (.Subscript (.Name x p) b p2) "append" apos) [.Name z pz] [] cpos) n env Q := fun B ts σ H R S q => by
  obtain ⟨h1, h2⟩ := hl.ix
  obtain ⟨v1, v2, v3⟩ := hX.vis x hv
  obtain ⟨z1, z2⟩ := hz.ix
  obtain ⟨y1, y2, y3⟩ := hX.vis z hzv
  refine of_pe (pe_bm PySem.F.plainAttrs_list PySem.F.slot_list_append PySem.F.type_list_append mt_append (pe_ix (ix_dict hX.hu) (pe_var (hX.get h1) v1 v2 v3) pe_t hp) (pa_cons (pe_var (hX.get z1) y1 y2 y3) pa_nil hs) hbase hfew hline hs hplain) ?_
  obtain ⟨F, W, S0⟩ := id S
  have s := S0.slots i _ h2
  generalize hx : σ[i]? = o at s
  cases s with
  | @dcl a0 kvs0 _ as0 w0 g0 r0 =>
    refine ⟨.ref a0, hx, h B _ σ H _ S fun vk H1 dk n1 env1 ⟨s, ds, hd, ee, hn, hs, hj, hq⟩ S1 => ?_⟩
    subst hd ee
    obtain ⟨F1, W1, S1⟩ := S1
    have t1 := S1.temps.1
    generalize hvk : vk = vk' at t1
    cases t1 with
    | dat rk =>
      have rk : Rep X.K C F1 vk' (.str s) := rk
      cases rk
      subst hvk
      obtain ⟨a, kvs, b', vs, e1, e2, e3, e4, e5, e6⟩ := S1.pop.atL h2 hn hs
      rw [hx] at e1
      cases e1
      have sz := S1.slots iz _ z2
      generalize hxz : σ[iz]? = oz at sz
      cases sz with
      | @dat vz _ rz =>
        refine ⟨a0, .ref b', rfl, .inl ⟨kvs, .inr s, .inl e2, rfl, e3.symm⟩, .inl ⟨rfl, _, SqL.of e4⟩, ?_⟩
        refine ⟨vz, hxz, b', vs, vz, rfl, rfl, e4, Nat.lt_of_lt_of_le (by rw [e5.length]; exact hj) (by decide), ?_⟩
        exact q .non _ .non n1 _ hq ⟨F1, W1, (e6 _ _ (e5.append (.one rz))).push .non⟩
/-- targets of any kind, from a written pair of which the first is data -/
theorem Stt.swap1 {K : PySem.W.Frag} {B : Bs} {F H : Hp} {W : Addr → Option Tg} {ts : List (V × TD)} {σ : St} {v w : V} {td : TD} (S : Stt K C B F W ((w, td) :: (v, .dat d) :: ts) n env σ H) : ∃ W', Stt K C B F W' ((v, .dat d) :: (w, td) :: ts) n env σ H := by
  obtain ⟨t1, t2, t3⟩ := S.temps
  have rv : Rep K C F v d := by cases t2 with | dat r => exact r
  have fin : ∀ W', (∀ b u, W' b = some u → F b = none ∧ B.H b = none ∧ ∃ o, H b = some o) → (∀ b, (∃ j, W b = some (.sl j)) ∨ (∃ j, j < ts.length ∧ W b = some (.tp j)) → W' b = W b) → TdOk K C F H W' B ts.length w td → Stt K C B F W' ((v, .dat d) :: (w, td) :: ts) n env σ H := by
    intro W' h1 h2 h3
    refine ⟨S.ex1, S.ex2, S.base, S.new, h1, S.pool, S.len, fun j sl h => ?_, .dat rv, h3, ?_⟩
    · exact (S.slots j sl h).mono LeR.refl (fun _ _ _ h => h) fun b hb => by rw [h2 b (.inl ⟨j, hb⟩)]; exact hb
    · exact TsOk.mono LeR.refl (fun _ _ _ _ _ h => h) (fun b j hj hb => by rw [h2 b (.inr ⟨j, hj, hb⟩)]; exact hb) t3
  have go : ∀ (a : Addr), W a = some (.tp (ts.length + 1)) → (∀ W', W' a = some (.tp ts.length) → TdOk K C F H W' B ts.length w td) → ∃ W', Stt K C B F W' ((v, .dat d) :: (w, td) :: ts) n env σ H := by
    intro a hw h3
    refine ⟨Stt.retag W a (some (.tp ts.length)), fin _ (fun b u h => ?_) (fun b h => ?_) (h3 _ Stt.retag_same)⟩
    · by_cases e : b = a
      · subst e; exact S.own b _ hw
      · rw [Stt.retag_ne e] at h; exact S.own b u h
    · have : b ≠ a := fun z => by
        subst z
        rcases h with ⟨j, h⟩ | ⟨j, hj, h⟩
        · rw [hw] at h; cases h
        · rw [hw] at h; cases h; omega
      exact Stt.retag_ne this
  cases t1 with
  | dat r => exact ⟨W, fin W S.own (fun _ _ => rfl) (.dat r)⟩
  | pool h => exact ⟨W, fin W S.own (fun _ _ => rfl) (.pool h)⟩
  | fl hw h r => exact go _ hw fun W' hW => .fl hW h r
  | fd hw h r => exact go _ hw fun W' hW => .fd hW h r
theorem st_par2X {t1 t2 : Expr} {pt pt2 : Pos} {kt k2 : Nat} (hX : XOk X k N Vn Ln Gn)
    (h : EvR X C a n env fun td1 n1 env1 => ∃ d, td1 = .dat d ∧ EvR X C b n1 env1 fun td2 n2 env2 => EvG X C t1 (.dat d) n2 env2 fun n3 env3 => EvG X C t2 td2 n3 env3 E.nx)
    (hw : swappedStores [.Tuple [t1, t2] kt pt] (.Tuple [a, b] k2 pt2) X.env = pure none := by rfl)
    (hs : swapsWithSole [.Tuple [t1, t2] kt pt] (.Tuple [a, b] k2 pt2) pos.line X.env = pure false := by rfl)
    (hs1 : starEach [a, b] X.env = (false, eval a X.env) :: starEach [b] X.env := by rfl) (hs2 : starEach [b] X.env = (false, eval b X.env) :: starEach [] X.env := by rfl)
    (hh : (assignEach [.Tuple [t1, t2] kt pt] X.env).map (·.2) = [assign (.Tuple [t1, t2] kt pt) X.env] := by rfl)
    (ht1 : (assignEach [t1, t2] X.env).map (·.2) = assign t1 X.env :: (assignEach [t2] X.env).map (·.2) := by rfl) (ht2 : (assignEach [t2] X.env).map (·.2) = assign t2 X.env :: (assignEach [] X.env).map (·.2) := by rfl)
    (hn : (assignEach [t1, t2] X.env).length = 2 := by rfl) (hst : (assignEach [t1, t2] X.env).findIdx? (·.1) = none := by rfl) :
    StS X C (.Assign [.Tuple [t1, t2] kt pt] (.Tuple [a, b] k2 pt2) pos) n env E := fun B ts σ H Z S q1 _ _ _ => by
  refine of_ps (ps_asg (pe_tup (pa_cons pe_t (pa_cons pe_t pa_nil hs2) hs1)) (pg_tup (n := 2) hX.calm (pgs_cons pg_t (pgs_cons pg_t pgs_nil ht2) ht1) hn hst) hs hw hh) ?_
  refine h B ts σ H _ S fun v1 H1 td1 n1 env1 ⟨d, ed, h2⟩ S1 => h2 B _ σ H1 _ S1 fun v2 H2 td2 n2 env2 g1 S2 => ?_
  subst ed
  refine ⟨by show 2 ≤ _; decide, fun p hp => ⟨p, [v1, v2], rfl, SqT.of upd_same, rfl, v1, [v2], rfl, ?_⟩⟩
  obtain ⟨F, W, S2⟩ := S2
  obtain ⟨W', S3⟩ := S2.swap1
  refine g1 B _ v1 σ _ _ ⟨_, W', S3.fresh hp⟩ fun n3 env3 σ3 H3 g2 S4 => ⟨v2, [], rfl, ?_⟩
  exact g2 B ts v2 σ3 H3 _ S4 fun n4 env4 σ4 H4 q S5 => ⟨rfl, q1 n4 env4 σ4 H4 q S5⟩
end
/-! ## M10 -/
/-! ### runs: what is done, moment by moment -/
theorem csJ_pos {j : Jb} (h : OkJ j) : 1 ≤ csB j.bd := csB_pos j.bd h.wf h.ne
/-- a job by its name -/
def jF (js : List Jb) (x : Str) : Jb := (js.find? fun j => decide (j.nm = x)).getD ⟨x, 0, 0, .nil⟩
theorem jF_eq : ∀ {js : List Jb}, (js.map (·.nm)).Nodup → ∀ {j : Jb}, j ∈ js → jF js j.nm = j
  | [], _, _, h => by cases h
  | a :: js, hn, j, h => by
    rw [List.map_cons, List.nodup_cons] at hn
    unfold jF
    rw [List.find?_cons]
    rcases List.mem_cons.mp h with rfl | h
    · simp
    · have : ¬ a.nm = j.nm := fun e => hn.1 (by rw [e]; exact List.mem_map.mpr ⟨j, h, rfl⟩)
      rw [decide_eq_false this]
      exact jF_eq hn.2 h
theorem jF_mem {js : List Jb} (hn : (js.map (·.nm)).Nodup) {x : Str} (h : x ∈ js.map (·.nm)) : jF js x ∈ js ∧ (jF js x).nm = x := by
  obtain ⟨j, hj, rfl⟩ := List.mem_map.mp h
  rw [jF_eq hn hj]
  exact ⟨hj, rfl⟩
abbrev RSt := Str → Nat × Nat
abbrev Run := List (Option (Str × Nat))
def advR (js : List Jb) (s : RSt) (x : Str) : RSt := fun y => if y = x then (if (s x).2 + 1 = csB (jF js x).bd then ((s x).1 + 1, 0) else ((s x).1, (s x).2 + 1)) else s y
def advE (js : List Jb) (s : RSt) : Option (Str × Nat) → RSt
  | none => s
  | some p => advR js s p.1
def stF (js : List Jb) (f : Run) : RSt := f.foldl (advE js) fun _ => (0, 0)
theorem stF_snoc (js : List Jb) (f : Run) (e : Option (Str × Nat)) : stF js (f ++ [e]) = advE js (stF js f) e := by
  unfold stF; rw [List.foldl_append]; rfl
theorem advR_self {js : List Jb} {s : RSt} {x : Str} : advR js s x x = if (s x).2 + 1 = csB (jF js x).bd then ((s x).1 + 1, 0) else ((s x).1, (s x).2 + 1) := by unfold advR; rw [if_pos rfl]
theorem advR_ne {js : List Jb} {s : RSt} {x y : Str} (h : y ≠ x) : advR js s x y = s y := by unfold advR; rw [if_neg h]
abbrev inR (js : List Jb) (s : RSt) (x : Str) : List Str := insU (usJ (jF js x)) (s x).2
abbrev nwR (js : List Jb) (cf : Str → Nat) (s : RSt) (x : Str) : Nat := nowU cf (jF js x).pr (inR js s x)
def rdR (ns : List Str) (rw : Str → List Nat) (s : RSt) (t : Nat) (x : Str) : Prop := x ∈ ns ∧ (s x).1 < (rw x).length ∧ (rw x).getD (s x).1 0 ≤ t
/-- the moment's job is a greatest one of those that wait -/
def stepR (js : List Jb) (cf : Str → Nat) (ns : List Str) (rw : Str → List Nat) (s : RSt) (t : Nat) : Option (Str × Nat) → Prop
  | none => ∀ x, ¬ rdR ns rw s t x
  | some p => p.2 = (s p.1).1 ∧ rdR ns rw s t p.1 ∧ ∀ y, rdR ns rw s t y → nwR js cf s y ≤ nwR js cf s p.1 ∧ (nwR js cf s y = nwR js cf s p.1 → inR js s y ≠ [] → inR js s p.1 ≠ [])
def SchR (js : List Jb) (cf : Str → Nat) (ns : List Str) (rw : Str → List Nat) (f : Run) : Prop := ∀ i e, f[i]? = some e → stepR js cf ns rw (stF js (f.take i)) i e
/-- somewhere one does a unit of the thing while another one is inside it -/
def tgR (js : List Jb) (t : Str) (f : Run) : Prop := ∃ i p, f[i]? = some (some p) ∧ t ∈ ((usJ (jF js p.1)).getD (stF js (f.take i) p.1).2 []).map (·.1) ∧ ∃ y ∈ js.map (·.nm), y ≠ p.1 ∧ t ∈ inR js (stF js (f.take i)) y
theorem SchR.snoc {js : List Jb} {cf : Str → Nat} {ns : List Str} {rw : Str → List Nat} {f : Run} {e : Option (Str × Nat)} : SchR js cf ns rw (f ++ [e]) ↔ SchR js cf ns rw f ∧ stepR js cf ns rw (stF js f) f.length e := by
  constructor
  · intro h
    refine ⟨fun i e' he => ?_, ?_⟩
    · have hi := (List.getElem?_eq_some_iff.mp he).1
      have := h i e' (by rw [List.getElem?_append_left hi]; exact he)
      rwa [List.take_append_of_le_length (Nat.le_of_lt hi)] at this
    · have := h f.length e (by rw [List.getElem?_append_right (Nat.le_refl _), Nat.sub_self]; rfl)
      rwa [List.take_left'] at this
      rfl
  · rintro ⟨h1, h2⟩ i e' he
    rcases Nat.lt_or_ge i f.length with hi | hi
    · rw [List.getElem?_append_left hi] at he
      rw [List.take_append_of_le_length (Nat.le_of_lt hi)]
      exact h1 i e' he
    · rw [List.getElem?_append_right hi] at he
      obtain ⟨h3, h4⟩ := List.getElem?_eq_some_iff.mp he
      have e0 : i = f.length := by simp at h3; omega
      subst e0
      rw [List.take_left' rfl]
      simp at h4
      rw [← h4]
      exact h2
theorem SchR.take {js : List Jb} {cf : Str → Nat} {ns : List Str} {rw : Str → List Nat} {f : Run} (h : SchR js cf ns rw f) (n : Nat) : SchR js cf ns rw (f.take n) := by
  intro i e he
  rw [List.getElem?_take] at he
  split at he
  · rename_i hi
    rw [List.take_take, Nat.min_eq_left (Nat.le_of_lt hi)]
    exact h i e he
  · cases he
theorem take_snoc {α : Type} {f : List α} {i : Nat} {e : α} (h : f[i]? = some e) : f.take (i + 1) = f.take i ++ [e] := by rw [List.take_succ, h]; rfl
/-- induction along a run -/
theorem run_ind {js : List Jb} {cf : Str → Nat} {ns : List Str} {rw : Str → List Nat} {I : Nat → RSt → Prop} {f : Run} (h : SchR js cf ns rw f) (h0 : I 0 fun _ => (0, 0)) (hs : ∀ i s e, i < f.length → I i s → stepR js cf ns rw s i e → I (i + 1) (advE js s e)) : ∀ i, i ≤ f.length → I i (stF js (f.take i))
  | 0, _ => h0
  | i + 1, hi => by
    have ih := run_ind h h0 hs i (by omega)
    have he : f[i]? = some f[i] := List.getElem?_eq_getElem (by omega)
    rw [take_snoc he, stF_snoc]
    exact hs i _ _ (by omega) ih (h i _ he)
/-- what holds along every run: of two that are both under way one is above the other for good -/
structure InvR (js : List Jb) (cf : Str → Nat) (ns : List Str) (rw : Str → List Nat) (t : Nat) (s : RSt) : Prop where
  lt : ∀ x ∈ ns, (s x).2 < csB (jF js x).bd
  off : ∀ x, x ∉ ns → s x = (0, 0)
  rd : ∀ x, 0 < (s x).2 → rdR ns rw s t x
  two : ∀ x y, x ≠ y → 0 < (s x).2 → 0 < (s y).2 → nwR js cf s y < (jF js x).pr ∨ nwR js cf s x < (jF js y).pr
theorem insU_zero (us : List (List Mk)) : insU us 0 = [] := by unfold insU; rw [if_neg (fun h => Nat.lt_irrefl _ h.1)]
theorem nwR_zero {js : List Jb} {cf : Str → Nat} {s : RSt} {x : Str} (h : (s x).2 = 0) : nwR js cf s x = (jF js x).pr ∧ inR js s x = [] := by
  have : inR js s x = [] := by show insU _ (s x).2 = []; rw [h]; exact insU_zero _
  exact ⟨by show nowU cf _ (inR js s x) = _; rw [this]; rfl, this⟩
theorem nwR_ge {js : List Jb} {cf : Str → Nat} {s : RSt} {x : Str} : (jF js x).pr ≤ nwR js cf s x := nowU_ge.1
theorem InvR.step {js : List Jb} {cf : Str → Nat} {ns : List Str} {rw : Str → List Nat} {t : Nat} {s : RSt} {e : Option (Str × Nat)} (hjs : OkJs js) (hns : ∀ x ∈ ns, x ∈ js.map (·.nm)) (h : InvR js cf ns rw t s) (hs : stepR js cf ns rw s t e) : InvR js cf ns rw (t + 1) (advE js s e) := by
  cases e with
  | none => exact ⟨h.lt, h.off, fun x hx => let ⟨a, b, c⟩ := h.rd x hx; ⟨a, b, Nat.le_succ_of_le c⟩, h.two⟩
  | some p =>
    obtain ⟨x, k⟩ := p
    obtain ⟨_, hr, hm⟩ := hs
    have hr : rdR ns rw s t x := hr
    have hm : ∀ y, rdR ns rw s t y → nwR js cf s y ≤ nwR js cf s x ∧ (nwR js cf s y = nwR js cf s x → inR js s y ≠ [] → inR js s x ≠ []) := hm
    show InvR js cf ns rw (t + 1) (advR js s x)
    have hxj := jF_mem hjs.nn (hns x hr.1)
    have hc := csJ_pos (hjs.ok _ hxj.1)
    have hsx : 0 < (advR js s x x).2 → (advR js s x x).1 = (s x).1 ∧ (advR js s x x).2 = (s x).2 + 1 := by
      rw [advR_self]
      split
      · intro h; exact absurd h (Nat.lt_irrefl _)
      · intro _; exact ⟨rfl, rfl⟩
    have nw : ∀ y, y ≠ x → nwR js cf (advR js s x) y = nwR js cf s y := fun y hy => by
      show nowU cf _ (insU _ (advR js s x y).2) = _
      rw [advR_ne hy]
    -- the one that goes on is above all others that are under way
    have key : ∀ y, y ≠ x → 0 < (s y).2 → nwR js cf s y < (jF js x).pr := by
      intro y hy h0
      have hry := h.rd y h0
      obtain ⟨m1, m2⟩ := hm y hry
      by_cases hx0 : (s x).2 = 0
      · obtain ⟨z1, z2⟩ := nwR_zero (js := js) (cf := cf) hx0
        rw [z1] at m1 m2
        rcases Nat.lt_or_eq_of_le m1 with m1 | m1
        · exact m1
        · exfalso
          by_cases hi : inR js s y = []
          · have : nwR js cf s y = (jF js y).pr := by show nowU cf _ (inR js s y) = _; rw [hi]; rfl
            rw [this] at m1
            have hyj := jF_mem hjs.nn (hns y hry.1)
            have := map_inj hjs.pn hyj.1 hxj.1 m1
            exact hy (hyj.2.symm.trans ((congrArg (·.nm) this).trans hxj.2))
          · exact m2 m1 hi z2
      · rcases h.two x y (Ne.symm hy) (by omega) h0 with q | q
        · exact q
        · have := nwR_ge (js := js) (cf := cf) (s := s) (x := y)
          omega
    refine ⟨fun y hy => ?_, fun y hy => ?_, fun y hy => ?_, fun y z hyz hy hz => ?_⟩
    · by_cases e : y = x
      · subst e
        have := h.lt y hy
        rw [advR_self]
        split
        · show 0 < _; omega
        · show (s y).2 + 1 < _; omega
      · rw [advR_ne e]; exact h.lt y hy
    · rw [advR_ne (fun e => hy (by rw [e]; exact hr.1))]; exact h.off y hy
    · by_cases e : y = x
      · subst e
        obtain ⟨q1, q2⟩ := hsx hy
        exact ⟨hr.1, by rw [q1]; exact hr.2.1, by rw [q1]; exact Nat.le_succ_of_le hr.2.2⟩
      · rw [advR_ne e] at hy
        obtain ⟨a, b, c⟩ := h.rd y hy
        exact ⟨a, by rw [advR_ne e]; exact b, by rw [advR_ne e]; exact Nat.le_succ_of_le c⟩
    · by_cases e1 : y = x
      · subst e1
        have e2 : z ≠ y := Ne.symm hyz
        rw [advR_ne e2] at hz
        exact .inl (by rw [nw z e2]; exact key z e2 hz)
      · rw [advR_ne e1] at hy
        by_cases e2 : z = x
        · subst e2
          exact .inr (by rw [nw y e1]; exact key y e1 hy)
        · rw [advR_ne e2] at hz
          rw [nw y e1, nw z e2]
          exact h.two y z hyz hy hz
theorem InvR.zero {js : List Jb} {cf : Str → Nat} {ns : List Str} {rw : Str → List Nat} (hjs : OkJs js) (hns : ∀ x ∈ ns, x ∈ js.map (·.nm)) : InvR js cf ns rw 0 fun _ => (0, 0) :=
  ⟨fun x hx => csJ_pos (hjs.ok _ (jF_mem hjs.nn (hns x hx)).1), fun _ _ => rfl, fun _ h => absurd h (Nat.lt_irrefl _), fun _ _ _ h => absurd h (Nat.lt_irrefl _)⟩
theorem inv_run {js : List Jb} {cf : Str → Nat} {ns : List Str} {rw : Str → List Nat} {f : Run} (hjs : OkJs js) (hns : ∀ x ∈ ns, x ∈ js.map (·.nm)) (h : SchR js cf ns rw f) {i : Nat} (hi : i ≤ f.length) : InvR js cf ns rw i (stF js (f.take i)) :=
  run_ind (I := fun i s => InvR js cf ns rw i s) h (InvR.zero hjs hns) (fun _ _ _ _ hI hs => hI.step hjs hns hs) i hi
theorem mem_getD {t : Str} {us : List (List Mk)} {d : Nat} (h : t ∈ (us.getD d []).map (·.1)) : ∃ u ∈ us, t ∈ u.map (·.1) := by
  rw [List.getD_eq_getElem?_getD] at h
  cases e : us[d]? with
  | none => rw [e] at h; cases h
  | some u => rw [e] at h; exact ⟨u, List.mem_of_getElem? e, h⟩
/-- where none can be below a user inside, no run tangles -/
theorem not_tg {js : List Jb} {cf : Str → Nat} {ns : List Str} {rw : Str → List Nat} {f : Run} {t : Str} (hjs : OkJs js) (hns : ∀ x ∈ ns, x ∈ js.map (·.nm)) (h : SchR js cf ns rw f) (hc : ¬ canT js cf t) : ¬ tgR js t f := by
  rintro ⟨i, p, he, ht, y, hy, hyp, hty⟩
  have hi := (List.getElem?_eq_some_iff.mp he).1
  have I := inv_run hjs hns h (Nat.le_of_lt hi)
  obtain ⟨_, hr, hm⟩ := h i _ he
  generalize stF js (f.take i) = s at *
  generalize p.1 = x at *
  have hxj := jF_mem hjs.nn (hns x hr.1)
  have hyj := jF_mem hjs.nn hy
  have h0 : 0 < (s y).2 := (insU_mem hty).1
  have hxt : t ∈ thB (jF js x).bd := (usJ_th (hjs.ok _ hxj.1) t).mp (mem_getD ht)
  have hn : ¬ nwR js cf s y < (jF js x).pr := fun z => hc ⟨_, hyj.1, _, hty, _, hxj.1, hxt, z⟩
  have hry := I.rd y h0
  obtain ⟨m1, m2⟩ := hm y hry
  by_cases hx0 : (s x).2 = 0
  · obtain ⟨z1, z2⟩ := nwR_zero (js := js) (cf := cf) hx0
    have ge : nwR js cf s y = nwR js cf s x := by omega
    refine m2 ge ?_ z2
    intro e
    rw [e] at hty
    cases hty
  · rcases I.two x y (Ne.symm hyp) (by omega) h0 with q | q
    · exact hn q
    · have := nwR_ge (js := js) (cf := cf) (s := s) (x := y)
      omega
/-- a told tangle is one: the one job comes at 0, the other when the first has done d units -/
theorem is_tg {js : List Jb} {cf : Str → Nat} {ns : List Str} {rw : Str → List Nat} {f : Run} {t : Str} {j o : Jb} {d : Nat} (hjs : OkJs js) (hj : j ∈ js) (ho : o ∈ js) (hns : ∀ x, x ∈ ns ↔ x = j.nm ∨ x = o.nm) (hr1 : rw j.nm = [0]) (hr2 : rw o.nm = [d]) (hd : t ∈ insU (usJ j) d) (hto : t ∈ thB o.bd) (hlt : nowU cf j.pr (insU (usJ j) d) < o.pr) (h : SchR js cf ns rw f) (hdone : ∀ x ∈ ns, (rw x).length ≤ (stF js f x).1) : tgR js t f := by
  have hne : o.nm ≠ j.nm := fun e => by
    have : o = j := map_inj hjs.nn ho hj e
    subst this
    have := nowU_ge (cf := cf) (ins := insU (usJ o) d) (pr := o.pr)
    omega
  have hjj := jF_eq hjs.nn hj
  have hoo := jF_eq hjs.nn ho
  have hco := csJ_pos (hjs.ok o ho)
  obtain ⟨d1, d2, _⟩ := insU_mem hd
  rw [unB_length] at d2
  have pick : ∀ i s e, stepR js cf ns rw s i e → s j.nm = (0, i) → s o.nm = (0, 0) → i < d → ∃ k, e = some (j.nm, k) := by
    intro i s e hs h1 h2 hi
    cases e with
    | none => exact absurd ⟨(hns _).mpr (.inl rfl), by rw [h1, hr1]; exact Nat.one_pos, by rw [h1, hr1]; exact Nat.zero_le _⟩ (hs j.nm)
    | some p =>
      obtain ⟨x, k⟩ := p
      have hr : rdR ns rw s i x := hs.2.1
      rcases (hns x).mp hr.1 with rfl | rfl
      · exact ⟨k, rfl⟩
      · have := hr.2.2
        rw [h2, hr2] at this
        exact absurd hi (Nat.not_lt.mpr this)
  have pick2 : ∀ i s e, stepR js cf ns rw s i e → s j.nm = (0, d) → (s o.nm).1 = 0 → d ≤ i → ∃ k, e = some (o.nm, k) := by
    intro i s e hs h1 h2 hi
    have ro : rdR ns rw s i o.nm := ⟨(hns _).mpr (.inr rfl), by rw [h2, hr2]; exact Nat.one_pos, by rw [h2, hr2]; exact hi⟩
    cases e with
    | none => exact absurd ro (hs o.nm)
    | some p =>
      obtain ⟨x, k⟩ := p
      have hr : rdR ns rw s i x := hs.2.1
      rcases (hns x).mp hr.1 with rfl | rfl
      · exfalso
        have hm : nwR js cf s o.nm ≤ nwR js cf s j.nm := (hs.2.2 o.nm ro).1
        have e1 : nwR js cf s j.nm = nowU cf j.pr (insU (usJ j) d) := by
          show nowU cf (jF js j.nm).pr (insU (usJ (jF js j.nm)) (s j.nm).2) = _
          rw [hjj, h1]
        have e2 := nwR_ge (js := js) (cf := cf) (s := s) (x := o.nm)
        rw [hoo] at e2
        omega
      · exact ⟨k, rfl⟩
  have st : ∀ i, i ≤ f.length → i < d + csB o.bd → (i ≤ d → stF js (f.take i) j.nm = (0, i) ∧ stF js (f.take i) o.nm = (0, 0)) ∧ (d ≤ i → stF js (f.take i) j.nm = (0, d) ∧ stF js (f.take i) o.nm = (0, i - d)) := by
    intro i hi
    refine run_ind (I := fun i s => i < d + csB o.bd → (i ≤ d → s j.nm = (0, i) ∧ s o.nm = (0, 0)) ∧ (d ≤ i → s j.nm = (0, d) ∧ s o.nm = (0, i - d))) h (fun _ => ⟨fun _ => ⟨rfl, rfl⟩, fun h => absurd d1 (Nat.not_lt.mpr h)⟩) ?_ i hi
    intro i s e _ ih hs hl
    obtain ⟨i1, i2⟩ := ih (by omega)
    by_cases hid : i < d
    · obtain ⟨h1, h2⟩ := i1 (Nat.le_of_lt hid)
      obtain ⟨k, rfl⟩ := pick i s e hs h1 h2 hid
      have a1 : advR js s j.nm j.nm = (0, i + 1) := by
        rw [advR_self, hjj, h1, if_neg (show ¬ i + 1 = csB j.bd by omega)]
      have a2 : advR js s j.nm o.nm = (0, 0) := by rw [advR_ne hne, h2]
      refine ⟨fun _ => ⟨a1, a2⟩, fun hd' => ?_⟩
      have : i + 1 = d := by omega
      exact ⟨by rw [← this]; exact a1, by rw [← this, Nat.sub_self]; exact a2⟩
    · have hid : d ≤ i := Nat.not_lt.mp hid
      obtain ⟨h1, h2⟩ := i2 hid
      obtain ⟨k, rfl⟩ := pick2 i s e hs h1 (by rw [h2]) hid
      refine ⟨fun hd' => absurd hd' (by omega), fun _ => ⟨?_, ?_⟩⟩
      · show advR js s o.nm j.nm = _
        rw [advR_ne (Ne.symm hne), h1]
      · show advR js s o.nm o.nm = _
        rw [advR_self, hoo, h2, if_neg (show ¬ i - d + 1 = csB o.bd by omega)]
        show (0, i - d + 1) = (0, i + 1 - d)
        rw [show i + 1 - d = i - d + 1 by omega]
  obtain ⟨u, hu, htu⟩ := (usJ_th (hjs.ok o ho) t).mpr hto
  obtain ⟨k, hk⟩ := List.mem_iff_getElem?.mp hu
  have hkl := (List.getElem?_eq_some_iff.mp hk).1
  rw [unB_length] at hkl
  have hlen : d + k < f.length := by
    rcases Nat.lt_or_ge (d + k) f.length with q | q
    · exact q
    · exfalso
      have := hdone o.nm ((hns _).mpr (.inr rfl))
      rw [hr2] at this
      obtain ⟨s1, s2⟩ := st f.length (Nat.le_refl _) (by omega)
      rw [List.take_length] at s1 s2
      rcases Nat.le_total f.length d with z | z
      · rw [(s1 z).2] at this; exact absurd this (by show ¬ 1 ≤ 0; decide)
      · rw [(s2 z).2] at this; exact absurd this (by show ¬ 1 ≤ 0; decide)
  obtain ⟨_, s2⟩ := st (d + k) (Nat.le_of_lt hlen) (by omega)
  obtain ⟨h1, h2⟩ := s2 (Nat.le_add_right _ _)
  have he : f[d + k]? = some f[d + k] := List.getElem?_eq_getElem hlen
  obtain ⟨n, hp⟩ := pick2 (d + k) _ _ (h _ _ he) h1 (by rw [h2]) (Nat.le_add_right _ _)
  rw [hp] at he
  refine ⟨d + k, (o.nm, n), he, ?_, j.nm, List.mem_map.mpr ⟨j, hj, rfl⟩, Ne.symm hne, ?_⟩
  · show t ∈ ((usJ (jF js o.nm)).getD (stF js (f.take (d + k)) o.nm).2 []).map (·.1)
    rw [hoo, h2, show (0, d + k - d).2 = k by show d + k - d = k; omega, List.getD_eq_getElem?_getD, hk]
    exact htu
  · show t ∈ insU (usJ (jF js j.nm)) (stF js (f.take (d + k)) j.nm).2
    rw [hjj, h1]
    exact hd
/-! ## K12 -/
/-! ### a set of a list of ints -/
section
variable {P : Program} {w : World} {A : Around} {E : Value → Shared → Prop} {s : Shared}
theorem set_listI {l : Addr} {items : Array Value} (ns : List Int) {Q : Value → Shared → Prop} (hh : A.handled = none) (hl : s.heap.IsList l items) (hit : IntsAre items.toList ns) (hb : ns.length + 1 < scanBound)
    (h : ∀ (h' : Heap) (tk c : Nat), SetR w h' s.heap.objs.size (fun j => decide (j ∈ ns)) c → c ≤ ns.length → (∀ b o, s.heap.get? b = some o → h'.get? b = some o) → Q (.ref s.heap.objs.size) { s with heap := h', toks := tk }) :
    wpAny (model P w) A (call (.type "set") [.ref l]) Q E s := by
  have hisz : items.size = ns.length := by
    have q := IntsAre.length hit
    rw [Array.length_toList] at q
    exact q
  obtain ⟨c, tl, hmro⟩ := F.called_set.mro
  have hmade := F.called_set.made
  have hsub := F.called_set.sub
  refine wpAny_call (codeAny_of_tree ?_)
  show wpAny _ _ (callAny (.type "set") _) _ _ _
  refine wpAny_pure ⟨Code.quiet_builtin _ (by decide +kernel), codeAny_builtin F.entry_type_call ?_⟩
  rw [Around.under_plain (weight_type_call_type "set" [.ref l] []) rfl]
  have h1 := F.called_set.notType
  have h2 := F.called_set.canCreate
  have hct := F.typeCall_set_1 (.ref l)
  repeat (any_goals (first | assumption | wp_step))

  refine codeAny_mono (code_set_led1 (.ref l) (E := E) (Q₁ := fun obj s₁ => obj = .ref s.heap.objs.size ∧ s₁ = { s with heap := s.heap.push { cls := .type "set", dict := none, data := .set #[] 0 (.fresh 0 0 (!w.params.followText "set-order")) } }) ⟨rfl, rfl⟩) fun r s₁ hr => ?_
  cases r with
  | error e => exact hr
  | ok fl =>
    cases fl with
    | ret obj =>
      obtain ⟨rfl, rfl⟩ := hr
      have hS : (s.heap.push { cls := .type "set", dict := none, data := .set #[] 0 (.fresh 0 0 (!w.params.followText "set-order")) }).get? s.heap.objs.size = some { cls := .type "set", dict := none, data := .set #[] 0 (.fresh 0 0 (!w.params.followText "set-order")) } := Heap.get?_push_size _ rfl
      have hT : Shared.TypeIs { s with heap := s.heap.push { cls := .type "set", dict := none, data := .set #[] 0 (.fresh 0 0 (!w.params.followText "set-order")) } } (.ref s.heap.objs.size) "set" := ⟨_, hS, rfl⟩
      have hli := F.called_set.init.lookup
      have hbi := F.called_set.init.bind (.ref s.heap.objs.size)
      repeat (any_goals (first | assumption | wp_step))

      refine codeAny_mono (codeAny_call_builtin (R := wants (fun r s₂ => r = .none ∧ ∃ h' tk c, s₂ = { s with heap := h', toks := tk } ∧ SetR w h' s.heap.objs.size (fun j => decide (j ∈ ns)) c ∧ c ≤ ns.length ∧
          (∀ b o, s.heap.get? b = some o → h'.get? b = some o)) E) F.called_set.init.plain F.entry_set_init (check_set_init_1 hT ?_)) fun r₂ s₂ hr₂ => ?_
      · obtain ⟨ol, hol, hcl, nl, hdl⟩ := hl
        obtain ⟨ocls, odict, odata, oslots⟩ := ol
        simp only at hcl hdl
        subst hcl; subst hdl
        have hol' : (s.heap.push { cls := .type "set", dict := none, data := .set #[] 0 (.fresh 0 0 (!w.params.followText "set-order")) }).get? l = some { cls := .type "list", dict := odict, data := .seq items nl, slots := oslots } := Heap.get?_push_of_some _ hol
        have hsls := F.sub_list_set
        have hslf := F.sub_list_frozenset
        have hne : (Value.type "list" == Value.type "dict") = false := by decide
        have hl1 : (s.heap.push { cls := .type "set", dict := none, data := .set #[] 0 (.fresh 0 0 (!w.params.followText "set-order")) }).IsList l items := ⟨_, hol', rfl, nl, rfl⟩
        unfold Builtin.«set.__init__» noKeywords Builtin.Frozenset.updateFrom
        generalize hPI : pyIter = PI
        wp_walk
        subst hPI

        refine wpAny_pyIter_list hl1 ?_
        refine wpAny_bind (wpAny_runValue ?_)
        have hlS : l < s.heap.objs.size := Heap.lt_size hol
        have hh3 : A.in1.in1.in1.handled = none := by simp [hh]
        have hz1 : (s.heap.push { cls := .type "set", dict := none, data := .set #[] 0 (.fresh 0 0 (!w.params.followText "set-order")) }).objs.size = s.heap.objs.size + 1 := Heap.size_push ..
        have hneI : l ≠ (s.heap.push { cls := .type "set", dict := none, data := .set #[] 0 (.fresh 0 0 (!w.params.followText "set-order")) }).objs.size := by
          rw [Heap.size_push]; exact Nat.ne_of_lt (Nat.lt_succ_of_lt hlS)
        have hSf : s.heap.objs.size ∉ [(s.heap.push { cls := .type "set", dict := none, data := .set #[] 0 (.fresh 0 0 (!w.params.followText "set-order")) }).objs.size, l] := by
          rw [Heap.size_push]; simp only [List.mem_cons, List.mem_singleton, List.not_mem_nil, or_false, not_or]
          exact ⟨Nat.ne_of_lt (Nat.lt_succ_self _), Nat.ne_of_gt hlS⟩
        have hval : ∀ (i : Nat) (v : Value), items[i]? = some v → ∃ k t, ns[i]? = some k ∧ v = .int k t := fun i v hv => by
          have hi : i < ns.length := by rw [← hisz]; exact (Array.getElem?_eq_some_iff.mp hv).1
          obtain ⟨t, e⟩ := PyProof.Rows.IntsAre.int_at hit i v (by rw [Array.getElem?_toList]; exact hv)
          refine ⟨ns[i], t, List.getElem?_eq_getElem hi, ?_⟩
          rw [e, List.getD_eq_getElem?_getD, List.getElem?_eq_getElem hi] <;> rfl
        refine set_update_ints ((Walks.list hh3 _ l hneI items).toS) s.heap.objs.size
          hSf ns hisz hb hval (items.size - 0) 0 _ (by omega) (Nat.zero_le _)
          ⟨⟨_, Heap.get?_push_size _ rfl, rfl, rfl⟩, (hl1.push _)⟩ ?hS0 ?hR
        case hS0 =>
          have hget : ((s.heap.push { cls := .type "set", dict := none, data := .set #[] 0 (.fresh 0 0 (!w.params.followText "set-order")) }).push { cls := .type "list_iterator", data := .fields #[.ref l, .int 0 0] }).get? s.heap.objs.size
              = some { cls := .type "set", dict := none, data := .set #[] 0 (.fresh 0 0 (!w.params.followText "set-order")) } := Heap.get?_push_of_some _ hS
          exact ⟨0, Nat.le_refl 0, setR_new_at hget⟩
        case hR =>
          intro s' c' hm hc' hS'
          obtain ⟨h', g2, d', tk', os'⟩ := s'
          have eg : g2 = s.gens := hm.gens
          have ed : d' = s.drawn := hm.drawn
          have eo : os' = s.os := hm.os
          subst eg; subst ed; subst eo
          show wpAny _ _ _ _ _ _
          refine wpAny_pure ?_
          show wpAny _ _ (ret Value.none) _ _ _
          rw [hisz] at hc'
          refine wpAny_pure ⟨rfl, h', tk', c', rfl, hS', hc', fun b o e => ?_⟩
          have hb0 : b < s.heap.objs.size := Heap.lt_size e
          have hb1 : b ≠ s.heap.objs.size := Nat.ne_of_lt hb0
          have hb2 : b ≠ (s.heap.push { cls := .type "set", dict := none, data := .set #[] 0 (.fresh 0 0 (!w.params.followText "set-order")) }).objs.size := by
            rw [Heap.size_push]; exact Nat.ne_of_lt (Nat.lt_succ_of_lt hb0)
          exact hm.heap b o (by simp only [List.mem_cons, List.mem_singleton, List.not_mem_nil, or_false, not_or]; exact ⟨hb1, hb2⟩) (Heap.get?_push_of_some _ (Heap.get?_push_of_some _ e))

      · cases r₂ with
        | error e => exact hr₂
        | ok fl₂ =>
          cases fl₂ with
          | ret r =>
            obtain ⟨rfl, h', tk, c', rfl, hS', hc', hk'⟩ := hr₂
            repeat (any_goals (first | assumption | wp_step))
            exact h _ _ _ hS' hc' hk'
          | _ => exact hr₂.elim
    | _ => exact hr.elim
end
section
variable {X : Cx}
def rSetL1 (K : PySem.W.Frag) (w : World) : List V → Hp → VK → Prop := fun vs H Q => ∃ (a : Addr) (ns : List Int), vs = [V.ref a] ∧ SqL K H a (ns.map V.int) ∧ ns.length ≤ 60 ∧ ∀ p c, H p = none → c ≤ ns.length → Q (.ref p) (upd H p (SetO w p (fun j => decide (j ∈ ns)) c))
theorem cr_setL (hc : X.calm = true) : CallR X (.type "set") (rSetL1 X.K X.w) := by
  intro pins s σ H vs us Q I r h
  obtain ⟨a, ns, rfl, hs, hn, q⟩ := h
  obtain ⟨its, rv, hl, _⟩ := I.list hs
  rw [Vals.ref1 r]
  refine set_listI ns (I.ok.hd hc) hl.isList rv.ints (by unfold scanBound; omega) fun h' tk c R hcn k => ?_
  exact ⟨.ref _, upd H s.heap.objs.size (SetO X.w s.heap.objs.size (fun j => decide (j ∈ ns)) c), I.laid (t' := tk) k (Nat.le_refl _) (setO_new R), rfl, q _ c (I.hok.fresh (Nat.le_refl _)) hcn⟩
end
section
variable {X : Cx} {C : Addr} {k : Nat} {N Vn Ln Gn : List Str} {n : Nat} {env : En} {Q : QE} {QR' : QR} {x : Str} {p p2 pos pos2 apos cpos : Pos} {e a b c : Expr} {d : D}
/-- sorted(set([..])) -/
theorem evr_sortSet (hX : XOk X k N Vn Ln Gn) (hm : X.mg "sorted" = none) (hg : ("sorted" : Str) ∈ Gn) (hm2 : X.mg "set" = none) (hg2 : ("set" : Str) ∈ Gn) (h : Ev X C e n env fun d n1 env1 => ∃ ns : List Int, d = .lst (ns.map .int) ∧ ns.length ≤ 60 ∧ ∀ ys : List Int, ys.Pairwise (· < ·) → (∀ z, z ∈ ys ↔ z ∈ ns) → QR' (.fl (ys.map .int)) n1 env1)
    (he : starEach [.Call (.Name "set" p2) [e] [] pos2] X.env = (false, eval (.Call (.Name "set" p2) [e] [] pos2) X.env) :: starEach [] X.env := by rfl) (hpl : (backTo pos (starEach [] X.env)).any (·.1) = false := by rfl)
    (he2 : starEach [e] X.env = (false, eval e X.env) :: starEach [] X.env := by rfl) (hpl2 : (backTo pos2 (starEach [] X.env)).any (·.1) = false := by rfl) : EvR X C (.Call (.Name "sorted" p) [.Call (.Name "set" p2) [e] [] pos2] [] pos) n env QR' := fun B ts σ H R S q => by
  refine of_pe (pe_callB (cr_sortedSet hX.calm) (hX.gl _ hg).1 hm bt_sorted (pa_cons (pe_callTy (cr_setL hX.calm) (hX.gl _ hg2).1 hm2 PyProof.Rows.boot_set (pa_cons pe_t pa_nil he2) (hX.gl _ hg2).2.2 (hX.gl _ hg2).2.1 he2 hpl2) pa_nil he) (hX.gl _ hg).2.2 (hX.gl _ hg).2.1 he hpl) ?_
  refine h B ts σ H _ S fun v H1 d n1 env1 ⟨ns, hd, hn, hq⟩ S1 => ?_
  subst hd
  obtain ⟨F, W, S1⟩ := S1
  have t := S1.temps.1
  generalize hv : v = v' at t
  cases t with
  | dat rp =>
    have rp : Rep X.K C F v' (.lst (ns.map .int)) := rp
    generalize hd : D.lst (ns.map .int) = dd at rp
    cases rp with
    | @lst a vs _ h1 h2 =>
      cases hd
      have := reps_ints h2
      subst this
      subst hv
      refine ⟨a, ns, rfl, SqL.of (S1.ex2 _ _ h1), hn, fun p1 c hp1 hc => ?_⟩
      refine ⟨p1, _, c, rfl, upd_same, by omega, fun ys p3 hs hm hl hp3 => ?_⟩
      have S2 := S1.pop.fresh (o := SetO X.w p1 (fun j => decide (j ∈ ns)) c) hp1
      obtain ⟨W', S3⟩ := S2.newF (q := p3) (vs := ys.map V.int) (ds := ys.map .int) hp3 ints_reps
      exact q _ _ _ n1 env1 (hq ys hs fun z => by rw [hm z, decide_eq_true_eq]) ⟨_, W', S3⟩
    | _ => cases hd
/-! ### max of triples -/
abbrev T3 := Int × Int × Str
def t3P (t : T3) : PyData := .tuple [.int t.1, .int t.2.1, .str t.2.2]
abbrev t3D (t : T3) : D := .tup [.int t.1, .int t.2.1, .str t.2.2]
def lt3 (a b : T3) : Bool := PySem.W.dataLt (t3P a) (t3P b)
def max3 (x : T3) (xs : List T3) : T3 := xs.foldl (fun a y => if lt3 a y then y else a) x
theorem max3_maxD (x : T3) : ∀ xs : List T3, PySem.W.maxD (t3P x) (xs.map t3P) = t3P (max3 x xs) := fun xs => by
  unfold PySem.W.maxD max3
  induction xs generalizing x with
  | nil => rfl
  | cons y ys ih =>
    rw [List.map_cons, List.foldl_cons, List.foldl_cons, ← ih]
    show List.foldl _ (if lt3 x y then t3P y else t3P x) _ = _
    congr 1
    split <;> rfl
theorem t3_alike (a b : T3) : PySem.W.alike (t3P a) (t3P b) = true := by
  unfold t3P
  simp only [PySem.W.alike, PySem.W.alikeAll, Bool.and_self]
theorem t3_inj {a b : T3} (h : t3P a = t3P b) : a = b := by
  unfold t3P at h
  injection h with h
  injection h with h1 h
  injection h with h2 h
  injection h with h3 h
  injection h1 with h1
  injection h2 with h2
  injection h3 with h3
  obtain ⟨a1, a2, a3⟩ := a
  obtain ⟨b1, b2, b3⟩ := b
  simp only at h1 h2 h3
  rw [h1, h2, h3]
def le3 (a b : T3) : Prop := a.1 < b.1 ∨ (a.1 = b.1 ∧ a.2.1 ≤ b.2.1)
theorem le3_trans {a b c : T3} (h1 : le3 a b) (h2 : le3 b c) : le3 a c := by
  unfold le3 at *
  omega
theorem lt3_le {a b : T3} : (lt3 a b = true → le3 a b) ∧ (lt3 a b = false → le3 b a) := by
  unfold lt3 t3P le3
  rw [PySem.W.dataLt_tuple]
  by_cases h1 : a.1 = b.1
  · rw [PySem.W.dataLt_all_yes (by simp only [PySem.W.alike]) (by rw [h1]; simp only [PyData.eqv, beq_self_eq_true])]
    by_cases h2 : a.2.1 = b.2.1
    · exact ⟨fun _ => .inr ⟨h1, by omega⟩, fun _ => .inr ⟨h1.symm, by omega⟩⟩
    · rw [PySem.W.dataLt_all_no (by simp only [PySem.W.alike]) (by simp only [PyData.eqv]; exact beq_false_of_ne h2), PySem.W.dataLt_int]
      exact ⟨fun h => .inr ⟨h1, by have := of_decide_eq_true h; omega⟩, fun h => .inr ⟨h1.symm, by have := of_decide_eq_false h; omega⟩⟩
  · rw [PySem.W.dataLt_all_no (by simp only [PySem.W.alike]) (by simp only [PyData.eqv]; exact beq_false_of_ne h1), PySem.W.dataLt_int]
    exact ⟨fun h => .inl (of_decide_eq_true h), fun h => .inl (by have := of_decide_eq_false h; omega)⟩
theorem max3_ok (x : T3) : ∀ xs : List T3, max3 x xs ∈ x :: xs ∧ ∀ y ∈ x :: xs, le3 y (max3 x xs) := fun xs => by
  induction xs generalizing x with
  | nil => exact ⟨List.mem_cons_self, fun y hy => by rw [List.mem_singleton.mp hy]; exact .inr ⟨rfl, Int.le_refl _⟩⟩
  | cons z zs ih =>
    show max3 (if lt3 x z then z else x) zs ∈ _ ∧ ∀ y ∈ _, le3 y (max3 (if lt3 x z then z else x) zs)
    obtain ⟨h1, h2⟩ := ih (if lt3 x z then z else x)
    refine ⟨?_, fun y hy => ?_⟩
    · rcases List.mem_cons.mp h1 with h | h
      · rw [h]
        split
        · exact List.mem_cons_of_mem _ List.mem_cons_self
        · exact List.mem_cons_self
      · exact List.mem_cons_of_mem _ (List.mem_cons_of_mem _ h)
    · have top := h2 _ List.mem_cons_self
      rcases List.mem_cons.mp hy with rfl | hy
      · refine le3_trans ?_ top
        split
        · rename_i q; exact lt3_le.1 q
        · exact .inr ⟨rfl, Int.le_refl _⟩
      · rcases List.mem_cons.mp hy with rfl | hy
        · refine le3_trans ?_ top
          split
          · exact .inr ⟨rfl, Int.le_refl _⟩
          · rename_i q; exact lt3_le.2 (by simpa using q)
        · exact h2 y (List.mem_cons_of_mem _ hy)
def rMax3 (K : PySem.W.Frag) : List V → Hp → VK → Prop := fun xs H Q => ∃ (a : Addr) (vs : List V) (t : T3) (ts : List T3), xs = [.ref a] ∧ SqL K H a vs ∧ DpAll K H vs ((t :: ts).map t3P) ∧
  ∀ (i : Nat) (v : V) (m : T3), vs[i]? = some v → (t :: ts)[i]? = some m → (∀ y ∈ t :: ts, le3 y m) → Q v H
theorem t3_depth : ∀ ts : List T3, PyData.depthAll (ts.map t3P) ≤ 1
  | [] => Nat.zero_le _
  | t :: ts => by
    have := t3_depth ts
    show max (PyData.depth (t3P t)) (PyData.depthAll (ts.map t3P)) ≤ 1
    have h : PyData.depth (t3P t) = 1 := by unfold t3P; simp only [PyData.depth, PyData.depthAll]; rfl
    omega
theorem dpAll_len {K : PySem.W.Frag} {H : Hp} : ∀ {vs : List V} {ds : List PyData}, DpAll K H vs ds → vs.length = ds.length
  | _, _, .nil => rfl
  | _, _, .cons _ r => congrArg (· + 1) (dpAll_len r)
theorem cr_max3 (hc : X.calm = true) (hu : X.A.units + 64 < cLine) : CallR X (.builtin "max") (rMax3 X.K) := by
  intro pins s σ H xs us Q I r h
  obtain ⟨a, vs, t, ts, rfl, hs, hd, q⟩ := h
  obtain ⟨its, rv, hl, _⟩ := I.list hs
  rw [Vals.ref1 r]
  obtain ⟨as, hr⟩ := Dp.readsAll I _ vs its hd rv
  have hal : ∀ x ∈ (t :: ts).map t3P, ∀ y ∈ (t :: ts).map t3P, PySem.W.alike x y = true := fun x hx y hy => by
    obtain ⟨x', _, rfl⟩ := List.mem_map.mp hx
    obtain ⟨y', _, rfl⟩ := List.mem_map.mp hy
    exact t3_alike _ _
  refine PySem.W.max_list_data (x := t3P t) (xs := ts.map t3P) (as := as) (I.ok.hd hc) hl.isList (by simpa using hr) ⟨hal, fun x hx => by obtain ⟨x', _, rfl⟩ := List.mem_map.mp (show x ∈ (t :: ts).map t3P from hx); exact fun e => by cases e⟩ ?_ fun i v h' tk bs hi rm hk => ?_
  · have := t3_depth (t :: ts)
    have e : PyData.depthAll (t3P t :: ts.map t3P) ≤ 1 := this
    omega
  · have hi' : its[i]? = some v := by simpa using hi
    have hlen := dpAll_len hd
    obtain ⟨v0, hv0⟩ : ∃ v0, vs[i]? = some v0 := by
      have z := (List.getElem?_eq_some_iff.mp hi').1
      rw [← rv.length] at z
      exact ⟨_, List.getElem?_eq_getElem z⟩
    obtain ⟨v2, hv2, rv0⟩ := rv.get hv0
    have ev : v = v2 := Option.some.inj (hi'.symm.trans hv2)
    subst ev
    have hil : i < (t :: ts).length := by
      have := (List.getElem?_eq_some_iff.mp hv0).1
      rw [hlen, List.length_map] at this
      exact this
    obtain ⟨bs2, r2, _⟩ := PySem.W.readsAll_at hr i v hi'
    have e1 : ((t :: ts).map t3P).getD i .none = t3P (t :: ts)[i] := by
      rw [List.getD_eq_getElem?_getD, List.getElem?_map, List.getElem?_eq_getElem hil]; rfl
    rw [e1] at r2
    rw [max3_maxD] at rm
    have e2 := t3_inj (PySem.W.alike_unique _ _ _ _ _ (t3_alike _ _) (PySem.W.reads_keeps hk r2) rm)
    refine ⟨v0, H, I.kept hk, rv0, q i v0 (t :: ts)[i] hv0 (List.getElem?_eq_getElem hil) fun y hy => ?_⟩
    rw [e2]
    exact (max3_ok t ts).2 y hy
theorem t3_dp {F H : Hp} (e : Ex F H) : ∀ {ts : List T3} {vs : List V}, Reps X.K C F vs (ts.map t3D) → DpAll X.K H vs (ts.map t3P)
  | [], _, r => by cases r; exact .nil
  | t :: ts, _, r => by
    rw [List.map_cons] at r
    generalize hd : t3D t = dd at r
    cases r with
    | cons r1 r2 =>
      cases r1 with
      | @tup a vs ds h1 h2 =>
        cases hd
        cases h2 with
        | cons q1 q2 =>
          cases q1
          cases q2 with
          | cons q1 q2 =>
            cases q1
            cases q2 with
            | cons q1 q2 =>
              cases q1
              cases q2
              exact .cons (.tup (SqT.of (e _ _ h1)) (.cons (.int _) (.cons (.int _) (.cons (.str _) .nil)))) (t3_dp e r2)
      | _ => cases hd
theorem n_max3 {ts : List T3} {Qd : D → Prop} (hn : ts ≠ []) (q : ∀ m ∈ ts, (∀ y ∈ ts, le3 y m) → Qd (t3D m)) : OpN X.K C (rMax3 X.K) [.lst (ts.map t3D)] Qd := fun F H vs R e r th => by
  obtain ⟨v, rfl, rp⟩ := reps1 r
  generalize hd : D.lst (ts.map t3D) = dd at rp
  cases rp with
  | @lst a ws ds h1 h2 =>
    cases hd
    cases ts with
    | nil => exact absurd rfl hn
    | cons t ts =>
      refine ⟨a, ws, t, ts, rfl, SqL.of (e _ _ h1), t3_dp e h2, fun i v m hi hm hy => ?_⟩
      obtain ⟨d, hd, rd⟩ := h2.getV hi
      rw [List.getElem?_map, hm] at hd
      cases hd
      exact th.here e (q m (List.mem_of_getElem? hm) hy) rd
  | _ => cases hd
theorem ev_max3 (hX : XOk X k N Vn Ln Gn) (hm : X.mg "max" = none) (hg : ("max" : Str) ∈ Gn) (h : Ev X C e n env fun d n1 env1 => ∃ ts : List T3, d = .lst (ts.map t3D) ∧ ts ≠ [] ∧ ∀ m ∈ ts, (∀ y ∈ ts, le3 y m) → Q (t3D m) n1 env1)
    (he : starEach [e] X.env = (false, eval e X.env) :: starEach [] X.env := by rfl) (hpl : (backTo pos (starEach [] X.env)).any (·.1) = false := by rfl) : Ev X C (.Call (.Name "max" p) [e] [] pos) n env Q :=
  evB hX (cr_max3 hX.calm hX.hu64) hm bt_max hg (ea_cons (Ev.imp h fun d n1 env1 ⟨ts, hd, hn, hq⟩ => by subst hd; exact ea_nil ⟨[_], rfl, n_max3 hn hq⟩) (hs := he)) he hpl
end
/-! ## K13 -/
section
variable {X : Cx} {C : Addr} {k : Nat} {N Vn Ln Gn : List Str} {n : Nat} {env : En} {x y z : Str} {pos : Pos} {e a b c : Expr} {E : EnD}
/-- x, y, z = a, b, c, names of any kind -/
theorem st_par3N {i j l : Nat} {px py pz pt : Pos} {kt k2 : Nat} {pt2 : Pos} (hX : XOk X k N Vn Ln Gn) (hi : Ix N x i) (hj : Ix N y j) (hl : Ix N z l) (hij : i ≠ j) (hil : i ≠ l) (hjl : j ≠ l) (hx : x ∈ Ln) (hy : y ∈ Ln) (hz : z ∈ Ln)
    (h : EvR X C a n env fun td1 n1 env1 => EvR X C b n1 env1 fun td2 n2 env2 => EvR X C c n2 env2 fun td3 n3 env3 => E.nx n3 (((env3.set i td1.sl).set j td2.sl).set l td3.sl))
    (hw : swappedStores [.Tuple [.Name x px, .Name y py, .Name z pz] kt pt] (.Tuple [a, b, c] k2 pt2) X.env = pure none)
    (hs : swapsWithSole [.Tuple [.Name x px, .Name y py, .Name z pz] kt pt] (.Tuple [a, b, c] k2 pt2) pos.line X.env = pure false)
    (hs1 : starEach [a, b, c] X.env = (false, eval a X.env) :: starEach [b, c] X.env := by rfl) (hs2 : starEach [b, c] X.env = (false, eval b X.env) :: starEach [c] X.env := by rfl) (hs3 : starEach [c] X.env = (false, eval c X.env) :: starEach [] X.env := by rfl)
    (hh : (assignEach [.Tuple [.Name x px, .Name y py, .Name z pz] kt pt] X.env).map (·.2) = [assign (.Tuple [.Name x px, .Name y py, .Name z pz] kt pt) X.env] := by rfl)
    (ht1 : (assignEach [.Name x px, .Name y py, .Name z pz] X.env).map (·.2) = assign (.Name x px) X.env :: (assignEach [.Name y py, .Name z pz] X.env).map (·.2) := by rfl) (ht2 : (assignEach [.Name y py, .Name z pz] X.env).map (·.2) = assign (.Name y py) X.env :: (assignEach [.Name z pz] X.env).map (·.2) := by rfl) (ht3 : (assignEach [.Name z pz] X.env).map (·.2) = assign (.Name z pz) X.env :: (assignEach [] X.env).map (·.2) := by rfl)
    (hn : (assignEach [.Name x px, .Name y py, .Name z pz] X.env).length = 3 := by rfl) (hst : (assignEach [.Name x px, .Name y py, .Name z pz] X.env).findIdx? (·.1) = none := by rfl) :
    StS X C (.Assign [.Tuple [.Name x px, .Name y py, .Name z pz] kt pt] (.Tuple [a, b, c] k2 pt2) pos) n env E := fun B ts σ H Z S q1 _ _ _ => by
  have nd : X.N.Nodup := by rw [hX.hN]; exact hX.nd
  obtain ⟨x1, x2⟩ := hX.loc x hx
  obtain ⟨y1, y2⟩ := hX.loc y hy
  obtain ⟨z1, z2⟩ := hX.loc z hz
  refine of_ps (ps_asg (pe_tup (pa_cons pe_t (pa_cons pe_t (pa_cons pe_t pa_nil hs3) hs2) hs1)) (pg_tup (n := 3) hX.calm (pgs_cons (pg_name nd (hX.get hi.get) x1 x2) (pgs_cons (pg_name nd (hX.get hj.get) y1 y2) (pgs_cons (pg_name nd (hX.get hl.get) z1 z2) pgs_nil ht3) ht2) ht1) hn hst) hs hw hh) ?_
  refine h B ts σ H _ S fun v1 H1 td1 n1 env1 h2 S1 => h2 B _ σ H1 _ S1 fun v2 H2 td2 n2 env2 h3 S2 => h3 B _ σ H2 _ S2 fun v3 H3 td3 n3 env3 q S3 => ?_
  obtain ⟨F, W, S3⟩ := S3
  refine ⟨by show 3 ≤ _; decide, fun p hp => ⟨p, [v1, v2, v3], rfl, SqT.of upd_same, rfl, v1, [v2, v3], rfl, v2, [v3], rfl, v3, [], rfl, rfl, ?_⟩⟩
  have S3 := S3.fresh (o := .tup [v1, v2, v3]) hp
  obtain ⟨W1, S4⟩ := S3.setF (i := l)
  obtain ⟨W2, S5⟩ := S4.set2 hij
  rw [List.set_comm (i := l) (j := i) _ _ (Ne.symm hil), List.set_comm (i := l) (j := j) _ _ (Ne.symm hjl), List.set_comm (i := l) (j := i) _ _ (Ne.symm hil), List.set_comm (i := l) (j := j) _ _ (Ne.symm hjl)] at S5
  exact q1 n3 _ _ _ q ⟨_, W2, S5⟩
/-- an expression of the kind x[k] over a dict of one's own: what stands there is data -/
theorem ev_ixO {i : Nat} {ks : List (Str × D)} {p : Pos} {Q : QE} (hX : XOk X k N Vn Ln Gn) (hl : Lk N env x i (.dct ks)) (hv : x ∈ Vn) (hp : PlainIx b) (h : Ev X C b n env fun dk n1 env1 => ∃ s d, dk = .str s ∧ env1 = env ∧ getK s ks = some d ∧ Q d n1 env) : Ev X C (.Subscript (.Name x p) b pos) n env Q := fun B ts σ H R S q => by
  obtain ⟨h1, h2⟩ := hl.ix
  obtain ⟨v1, v2, v3⟩ := hX.vis x hv
  obtain ⟨F, W, S0⟩ := id S
  have s := S0.slots i _ h2
  generalize hx : σ[i]? = o at s
  refine of_pe (pe_ix (ix_dict hX.hu) (pe_var (hX.get h1) v1 v2 v3) pe_t hp) ?_
  cases s with
  | @dct a0 kvs0 _ w0 g0 r0 =>
    refine ⟨.ref a0, hx, h B _ σ H _ S fun vk H1 dk n1 env1 ⟨s, d, hd, ee, hg, hq⟩ S1 => ?_⟩
    subst hd ee
    obtain ⟨F1, W1, S1⟩ := S1
    have t1 := S1.temps.1
    generalize hvk : vk = vk' at t1
    cases t1 with
    | dat rk =>
      have rk : Rep X.K C F1 vk' (.str s) := rk
      cases rk
      subst hvk
      have s1 := S1.slots i _ h2
      rw [hx] at s1
      cases s1 with
      | @dct a1 kvs1 _ w1 g1 r1 =>
        rcases r1.get s with ⟨e1, e2⟩ | ⟨d', v, e1, e2, e3⟩
        · rw [hg] at e1; cases e1
        · rw [hg] at e1
          cases e1
          refine ⟨a0, v, rfl, .inl ⟨kvs1, .inr s, .inl g1, rfl, e2.symm⟩, ?_⟩
          exact q v H1 _ n1 _ hq ⟨F1, W1, S1.pop.push e3⟩
theorem stb_dcl0X {sts : List Stmt} (x : Str) (i : Nat) (hX : XOk X k N Vn Ln Gn) (hl : Lk N env x i (.dct [])) (h : StB X C sts n (env.set i (.dcl [])) E) : StB X C sts n env E := stb_dcl0 hl h
theorem stb_frzDLX {sts : List Stmt} (x : Str) (i : Nat) {ks : List (Str × List D)} (hX : XOk X k N Vn Ln Gn) (hl : Lk N env x i (.dcl ks)) (h : StB X C sts n (env.set i (.dat (.dct (ks.map fun p => (p.1, .lst p.2))))) E) : StB X C sts n env E := stb_frzDL hl h
theorem stb_frzKX {sts : List Stmt} (x : Str) (i : Nat) {ks : List (Str × D)} (hX : XOk X k N Vn Ln Gn) (hl : Lk N env x i (.dct ks)) (h : StB X C sts n (env.set i (.dat (.dct ks))) E) : StB X C sts n env E := stb_frzK hl h
theorem stb_frzLX {sts : List Stmt} (x : Str) (i : Nat) {ds : List D} (hX : XOk X k N Vn Ln Gn) (hl : Lk N env x i (.lst ds)) (h : StB X C sts n (env.set i (.dat (.lst ds))) E) : StB X C sts n env E := stb_frzL hl h
theorem sts_dcl0X {st : Stmt} (x : Str) (i : Nat) (hX : XOk X k N Vn Ln Gn) (hl : Lk N env x i (.dct [])) (h : StS X C st n (env.set i (.dcl [])) E) : StS X C st n env E := fun B ts σ H Z S h1 h2 h3 h4 => by
  obtain ⟨F, W, S⟩ := S
  exact h B ts σ H Z ⟨F, W, S.dcl0 hl.ix.2⟩ h1 h2 h3 h4
theorem sts_frzDLX {st : Stmt} (x : Str) (i : Nat) {ks : List (Str × List D)} (hX : XOk X k N Vn Ln Gn) (hl : Lk N env x i (.dcl ks)) (h : StS X C st n (env.set i (.dat (.dct (ks.map fun p => (p.1, .lst p.2))))) E) : StS X C st n env E := fun B ts σ H Z S h1 h2 h3 h4 => by
  obtain ⟨F, W, S⟩ := S
  obtain ⟨F', W', v, _, S'⟩ := S.frzDL hl.ix.2
  exact h B ts σ H Z ⟨F', W', S'.pop⟩ h1 h2 h3 h4
theorem sts_frzKX {st : Stmt} (x : Str) (i : Nat) {ks : List (Str × D)} (hX : XOk X k N Vn Ln Gn) (hl : Lk N env x i (.dct ks)) (h : StS X C st n (env.set i (.dat (.dct ks))) E) : StS X C st n env E := fun B ts σ H Z S h1 h2 h3 h4 => by
  obtain ⟨F, W, S⟩ := S
  obtain ⟨F', W', v, _, S'⟩ := S.frzK hl.ix.2
  exact h B ts σ H Z ⟨F', W', S'.pop⟩ h1 h2 h3 h4
theorem sts_frzLX {st : Stmt} (x : Str) (i : Nat) {ds : List D} (hX : XOk X k N Vn Ln Gn) (hl : Lk N env x i (.lst ds)) (h : StS X C st n (env.set i (.dat (.lst ds))) E) : StS X C st n env E := fun B ts σ H Z S h1 h2 h3 h4 => by
  obtain ⟨F, W, S⟩ := S
  obtain ⟨F', W', v, _, S'⟩ := S.frzL hl.ix.2
  exact h B ts σ H Z ⟨F', W', S'.pop⟩ h1 h2 h3 h4
end
section
variable {X : Cx} {C : Addr} {k : Nat} {N Vn Ln Gn Cn : List Str} {n : Nat} {env : En} {QR' : QR} {p pos : Pos} {e tg iter elt : Expr} {es ifs : List Expr} {scope : Scope}
/-- a block over a dict, its turns the results of a function -/
theorem evr_lcKF (kd : Kd) {ks : List (Str × D)} (V' L' G' C' : List Str) (own : List (Str × Nat)) (hX : XOk X k N Vn Ln Gn) (hC : XCap X Cn) (hb1 : blkN N Cn scope own = true) (hb2 : blkV scope V' L' G' C' = true) (fl : D → Bool) (fe : D → D) (hd : DAt X C e env ks) (hpi : PiK X kd tg e iter) (hw : wipeE (wipeE env (own.map (·.2))) (own.map (·.2)) = wipeE env (own.map (·.2))) (hl : (itemsK kd ks).length ≤ 100000)
    (ht : ∀ d, d ∈ itemsK kd ks → AllB X scope k N V' L' G' C' fun X' => EvGv X' C (own.map (·.2)) tg (.dat d) n (wipeE env (own.map (·.2))) fun n2 env2 => n2 = n ∧ AllB X scope k N V' L' G' C' fun X' => EvPT X' C ifs n2 env2 fun b n3 env3 => b = fl d ∧ n3 = n ∧ wipeE env3 (own.map (·.2)) = wipeE env (own.map (·.2)) ∧
        (b = true → AllB X scope k N V' L' G' C' fun X' => Ev X' C elt n3 env3 fun y n4 env4 => y = fe d ∧ n4 = n ∧ wipeE env4 (own.map (·.2)) = wipeE env (own.map (·.2)))) (hq : QR' (.fl (((itemsK kd ks).filter fl).map fe)) n (wipeE env (own.map (·.2))))
    (hs : ∀ x, foldedSetIterable iter X.env x = pure x := by intro _; rfl) : EvR X C (.ListComp elt [⟨tg, iter, ifs, 0⟩] scope pos) n env QR' := by
  refine evr_lcK kd V' L' G' C' own hX hC hb1 hb2 hd hpi ?_ hs
  refine ⟨fun i acc n' env' => acc = (((itemsK kd ks).take i).filter fl).map fe ∧ n' = n ∧ env' = wipeE env (own.map (·.2)), ⟨rfl, rfl, rfl⟩, ?_, ?_⟩
  · rintro i d acc n' env' hd ⟨rfl, rfl, rfl⟩
    have hi := (List.getElem?_eq_some_iff.mp hd).1
    have tk : (itemsK kd ks).take (i + 1) = (itemsK kd ks).take i ++ [d] := by rw [List.take_succ, hd]; rfl
    intro s H0 Cc cl fp hX' hC'
    have h1 := ht d (List.mem_of_getElem? hd) s H0 Cc cl fp hX' hC'
    intro B ts v σ H R S r
    refine h1 B ts v σ H R S fun n2 env2 σ2 H2 ⟨en, h2⟩ S2 hw2 => r n2 env2 σ2 H2 ?_ S2 hw2
    intro s H0 Cc cl fp hX' hC'
    have h3 := h2 s H0 Cc cl fp hX' hC'
    intro B ts σ H R S r
    refine h3 B ts σ H R S fun b H3 n3 env3 ⟨eb, e3, w3, h4⟩ S3 => r b H3 n3 env3 ?_ S3
    subst eb
    cases hf : fl d with
    | false =>
      simp only [Bool.false_eq_true, if_false]
      exact ⟨by rw [tk, List.filter_append, List.map_append]; simp [hf], e3, w3⟩
    | true =>
      simp only [if_true]
      intro s H0 Cc cl fp hX' hC'
      have h5 := h4 hf s H0 Cc cl fp hX' hC'
      intro B ts σ H R S r
      refine h5 B ts σ H R S fun v H4 y n4 env4 ⟨ey, e4, w4⟩ S4 => r v H4 y n4 env4 ⟨?_, ?_, e4, w4⟩ S4
      · rw [List.length_map]
        have := List.length_filter_le fl ((itemsK kd ks).take i)
        rw [List.length_take] at this
        omega
      · rw [tk, List.filter_append, List.map_append, ey]; simp [hf]
  · rintro acc n' env' ⟨rfl, rfl, rfl⟩
    refine ⟨hw, ?_⟩
    rw [List.take_length]
    exact hq
end
/-! ## M11 -/
/-! ### runs: what stands in the dicts, and when they end -/
abbrev natD (m : Nat) : D := .int (m : Nat)
abbrev cmD (ns : List Str) (rw : Str → List Nat) : D := .dct (ns.map fun x => (x, .lst ((rw x).map natD)))
def runD : Option (Str × Nat) → D
  | none => .non
  | some p => .tup [.str p.1, natD p.2]
def hereL (ns : List Str) (s : RSt) : List (Str × List D) := ns.map fun x => (x, [natD (s x).1, natD (s x).2])
theorem keys_hereL (ns : List Str) (s : RSt) : (hereL ns s).map (·.1) = ns := by unfold hereL; rw [List.map_map]; exact List.map_id ns
theorem getL_map {f : Str → List D} {x : Str} : ∀ {ns : List Str}, x ∈ ns → getL x (ns.map fun y => (y, f y)) = some (f x)
  | [], h => nomatch h
  | y :: ns, h => by
    rw [List.map_cons, getL_cons]
    by_cases e : y = x
    · subst e; rw [if_pos rfl]
    · rw [if_neg e]
      exact getL_map (by rcases List.mem_cons.mp h with h | h; exact absurd h.symm e; exact h)
theorem getK_map1 {f : Str → D} {x : Str} : ∀ {ns : List Str}, x ∈ ns → getK x (ns.map fun y => (y, f y)) = some (f x)
  | [], h => nomatch h
  | y :: ns, h => by
    rw [List.map_cons, getK_cons]
    by_cases e : y = x
    · subst e; rw [if_pos rfl]
    · rw [if_neg e]
      exact getK_map1 (by rcases List.mem_cons.mp h with h | h; exact absurd h.symm e; exact h)
theorem setL_map {f : Str → List D} {x : Str} {l : List D} (ns : List Str) : ((ns.map fun y => (y, f y)).map fun p => if p.1 = x then (x, l) else p) = ns.map fun y => (y, if y = x then l else f y) := by
  rw [List.map_map]
  apply List.map_congr_left
  intro y _
  show (if y = x then (x, l) else (y, f y)) = (y, if y = x then l else f y)
  by_cases e : y = x
  · rw [if_pos e, if_pos e, e]
  · rw [if_neg e, if_neg e]
theorem any_keyL {f : Str → List D} {x : Str} {ns : List Str} (h : x ∈ ns) : ((ns.map fun y => (y, f y)).any fun p => decide (p.1 = x)) = true := by
  rw [List.any_eq_true]
  exact ⟨(x, f x), List.mem_map.mpr ⟨x, h, rfl⟩, decide_eq_true rfl⟩
theorem putL_old {f : Str → List D} {x : Str} {l : List D} {ns : List Str} (h : x ∈ ns) : putL (ns.map fun y => (y, f y)) x l = ns.map fun y => (y, if y = x then l else f y) := by
  unfold putL
  rw [any_keyL h, if_pos rfl, setL_map]
theorem putL_new {ks : List (Str × List D)} {s : Str} {d : List D} (h : s ∉ ks.map (·.1)) : putL ks s d = ks ++ [(s, d)] := by
  unfold putL
  rw [if_neg]
  rw [Bool.not_eq_true, List.any_eq_false]
  intro p hp
  rw [decide_eq_true_eq]
  intro e
  exact h (List.mem_map.mpr ⟨p, hp, e⟩)
/-! the work that is left -/
def wkR (js : List Jb) (rw : Str → List Nat) (s : RSt) (x : Str) : Nat := ((rw x).length - (s x).1) * csB (jF js x).bd - (s x).2
theorem sum_dec {g h : Str → Nat} {x : Str} : ∀ {ns : List Str}, ns.Nodup → x ∈ ns → g x + 1 = h x → (∀ y, y ≠ x → g y = h y) → (ns.map g).sum + 1 = (ns.map h).sum
  | [], _, hx, _, _ => nomatch hx
  | y :: ns, hn, hx, e1, e2 => by
    rw [List.nodup_cons] at hn
    rw [List.map_cons, List.map_cons, List.sum_cons, List.sum_cons]
    by_cases e : y = x
    · subst e
      have : ns.map g = ns.map h := List.map_congr_left fun z hz => e2 z fun q => hn.1 (q ▸ hz)
      rw [this]; omega
    · have ih := sum_dec (ns := ns) hn.2 (by rcases List.mem_cons.mp hx with h | h; exact absurd h.symm e; exact h) e1 e2
      rw [e2 y e]; omega
theorem sum_le {g : Str → Nat} {b : Nat} : ∀ {ns : List Str}, (∀ x ∈ ns, g x ≤ b) → (ns.map g).sum ≤ ns.length * b
  | [], _ => Nat.zero_le _
  | y :: ns, h => by
    have ih := sum_le (ns := ns) fun x hx => h x (List.mem_cons_of_mem _ hx)
    have := h y List.mem_cons_self
    rw [List.map_cons, List.sum_cons, List.length_cons, Nat.succ_mul]
    omega
theorem wk_adv {js : List Jb} {rw : Str → List Nat} {ns : List Str} {s : RSt} {t : Nat} {x : Str} (hr : rdR ns rw s t x) (hd : (s x).2 < csB (jF js x).bd) : wkR js rw (advR js s x) x + 1 = wkR js rw s x := by
  obtain ⟨_, h1, _⟩ := hr
  unfold wkR
  rw [advR_self]
  generalize (rw x).length = L at *
  generalize csB (jF js x).bd = c at *
  generalize (s x).1 = a at *
  generalize (s x).2 = d at *
  have e : L - a = (L - (a + 1)) + 1 := by omega
  have e2 : (L - a) * c = (L - (a + 1)) * c + c := by rw [e, Nat.succ_mul]
  rw [e2]
  split
  · show (L - (a + 1)) * c - 0 + 1 = _
    omega
  · show (L - a) * c - (d + 1) + 1 = _
    rw [e2]; omega
theorem wk_ne {js : List Jb} {rw : Str → List Nat} {s : RSt} {x y : Str} (h : y ≠ x) : wkR js rw (advR js s x) y = wkR js rw s y := by
  unfold wkR; rw [advR_ne h]
/-- the triple by which the moment's job is chosen -/
def triR (js : List Jb) (cf : Str → Nat) (s : RSt) (x : Str) : T3 := ((nwR js cf s x : Nat), (if inR js s x = [] then 0 else 1), x)
/-- those that wait -/
def rdb (rw : Str → List Nat) (s : RSt) (t : Nat) (x : Str) : Bool := decide ((s x).1 < (rw x).length) && decide ((rw x).getD (s x).1 0 ≤ t)
theorem rdb_iff {rw : Str → List Nat} {ns : List Str} {s : RSt} {t : Nat} {x : Str} : rdR ns rw s t x ↔ x ∈ ns ∧ rdb rw s t x = true := by
  unfold rdR rdb
  rw [Bool.and_eq_true, decide_eq_true_eq, decide_eq_true_eq]
/-- the greatest triple is the moment's step -/
theorem step_of {js : List Jb} {cf : Str → Nat} {ns ord : List Str} {rw : Str → List Nat} {s : RSt} {t : Nat} (ho : ord.Perm ns) {m : T3} (hm : m ∈ (ord.filter (rdb rw s t)).map (triR js cf s)) (hy : ∀ y ∈ (ord.filter (rdb rw s t)).map (triR js cf s), le3 y m) : rdR ns rw s t m.2.2 ∧ stepR js cf ns rw s t (some (m.2.2, (s m.2.2).1)) := by
  obtain ⟨x, hx, rfl⟩ := List.mem_map.mp hm
  obtain ⟨h1, h2⟩ := List.mem_filter.mp hx
  have hr : rdR ns rw s t x := rdb_iff.mpr ⟨ho.mem_iff.mp h1, h2⟩
  refine ⟨hr, rfl, hr, fun y hry => ?_⟩
  obtain ⟨g1, g2⟩ := rdb_iff.mp hry
  have := hy _ (List.mem_map.mpr ⟨y, List.mem_filter.mpr ⟨ho.mem_iff.mpr g1, g2⟩, rfl⟩)
  rcases this with h | ⟨h3, h4⟩
  · have h : ((nwR js cf s y : Nat) : Int) < ((nwR js cf s x : Nat) : Int) := h
    exact ⟨by show nwR js cf s y ≤ nwR js cf s x; omega, fun e => by have e : nwR js cf s y = nwR js cf s x := e; omega⟩
  · have h3 : ((nwR js cf s y : Nat) : Int) = ((nwR js cf s x : Nat) : Int) := h3
    have h4 : (if inR js s y = [] then (0 : Int) else 1) ≤ (if inR js s x = [] then (0 : Int) else 1) := h4
    refine ⟨by show nwR js cf s y ≤ nwR js cf s x; omega, fun _ hne => ?_⟩
    show inR js s x ≠ []
    intro e
    rw [if_neg hne, if_pos e] at h4
    omega
theorem no_step {js : List Jb} {cf : Str → Nat} {ns ord : List Str} {rw : Str → List Nat} {s : RSt} {t : Nat} (ho : ord.Perm ns) (h : ord.filter (rdb rw s t) = []) : stepR js cf ns rw s t none := by
  intro x hx
  obtain ⟨g1, g2⟩ := rdb_iff.mp hx
  have : x ∈ ord.filter (rdb rw s t) := List.mem_filter.mpr ⟨ho.mem_iff.mpr g1, g2⟩
  rw [h] at this; cases this
theorem words7_okT : ∀ x ∈ words7, okT x = true := by decide +kernel
theorem nm_okT {js : List Jb} (h : OkJs js) {x : Str} (hx : x ∈ js.map (·.nm)) : okT x = true := by
  obtain ⟨j, hj, rfl⟩ := List.mem_map.mp hx
  exact words7_okT _ (h.ok j hj).wd
/-! ## F11 -/
section
variable {P : Program} {w : World} {K : PySem.W.Frag} {mg : Str → Option Value} {base : Heap} {C : Addr}
/-! ### _law_run -/
abbrev sRun : Stmt := topS 39
theorem scRun : FnScope ["_law_jobs_here", "_law_ceilings_here", "_law_comings_here", "_law_units_here", "_law_here", "_law_found", "_law_job", "_law_some", "_law_number", "_law_did", "_law_inside_here", "_law_now", "_law_thing"] ["_law_jobs_here", "_law_ceilings_here", "_law_comings_here"] (defScope sRun) := ⟨rfl, rfl, rfl, by decide +kernel, rfl, by decide +kernel, by decide +kernel⟩
def RRun : List D → Nat → (D → Nat → Prop) → Prop := fun ds n p => ∃ (js : List Jb) (ks : List (Str × D)) (cf : Str → Nat) (ns : List Str) (rw : Str → List Nat), ds = [jobsD js, .dct ks, cmD ns rw] ∧ OkJs js ∧ CeilK js ks cf ∧ ns.Nodup ∧ (∀ x ∈ ns, x ∈ js.map (·.nm)) ∧ (∀ x ∈ ns, (rw x).length ≤ 4 ∧ ∀ m ∈ rw x, m ≤ 5000) ∧ ∀ f : Run, SchR js cf ns rw f → (∀ x ∈ ns, (rw x).length ≤ (stF js f x).1) → p (.lst (f.map runD)) n
theorem ok_run {f : Addr} {fd : FuncData} (F : Fun K "_law_run" "_law_run" sRun f fd) (hm : mg "_law_run" = some (.ref f)) (hb : Binds K fd ["_law_jobs_here", "_law_ceilings_here", "_law_comings_here"] []) (m1 : mg "max" = none) (m2 : mg "any" = none) (m3 : mg "sorted" = none) (m4 : mg "len" = none) (m5 : mg "int" = none) (f4 : FnD P w K mg base C "_law_units" 3 false (RUnits 2)) (f5 : FnD P w K mg base C "_law_inside" 1 false RInside) : FnD P w K mg base C "_law_run" 4 false RRun := by
  refine fnD_of2 (k := 3) [.no, .no, .no, .no, .no, .no, .no, .no, .no, .no] ["_law_jobs_here", "_law_ceilings_here", "_law_comings_here", "_law_units_here", "_law_here", "_law_found", "_law_job", "_law_some", "_law_number", "_law_did", "_law_inside_here", "_law_now"] ["_law_units", "_law_inside", "sorted", "max", "any", "len", "int"] ["_law_ceilings_here", "_law_comings_here", "_law_here"] F hm scRun hb (by decide +kernel) (fun ds n p q h ⟨js, ks, cf, ns, rw, e, z1, z2, z3, z4, z5, z⟩ => ⟨js, ks, cf, ns, rw, e, z1, z2, z3, z4, z5, fun f a b => h _ _ (z f a b)⟩) (fun ds n p ⟨js, ks, cf, ns, rw, e, _⟩ => by subst e; rfl) ?_
  intro X e1 e2 e3 e4 e5 e6 hX hC ds n p ⟨js, ks, cf, ns, rw, e, hjs, hcf, hnn, hns, hrw, hp⟩
  subst e e1 e2 e3 e4 e5
  have hnl : ns.length ≤ 4 := by
    have := nodup_len hnn hns
    rw [List.length_map] at this
    exact Nat.le_trans this hjs.l2
  walk_at "up"
  refine stb_cons ?_
  refine st_par3N (i := 3) (j := 4) (l := 5) hX (by walk_at "lk") (by walk_at "lk") (by walk_at "lk") (by decide) (by decide) (by decide) (by walk_at "mem") (by walk_at "mem") (by walk_at "mem") ?_ (by generalize X.env = v at e6 ⊢; cases v; cases e6; rfl) (by generalize X.env = v at e6 ⊢; cases v; cases e6; rfl)
  walk_at "go"
  walk_at "up"
  refine sts_dcl0X "_law_here" 4 hX (by walk_at "lk") ?_
  walk_at "up"
  -- the units and the stands of all that come
  refine st_forK .keys (ks := ns.map fun x => (x, .lst ((rw x).map natD))) hX (da_name (i := 2) hX (by walk_at "lk") (by walk_at "mem")) pk_keys ?_
  refine ⟨fun i n' env' => ∃ (s6 : Sl), env' = [.dat (jobsD js), .dat (.dct ks), .dat (cmD ns rw), .dct ((ns.take i).map fun x => (x, unD (usJ (jF js x)))), .dcl (hereL (ns.take i) fun _ => (0, 0)), .lst [], s6, .no, .no, .no, .no, .no, .no] ∧ n' = n, ⟨.no, rfl, rfl⟩, ?_, ?_⟩
  · rintro i d n' env' hd ⟨s6, rfl, rfl⟩
    have hd : ((ns.map fun x => (x, D.lst ((rw x).map natD))).map fun p => D.str p.1)[i]? = some d := hd
    rw [List.map_map, List.getElem?_map] at hd
    cases hx : ns[i]? with
    | none => rw [hx] at hd; cases hd
    | some x =>
      rw [hx] at hd
      cases hd
      have hxn := List.mem_of_getElem? hx
      obtain ⟨hj, hjx⟩ := jF_mem hjs.nn (hns x hxn)
      have okj := hjs.ok _ hj
      have hsz := okj.sz
      have tk : ns.take (i + 1) = ns.take i ++ [x] := take_snoc hx
      have hxi : x ∉ ns.take i := fun z => by
        have hn2 := hnn
        rw [← List.take_append_drop (i + 1) ns, tk, List.append_assoc] at hn2
        exact (List.nodup_append.mp hn2).2.2 x z x (List.mem_append_left _ (List.mem_singleton.mpr rfl)) rfl
      have hgj : getK x (js.map jkv) = some (jobD (jF js x)) := by have := getK_jobs hjs.nn hj; rw [hjx] at this; exact this
      have hil : (ns.take i).length ≤ 4 := by rw [List.length_take]; omega
      refine eg_name (i := 6) hX (by walk_at "lk") (by walk_at "mem") ?_
      walk_at "up"
      refine stb_one ?_
      refine st_par2X hX ?_ (by generalize X.env = v at e6 ⊢; cases v; cases e6; rfl) (by generalize X.env = v at e6 ⊢; cases v; cases e6; rfl)
      refine evr_of ?_
      walk_at "go"
      refine o_ixK hgj ?_
      walk_at "go"
      refine ⟨(jF js x).bd, [], rfl, wfB_dp _ okj.wf, by omega, by decide, ?_⟩
      refine ⟨_, rfl, ?_⟩
      walk_at "go"
      refine eg_putK (i := 3) hX (by walk_at "lk") (by walk_at "mem") ?_
      walk_at "go"
      refine ⟨x, _, rfl, rfl, by rw [List.length_map]; omega, ?_⟩
      walk_at "up"
      refine eg_putL (i := 4) hX (by walk_at "lk") (by walk_at "mem") ?_
      walk_at "go"
      refine ⟨x, _, rfl, rfl, by rw [keys_hereL]; exact hnn.sublist (List.take_sublist _ _), by unfold hereL; rw [List.length_map]; omega, ?_⟩
      walk_at "up"
      refine ⟨.dat (.str x), ?_, rfl⟩
      rw [putD_new (by rw [List.map_map]; intro z; obtain ⟨y, hy, e⟩ := List.mem_map.mp z; exact hxi (by rw [← e]; exact hy)), putL_new (by rw [keys_hereL]; exact hxi), tk, List.map_append]
      unfold hereL
      rw [List.map_append]
      rfl
  · rintro n' env' ⟨s6, rfl, rfl⟩
    have hlen : (itemsK .keys (ns.map fun x => (x, D.lst ((rw x).map natD)))).length = ns.length := by show (List.map _ (List.map _ ns)).length = _; rw [List.length_map, List.length_map]
    rw [hlen, List.take_length]
    refine stb_frzKX "_law_units_here" 3 hX (by walk_at "lk") ?_
    walk_at "up"
    refine stb_cons ?_
    have hcsr : ∀ x ∈ ns, csB (jF js x).bd ≤ 33 := fun x hx => Nat.le_trans (csB_sz _) (hjs.ok _ (jF_mem hjs.nn (hns x hx)).1).sz
    have hU0 : (ns.map (wkR js rw fun _ => (0, 0))).sum ≤ 528 := by
      refine Nat.le_trans (sum_le (b := 132) fun x hx => ?_) (by omega)
      unfold wkR
      have h1 := (hrw x hx).1
      have h2 := hcsr x hx
      show ((rw x).length - 0) * csB (jF js x).bd - 0 ≤ 132
      exact Nat.le_trans (Nat.mul_le_mul h1 h2) (by decide)
    let mea : Run → Nat := fun f => (ns.map (wkR js rw (stF js f))).sum + (5000 - f.length)
    refine st_while hX (fun m n2 env2 => ∃ (f : Run) (s6 s7 s8 s9 s10 s11 : Sl), env2 = [.dat (jobsD js), .dat (.dct ks), .dat (cmD ns rw), .dat (.dct (ns.map fun x => (x, unD (usJ (jF js x))))), .dcl (hereL ns (stF js f)), .lst (f.map runD), s6, s7, s8, s9, s10, s11, .no] ∧ n2 = n' ∧ SchR js cf ns rw f ∧ (∀ x ∈ ns, (stF js f x).1 ≤ (rw x).length) ∧ m = mea f ∧ m + f.length ≤ 6000) (mea []) ?_ ?_
    · refine ⟨[], s6, .no, .no, .no, .no, .no, rfl, rfl, fun i e h => by simp at h, fun x hx => Nat.zero_le _, rfl, ?_⟩
      show (ns.map (wkR js rw (stF js []))).sum + (5000 - 0) + 0 ≤ 6000
      have : (ns.map (wkR js rw (stF js []))).sum ≤ 528 := hU0
      omega
    · rintro m n2 env2 ⟨f, s6, s7, s8, s9, s10, s11, rfl, rfl, hf, hle, rfl, hml⟩
      have I := inv_run hjs hns hf (Nat.le_refl f.length)
      rw [List.take_length] at I
      refine evt_lookX "_law_here" 4 hX (by walk_at "lk") rfl ?_
      walk_at "up"
      walk_at "go"
      refine ev_frz ?_
      have hkl : (itemsK .keys (ns.map fun x => (x, D.lst ((rw x).map natD)))) = ns.map .str := by show List.map _ (List.map _ ns) = _; rw [List.map_map]; rfl
      have hgh : ∀ x ∈ ns, getK x ((hereL ns (stF js f)).map fun p => (p.1, D.lst p.2)) = some (.lst [natD (stF js f x).1, natD (stF js f x).2]) := fun x hx => by
        unfold hereL
        rw [List.map_map]
        exact getK_map1 (f := fun x => .lst [natD (stF js f x).1, natD (stF js f x).2]) hx
      have hgc : ∀ x ∈ ns, getK x (ns.map fun x => (x, D.lst ((rw x).map natD))) = some (.lst ((rw x).map natD)) := fun x hx => getK_map1 (f := fun x => D.lst ((rw x).map natD)) hx
      refine evr_lcKF .keys (ks := ns.map fun x => (x, .lst ((rw x).map natD))) ["_law_job", "_law_here", "_law_comings_here"] ["_law_job"] ["len"] ["_law_here", "_law_comings_here"] [("_law_job", 6)] hX hC (by decide +kernel) (by decide +kernel) (fun _ => true) (fun d => match d with | .str x => .bl (decide ((stF js f x).1 < (rw x).length)) | d => d) (da_name (i := 2) hX (by walk_at "lk") (by walk_at "mem")) pk_keys rfl (by rw [hkl, List.length_map]; omega) ?_ ?_
      · rw [hkl]
        intro d hd
        obtain ⟨x, hx, rfl⟩ := List.mem_map.mp hd
        intro s H0 Cc cl fp hX' hC'
        walk_at "up"
        refine egv_name (i := 6) hX' (by walk_at "lk") (by walk_at "mem") (by decide) ?_
        refine ⟨rfl, ?_⟩
        intro s H0 Cc cl fp hX' hC'
        refine ept_nil ⟨rfl, rfl, rfl, fun _ => ?_⟩
        intro s H0 Cc cl fp hX' hC'
        walk_at "up"
        walk_at "go"
        refine o_ixK (hgh x hx) ?_
        walk_at "go"
        refine o_ixK (hgc x hx) ?_
        walk_at "go"
        refine ⟨?_, rfl, rfl⟩
        rw [List.length_map]
        show D.bl _ = D.bl _
        congr 1
        exact decide_eq_decide.mpr (by omega)
      · rw [hkl, List.filter_eq_self.mpr (fun _ _ => rfl), List.map_map]
        refine ⟨_, rfl, ?_⟩
        have hbl : (ns.map ((fun d => match d with | D.str x => D.bl (decide ((stF js f x).1 < (rw x).length)) | d => d) ∘ D.str)) = (ns.map fun x => decide ((stF js f x).1 < (rw x).length)).map .bl := by rw [List.map_map]; rfl
        rw [hbl]
        walk_at "go"
        refine n_any ?_
        refine ⟨_, rfl, ?_⟩
        cases hany : (ns.map fun x => decide ((stF js f x).1 < (rw x).length)).any id with
        | false =>
          refine iteF ?_
          walk_at "go"
          walk_at "frz"
          refine hp f hf fun x hx => Nat.not_lt.mp fun z => ?_
          rw [List.any_eq_false] at hany
          exact hany true (List.mem_map.mpr ⟨x, hx, decide_eq_true z⟩) rfl
        | true =>
          refine iteT ?_
          rw [List.any_eq_true] at hany
          obtain ⟨_, hb1, hb2⟩ := hany
          obtain ⟨x0, hx0, rfl⟩ := List.mem_map.mp hb1
          have hx0l : (stF js f x0).1 < (rw x0).length := of_decide_eq_true hb2
          walk_at "go"
          walk_at "up"
          refine st_for hX ?_
          refine ei_list ?_
          refine ev_frz (evr_sorted hX m3 (by walk_at "mem") ?_)
          walk_at "go"
          refine f_sortK (by rw [List.length_map]; omega) fun ord ho1 ho2 => ?_
          have ek : (ns.map fun x => (x, D.lst ((rw x).map natD))).map (·.1) = ns := by rw [List.map_map]; exact List.map_id ns
          rw [ek] at ho1
          have hol : ord.length ≤ 4 := by rw [ho1.length_eq]; exact hnl
          refine ⟨_, rfl, _, rfl, ?_⟩
          refine ⟨fun i n3 env3 => ∃ (s6 s8 s9 s10 s11 : Sl), env3 = [.dat (jobsD js), .dat (.dct ks), .dat (cmD ns rw), .dat (.dct (ns.map fun x => (x, unD (usJ (jF js x))))), .dcl (hereL ns (stF js f)), .lst (f.map runD), s6, .lst ((((ord.take i).filter (rdb rw (stF js f) f.length)).map (triR js cf (stF js f))).map t3D), s8, s9, s10, s11, .no] ∧ n3 = n2, ⟨s6, s8, s9, s10, s11, rfl, rfl⟩, ?_, ?_⟩
          · rintro i d n3 env3 hd ⟨s6, s8, s9, s10, s11, rfl, rfl⟩
            rw [List.getElem?_map] at hd
            cases hx : ord[i]? with
            | none => rw [hx] at hd; cases hd
            | some x =>
              rw [hx] at hd
              cases hd
              have tk : ord.take (i + 1) = ord.take i ++ [x] := take_snoc hx
              have hxn : x ∈ ns := ho1.mem_iff.mp (List.mem_of_getElem? hx)
              obtain ⟨hj, hjx⟩ := jF_mem hjs.nn (hns x hxn)
              have okj := hjs.ok _ hj
              have hgj : getK x (js.map jkv) = some (jobD (jF js x)) := by have := getK_jobs hjs.nn hj; rw [hjx] at this; exact this
              have hgu : getK x (ns.map fun x => (x, unD (usJ (jF js x)))) = some (unD (usJ (jF js x))) := getK_map1 (f := fun x => unD (usJ (jF js x))) hxn
              have hsl : (((ord.take i).filter (rdb rw (stF js f) f.length)).map (triR js cf (stF js f))).length ≤ 4 := by
                rw [List.length_map]
                have h1 := List.length_filter_le (rdb rw (stF js f) f.length) (ord.take i)
                have h2 : (ord.take i).length ≤ ord.length := by rw [List.length_take]; omega
                omega
              refine eg_name (i := 6) hX (by walk_at "lk") (by walk_at "mem") ?_
              walk_at "up"
              refine stb_cons ?_
              refine st_unpL (i := 4) hX (by walk_at "lk") (by walk_at "mem") (by intro _ _; rfl) ?_
              walk_at "go"
              refine ⟨x, _, _, rfl, rfl, by rw [keys_hereL]; exact hnn, getL_map (f := fun x => [natD (stF js f x).1, natD (stF js f x).2]) hxn, rfl, ?_⟩
              refine egs_name (i := 8) hX (by walk_at "lk") (by walk_at "mem") ?_
              refine egs_name (i := 9) hX (by walk_at "lk") (by walk_at "mem") ?_
              refine egs_nil ?_
              walk_at "up"
              refine stb_one ?_
              refine st_if ?_
              refine EvT.imp (Q' := fun kk n1 env1 => kk = rdb rw (stF js f) f.length x ∧ n1 = n3 ∧ env1 = [.dat (jobsD js), .dat (.dct ks), .dat (cmD ns rw), .dat (.dct (ns.map fun x => (x, unD (usJ (jF js x))))), .dcl (hereL ns (stF js f)), .lst (f.map runD), .dat (.str x), .lst ((((ord.take i).filter (rdb rw (stF js f) f.length)).map (triR js cf (stF js f))).map t3D), .dat (natD (stF js f x).1), .dat (natD (stF js f x).2), s10, s11, .no]) ?_ ?_
              · refine evt_lookX "_law_found" 5 hX (by walk_at "lk") rfl ?_
                walk_at "up"
                walk_at "go"
                refine o_ixK (hgc x hxn) ?_
                walk_at "go"
                have hd1 : decide (((stF js f x).1 : Int) < (((rw x).map natD).length : Int)) = decide ((stF js f x).1 < (rw x).length) := by rw [List.length_map]; exact decide_eq_decide.mpr (by omega)
                rw [hd1]
                by_cases h1 : (stF js f x).1 < (rw x).length
                · rw [decide_eq_true h1]
                  refine iteT ?_
                  walk_at "go"
                  refine o_ixK (hgc x hxn) ?_
                  walk_at "go"
                  refine o_ixL (d := natD ((rw x).getD (stF js f x).1 0)) (by rw [List.getElem?_map, List.getElem?_eq_getElem h1, List.getD_eq_getElem?_getD, List.getElem?_eq_getElem h1]; rfl) ?_
                  walk_at "go"
                  refine ⟨?_, rfl, rfl⟩
                  unfold rdb
                  rw [decide_eq_true h1, Bool.true_and, List.length_map]
                  exact decide_eq_decide.mpr (by omega)
                · rw [decide_eq_false h1]
                  refine iteF ?_
                  refine ⟨?_, rfl, rfl⟩
                  unfold rdb
                  rw [decide_eq_false h1, Bool.false_and]
              · rintro kk n4 env4 ⟨rfl, rfl, rfl⟩
                cases hrd : rdb (rw) (stF js f) f.length x with
                | false =>
                  refine iteF ?_
                  refine stb_nil ?_
                  have el : (ord.take (i + 1)).filter (rdb rw (stF js f) f.length) = (ord.take i).filter (rdb rw (stF js f) f.length) := by rw [tk, List.filter_append]; simp [hrd]
                  rw [el]
                  exact ⟨_, _, _, _, _, rfl, rfl⟩
                | true =>
                  refine iteT ?_
                  walk_at "go"
                  refine o_ixK hgu ?_
                  walk_at "go"
                  refine ⟨usJ (jF js x), (stF js f x).2, rfl, usJ_ok okj things3_okT, ?_⟩
                  walk_at "go"
                  walk_at "up"
                  walk_at "go"
                  refine o_ixK hgj ?_
                  walk_at "go"
                  have hil := insU_len okj (stF js f x).2
                  refine ⟨_, rfl, ?_⟩
                  refine ev_frz ?_
                  refine evr_lcF ["_law_thing", "_law_ceilings_here"] ["_law_thing"] [] ["_law_ceilings_here"] [("_law_thing", 12)] hX hC (by decide +kernel) (by decide +kernel) (fun _ => true) (fun d => match d with | .str x => .int (cf x : Nat) | d => d) ?_
                  refine ei_list ?_
                  walk_at "go"
                  refine ⟨by rw [List.length_map]; omega, rfl, fun d hd => ?_, ?_⟩
                  · obtain ⟨y, hy, rfl⟩ := List.mem_map.mp hd
                    intro s H0 Cc cl fp hX' hC'
                    refine egv_name (i := 12) hX' (by walk_at "lk") (by walk_at "mem") (by decide) ?_
                    refine ⟨rfl, ?_⟩
                    intro s H0 Cc cl fp hX' hC'
                    refine ept_nil ⟨rfl, rfl, rfl, fun _ => ?_⟩
                    intro s H0 Cc cl fp hX' hC'
                    walk_at "up"
                    walk_at "go"
                    refine o_ixK (hcf _ hj y (insU_th okj hy)) ?_
                    exact ⟨rfl, rfl, rfl⟩
                  · refine ⟨_, rfl, ?_⟩
                    have hls : (((insU (usJ (jF js x)) (stF js f x).2).map D.str).filter fun _ => true).map (fun d => match d with | .str x => D.int (cf x : Nat) | d => d) = (insU (usJ (jF js x)) (stF js f x).2).map fun x => D.int (cf x : Nat) := by
                      rw [List.filter_eq_self.mpr (fun _ _ => rfl), List.map_map]; rfl
                    rw [hls]
                    refine o_addL (by rw [List.length_map]; show 1 + _ ≤ _; omega) ?_
                    walk_at "go"
                    have hnsm : ([D.int ((jF js x).pr : Nat)] ++ (insU (usJ (jF js x)) (stF js f x).2).map fun x => D.int (cf x : Nat)) = (((jF js x).pr : Int) :: (insU (usJ (jF js x)) (stF js f x).2).map fun t => ((cf t : Nat) : Int)).map .int := by
                      rw [List.map_cons, List.map_map]; rfl
                    rw [hnsm]
                    refine n_maxL (by simp) fun m hm1 hm2 => ?_
                    have hmn := nowU_eq hm1 hm2
                    subst hmn
                    walk_at "up"
                    refine stb_one ?_
                    refine st_expr ?_
                    refine ev_append (i := 7) hX (by walk_at "lk") (by walk_at "mem") ?_
                    walk_at "go"
                    have hall : ((insU (usJ (jF js x)) (stF js f x).2).map D.str).all (okD 2) = true := by
                      rw [List.all_eq_true]
                      intro d hd
                      obtain ⟨y, hy, rfl⟩ := List.mem_map.mp hd
                      exact things3_okT _ (thB_wf _ okj.wf _ (insU_th okj hy))
                    refine o_neNil hall ?_
                    walk_at "go"
                    refine ⟨_, rfl, by rw [List.length_map]; omega, ?_⟩
                    walk_at "up"
                    have el : (ord.take (i + 1)).filter (rdb rw (stF js f) f.length) = (ord.take i).filter (rdb rw (stF js f) f.length) ++ [x] := by rw [tk, List.filter_append]; simp [hrd]
                    have et : t3D (triR js cf (stF js f) x) = D.tup [.int (nowU cf (jF js x).pr (insU (usJ (jF js x)) (stF js f x).2) : Nat), .int (if (!((insU (usJ (jF js x)) (stF js f x).2).map D.str).isEmpty) = true then 1 else 0), .str x] := by
                      unfold t3D triR inR nwR inR
                      cases insU (usJ (jF js x)) (stF js f x).2 with
                      | nil => rfl
                      | cons a r => rfl
                    rw [el, List.map_append, List.map_append]
                    have et2 : List.map t3D (List.map (triR js cf (stF js f)) [x]) = [t3D (triR js cf (stF js f) x)] := rfl
                    rw [et2, et]
                    exact ⟨_, _, _, _, _, rfl, rfl⟩
          · rintro n3 env3 ⟨s6, s8, s9, s10, s11, rfl, rfl⟩
            have hlen : (ord.map D.str).length = ord.length := List.length_map _
            rw [hlen, List.take_length]
            have hall3 : (((ord.filter (rdb rw (stF js f) f.length)).map (triR js cf (stF js f))).map t3D).all (okD 2) = true := by
              rw [List.all_eq_true]
              intro d hd
              obtain ⟨t, ht, rfl⟩ := List.mem_map.mp hd
              obtain ⟨y, hy, rfl⟩ := List.mem_map.mp ht
              have hyn : y ∈ ns := ho1.mem_iff.mp (List.mem_filter.mp hy).1
              show ([D.int _, D.int _, D.str y].all (okD 1)) = true
              rw [List.all_cons, List.all_cons, List.all_cons]
              rw [show okD 1 (D.str y) = true from nm_okT hjs (hns y hyn)]
              rfl
            refine stb_one ?_
            refine st_if ?_
            refine EvT.imp (Q' := fun kk n1 env1 => kk = (((ord.filter (rdb rw (stF js f) f.length)).map (triR js cf (stF js f))).map t3D).isEmpty ∧ n1 = n3 ∧ env1 = [.dat (jobsD js), .dat (.dct ks), .dat (cmD ns rw), .dat (.dct (ns.map fun x => (x, unD (usJ (jF js x))))), .dcl (hereL ns (stF js f)), .lst (f.map runD), s6, .lst ((((ord).filter (rdb rw (stF js f) f.length)).map (triR js cf (stF js f))).map t3D), s8, s9, s10, s11, .no]) ?_ ?_
            · refine evt_lookX "_law_some" 7 hX (by walk_at "lk") rfl ?_
              walk_at "up"
              walk_at "go"
              refine o_eqNil hall3 ?_
              exact ⟨_, rfl, rfl, rfl, rfl⟩
            · rintro kk n4 env4 ⟨rfl, rfl, rfl⟩
              have hfl : f.length < 100000 := by omega
              cases hemp : (((ord.filter (rdb rw (stF js f) f.length)).map (triR js cf (stF js f))).map t3D).isEmpty with
              | true =>
                have hno : ord.filter (rdb rw (stF js f) f.length) = [] := by
                  rw [List.isEmpty_iff, List.map_eq_nil_iff, List.map_eq_nil_iff] at hemp
                  exact hemp
                have hstep := no_step (js := js) (cf := cf) ho1 hno
                refine iteT ?_
                refine stb_one ?_
                refine st_expr ?_
                refine ev_append (i := 5) hX (by walk_at "lk") (by walk_at "mem") ?_
                walk_at "go"
                refine ⟨_, rfl, by rw [List.length_map]; exact hfl, ?_⟩
                walk_at "up"
                have ef : f.map runD ++ [D.non] = (f ++ [none]).map runD := by rw [List.map_append]; rfl
                rw [ef]
                have est : stF js (f ++ [none]) = stF js f := stF_snoc js f none
                have ht5 : f.length < 5000 := by
                  have h1 : ¬ rdR ns rw (stF js f) f.length x0 := hstep x0
                  have h2 : ¬ (rw x0).getD (stF js f x0).1 0 ≤ f.length := fun z => h1 ⟨hx0, hx0l, z⟩
                  have h3 : (rw x0).getD (stF js f x0).1 0 ≤ 5000 := (hrw x0 hx0).2 _ (by rw [List.getD_eq_getElem?_getD, List.getElem?_eq_getElem hx0l]; exact List.getElem_mem hx0l)
                  omega
                have hme : mea (f ++ [none]) < mea f := by
                  show (ns.map (wkR js rw (stF js (f ++ [none])))).sum + (5000 - (f ++ [none]).length) < (ns.map (wkR js rw (stF js f))).sum + (5000 - f.length)
                  rw [est, List.length_append]
                  show _ + (5000 - (f.length + 1)) < _
                  omega
                refine ⟨mea (f ++ [none]), hme, f ++ [none], _, _, _, _, _, _, by rw [est], rfl, SchR.snoc.mpr ⟨hf, hstep⟩, by rw [est]; exact hle, rfl, ?_⟩
                rw [List.length_append]
                show _ + (f.length + 1) ≤ _
                omega
              | false =>
                refine iteF ?_
                have hne : (ord.filter (rdb rw (stF js f) f.length)).map (triR js cf (stF js f)) ≠ [] := fun e => by rw [e] at hemp; cases hemp
                refine stb_cons ?_
                refine st_set (i := 6) hX (by walk_at "lk") (by walk_at "mem") ?_
                refine evr_of ?_
                refine ev_lookX "_law_some" 7 hX (by walk_at "lk") rfl ?_
                walk_at "up"
                refine ev_sub1 hX (fun _ _ => rfl) ?_
                refine ev_max3 hX m1 (by walk_at "mem") ?_
                walk_at "go"
                refine ⟨_, rfl, hne, fun m hm hy => ?_⟩
                walk_at "go"
                refine ⟨rfl, ?_⟩
                obtain ⟨hr, hstep⟩ := step_of (js := js) (cf := cf) ho1 hm hy
                generalize m.2.2 = x at *
                have hxn : x ∈ ns := hr.1
                obtain ⟨hj, hjx⟩ := jF_mem hjs.nn (hns x hxn)
                have okj := hjs.ok _ hj
                have hgu : getK x (ns.map fun x => (x, unD (usJ (jF js x)))) = some (unD (usJ (jF js x))) := getK_map1 (f := fun x => unD (usJ (jF js x))) hxn
                have hd := I.lt x hxn
                refine stb_cons ?_
                refine st_expr ?_
                refine ev_append (i := 5) hX (by walk_at "lk") (by walk_at "mem") ?_
                refine ev_tup ?_
                refine ea_cons ?_
                refine ev_var hX (by walk_at "lk") (by walk_at "mem") ?_
                refine ea_cons ?_
                refine ev_lookX "_law_here" 4 hX (by walk_at "lk") rfl ?_
                walk_at "up"
                walk_at "go"
                refine o_ixK (hgh x hxn) ?_
                walk_at "go"
                refine ⟨rfl, ?_⟩
                walk_at "go"
                refine ⟨_, rfl, by rw [List.length_map]; exact hfl, ?_⟩
                walk_at "up"
                have ef : f.map runD ++ [D.tup [.str x, natD (stF js f x).1]] = (f ++ [some (x, (stF js f x).1)]).map runD := by rw [List.map_append]; rfl
                rw [ef]
                have est : stF js (f ++ [some (x, (stF js f x).1)]) = advR js (stF js f) x := stF_snoc js f (some (x, (stF js f x).1))
                let s1 : RSt := fun y => if y = x then ((stF js f x).1, (stF js f x).2 + 1) else stF js f y
                have s1x : s1 x = ((stF js f x).1, (stF js f x).2 + 1) := if_pos rfl
                refine stb_cons ?_
                refine st_asg ?_ (by generalize X.env = v at e6 ⊢; cases v; cases e6; rfl) (by generalize X.env = v at e6 ⊢; cases v; cases e6; rfl)
                refine evr_of ?_
                refine ev_lookX "_law_here" 4 hX (by walk_at "lk") rfl ?_
                walk_at "up"
                walk_at "go"
                refine o_ixK (hgh x hxn) ?_
                walk_at "go"
                refine ⟨rfl, ?_⟩
                refine eg_putLL (i := 4) (j := 1) hX (by walk_at "lk") (by walk_at "mem") (by intro _ _; rfl) ?_
                walk_at "go"
                refine ⟨x, _, _, rfl, rfl, by rw [keys_hereL]; exact hnn, getL_map (f := fun x => [natD (stF js f x).1, natD (stF js f x).2]) hxn, by show 1 < 2; decide, ?_⟩
                have e1 : ((hereL ns (stF js f)).map fun p => if p.1 = x then (x, [natD (stF js f x).1, natD (stF js f x).2].set 1 (.int (((stF js f x).2 : Nat) + 1))) else p) = hereL ns s1 := by
                  unfold hereL
                  rw [setL_map]
                  apply List.map_congr_left
                  intro y _
                  by_cases e : y = x
                  · rw [if_pos e, e, s1x]; rfl
                  · rw [if_neg e]
                    have : s1 y = stF js f y := if_neg e
                    rw [this]
                rw [e1]
                walk_at "up"
                have hg1 : getK x ((hereL ns s1).map fun p => (p.1, D.lst p.2)) = some (.lst [natD (stF js f x).1, natD ((stF js f x).2 + 1)]) := by
                  unfold hereL
                  rw [List.map_map]
                  have := getK_map1 (f := fun x => .lst [natD (s1 x).1, natD (s1 x).2]) hxn
                  rw [s1x] at this
                  exact this
                have hdone : ∀ (ee : En) (s' : RSt), s' = advR js (stF js f) x → ee = [.dat (jobsD js), .dat (.dct ks), .dat (cmD ns rw), .dat (.dct (ns.map fun x => (x, unD (usJ (jF js x))))), .dcl (hereL ns s'), .lst ((f ++ [some (x, (stF js f x).1)]).map runD), .dat (.str x), .lst (((ord.filter (rdb rw (stF js f) f.length)).map (triR js cf (stF js f))).map t3D), s8, s9, s10, s11, .no] → ∃ m', m' < mea f ∧ ∃ (f' : Run) (s6 s7 s8 s9 s10 s11 : Sl), ee = [.dat (jobsD js), .dat (.dct ks), .dat (cmD ns rw), .dat (.dct (ns.map fun x => (x, unD (usJ (jF js x))))), .dcl (hereL ns (stF js f')), .lst (f'.map runD), s6, s7, s8, s9, s10, s11, .no] ∧ n4 = n4 ∧ SchR js cf ns rw f' ∧ (∀ x ∈ ns, (stF js f' x).1 ≤ (rw x).length) ∧ m' = mea f' ∧ m' + f'.length ≤ 6000 := by
                  rintro ee s' rfl rfl
                  have hw1 : wkR js rw (advR js (stF js f) x) x + 1 = wkR js rw (stF js f) x := wk_adv hr hd
                  have hsum := sum_dec (g := wkR js rw (advR js (stF js f) x)) (h := wkR js rw (stF js f)) hnn hxn hw1 fun y hy => wk_ne hy
                  have hme : mea (f ++ [some (x, (stF js f x).1)]) + 1 ≤ mea f := by
                    show (ns.map (wkR js rw (stF js (f ++ [some (x, (stF js f x).1)])))).sum + (5000 - (f ++ [some (x, (stF js f x).1)]).length) + 1 ≤ (ns.map (wkR js rw (stF js f))).sum + (5000 - f.length)
                    rw [est, List.length_append]
                    show _ + (5000 - (f.length + 1)) + 1 ≤ _
                    omega
                  refine ⟨mea (f ++ [some (x, (stF js f x).1)]), hme, f ++ [some (x, (stF js f x).1)], _, _, _, _, _, _, by rw [est], rfl, SchR.snoc.mpr ⟨hf, hstep⟩, fun y hy => ?_, rfl, ?_⟩
                  · rw [est]
                    by_cases e : y = x
                    · subst e
                      rw [advR_self]
                      have h1 : (stF js f y).1 < (rw y).length := hr.2.1
                      split
                      · exact h1
                      · exact Nat.le_of_lt h1
                    · rw [advR_ne e]; exact hle y hy
                  · rw [List.length_append]
                    show _ + (f.length + 1) ≤ _
                    omega
                refine stb_one ?_
                refine st_if ?_
                refine EvT.imp (Q' := fun kk n1 env1 => kk = decide ((stF js f x).2 + 1 = csB (jF js x).bd) ∧ n1 = n4 ∧ env1 = [.dat (jobsD js), .dat (.dct ks), .dat (cmD ns rw), .dat (.dct (ns.map fun x => (x, unD (usJ (jF js x))))), .dcl (hereL ns s1), .lst ((f ++ [some (x, (stF js f x).1)]).map runD), .dat (.str x), .lst (((ord.filter (rdb rw (stF js f) f.length)).map (triR js cf (stF js f))).map t3D), s8, s9, s10, s11, .no]) ?_ ?_
                · refine evt_lookX "_law_here" 4 hX (by walk_at "lk") rfl ?_
                  walk_at "up"
                  walk_at "go"
                  refine o_ixK hg1 ?_
                  walk_at "go"
                  refine o_ixK hgu ?_
                  walk_at "go"
                  refine ⟨?_, rfl, rfl⟩
                  rw [List.length_map, unB_length]
                  exact decide_eq_decide.mpr (by omega)
                · rintro kk n5 env5 ⟨rfl, rfl, rfl⟩
                  by_cases hc : (stF js f x).2 + 1 = csB (jF js x).bd
                  · rw [decide_eq_true hc]
                    refine iteT ?_
                    refine stb_one ?_
                    refine st_asg ?_ (by generalize X.env = v at e6 ⊢; cases v; cases e6; rfl) (by generalize X.env = v at e6 ⊢; cases v; cases e6; rfl)
                    refine evr_lst ?_
                    refine ea_cons ?_
                    refine ev_lookX "_law_here" 4 hX (by walk_at "lk") rfl ?_
                    walk_at "up"
                    walk_at "go"
                    refine o_ixK hg1 ?_
                    walk_at "go"
                    refine ⟨rfl, ?_⟩
                    walk_at "go"
                    refine eg_putL (i := 4) hX (by walk_at "lk") (by walk_at "mem") ?_
                    walk_at "go"
                    refine ⟨x, _, rfl, rfl, by rw [keys_hereL]; exact hnn, by unfold hereL; rw [List.length_map]; omega, ?_⟩
                    have e2 : putL (hereL ns s1) x [D.int (((stF js f x).1 : Nat) + 1), D.int 0] = hereL ns (advR js (stF js f) x) := by
                      unfold hereL
                      rw [putL_old hxn]
                      apply List.map_congr_left
                      intro y _
                      by_cases e : y = x
                      · rw [if_pos e, e, advR_self, if_pos hc]; rfl
                      · rw [if_neg e, advR_ne e]
                        have : s1 y = stF js f y := if_neg e
                        rw [this]
                    rw [e2]
                    walk_at "up"
                    exact hdone _ _ rfl rfl
                  · rw [decide_eq_false hc]
                    refine iteF ?_
                    refine stb_nil ?_
                    have e2 : s1 = advR js (stF js f) x := by
                      funext y
                      by_cases e : y = x
                      · rw [e, s1x, advR_self, if_neg hc]
                      · rw [advR_ne e]; exact if_neg e
                    exact hdone _ _ e2 rfl
end
/-! ## K14 -/
section
variable {X : Cx} {C : Addr} {k : Nat} {N Vn Ln Gn Cn : List Str} {n : Nat} {env : En} {E : EnD} {x : Str} {p pos : Pos} {e tg iter elt : Expr} {es ifs : List Expr} {scope : Scope}
/-- name = [..] over a dict, the turns giving a function of the key -/
theorem st_setLcKF (kd : Kd) {ks : List (Str × D)} {i : Nat} {spos py : Pos} (V' L' G' C' : List Str) (own : List (Str × Nat)) (hX : XOk X k N Vn Ln Gn) (hC : XCap X Cn) (hi : Ix N x i) (hx : X.env.scope.names.lookup x = some .local) (hb1 : blkN N Cn scope own = true) (hb2 : blkV scope V' L' G' C' = true) (fl : D → Bool) (fe : D → D) (hd : DAt X C e env ks) (hpi : PiK X kd tg e iter) (hw : wipeE (wipeE env (own.map (·.2))) (own.map (·.2)) = wipeE env (own.map (·.2))) (hl0 : (itemsK kd ks).length ≤ 100000)
    (ht : ∀ d, d ∈ itemsK kd ks → AllB X scope k N V' L' G' C' fun X' => EvGv X' C (own.map (·.2)) tg (.dat d) n (wipeE env (own.map (·.2))) fun n2 env2 => n2 = n ∧ AllB X scope k N V' L' G' C' fun X' => EvPT X' C ifs n2 env2 fun b n3 env3 => b = fl d ∧ n3 = n ∧ wipeE env3 (own.map (·.2)) = wipeE env (own.map (·.2)) ∧
        (b = true → AllB X scope k N V' L' G' C' fun X' => Ev X' C elt n3 env3 fun y n4 env4 => y = fe d ∧ n4 = n ∧ wipeE env4 (own.map (·.2)) = wipeE env (own.map (·.2)))) (hq : E.nx n ((wipeE env (own.map (·.2))).set i (.lst (((itemsK kd ks).filter fl).map fe))))
    (hk : X.env.scope.kind = .function) (hl : (py.line == pos.line) = true := by rfl) (ha : (scope.names.any fun (n, k) => n == x && (k == .local || k == .cell)) = false := by decide +kernel)
    (hs : ∀ x, foldedSetIterable iter X.env x = pure x := by intro _; rfl) : StS X C (.Assign [.Name x py] (.ListComp elt [⟨tg, iter, ifs, 0⟩] scope pos) spos) n env E := by
  refine st_setLcK kd V' L' G' C' own hX hC hi hx hb1 hb2 hd hpi ?_ hk hl ha hs
  refine ⟨fun i acc n' env' => acc = (((itemsK kd ks).take i).filter fl).map fe ∧ n' = n ∧ env' = wipeE env (own.map (·.2)), ⟨rfl, rfl, rfl⟩, ?_, ?_⟩
  · rintro i d acc n' env' hd ⟨rfl, rfl, rfl⟩
    have hi := (List.getElem?_eq_some_iff.mp hd).1
    have tk : (itemsK kd ks).take (i + 1) = (itemsK kd ks).take i ++ [d] := by rw [List.take_succ, hd]; rfl
    intro s H0 Cc cl fp hX' hC'
    have h1 := ht d (List.mem_of_getElem? hd) s H0 Cc cl fp hX' hC'
    intro B ts v σ H R S r
    refine h1 B ts v σ H R S fun n2 env2 σ2 H2 ⟨en, h2⟩ S2 hw2 => r n2 env2 σ2 H2 ?_ S2 hw2
    intro s H0 Cc cl fp hX' hC'
    have h3 := h2 s H0 Cc cl fp hX' hC'
    intro B ts σ H R S r
    refine h3 B ts σ H R S fun b H3 n3 env3 ⟨eb, e3, w3, h4⟩ S3 => r b H3 n3 env3 ?_ S3
    subst eb
    cases hf : fl d with
    | false =>
      simp only [Bool.false_eq_true, if_false]
      exact ⟨by rw [tk, List.filter_append, List.map_append]; simp [hf], e3, w3⟩
    | true =>
      simp only [if_true]
      intro s H0 Cc cl fp hX' hC'
      have h5 := h4 hf s H0 Cc cl fp hX' hC'
      intro B ts σ H R S r
      refine h5 B ts σ H R S fun v H4 y n4 env4 ⟨ey, e4, w4⟩ S4 => r v H4 y n4 env4 ⟨?_, ?_, e4, w4⟩ S4
      · rw [List.length_map]
        have := List.length_filter_le fl ((itemsK kd ks).take i)
        rw [List.length_take] at this
        omega
      · rw [tk, List.filter_append, List.map_append, ey]; simp [hf]
  · rintro acc n' env' ⟨rfl, rfl, rfl⟩
    refine ⟨hw, ?_⟩
    rw [List.take_length]
    exact hq
end
/-! ## M12 -/
theorem putD_old {f : Str → D} {x : Str} {d : D} {ns : List Str} (h : x ∈ ns) : putD (ns.map fun y => (y, f y)) x d = ns.map fun y => (y, if y = x then d else f y) := by
  unfold putD
  have ha : ((ns.map fun y => (y, f y)).any fun p => decide (p.1 = x)) = true := by
    rw [List.any_eq_true]
    exact ⟨(x, f x), List.mem_map.mpr ⟨x, h, rfl⟩, decide_eq_true rfl⟩
  rw [ha, if_pos rfl, List.map_map]
  apply List.map_congr_left
  intro y _
  show (if y = x then (x, d) else (y, f y)) = (y, if y = x then d else f y)
  by_cases e : y = x
  · rw [if_pos e, if_pos e, e]
  · rw [if_neg e, if_neg e]
theorem mergeD_new : ∀ {ls ks : List (Str × D)}, (ks.map (·.1) ++ ls.map (·.1)).Nodup → mergeD ks ls = ks ++ ls
  | [], ks, _ => (List.append_nil ks).symm
  | p :: ls, ks, h => by
    show mergeD (putD ks p.1 p.2) ls = _
    have hp : p.1 ∉ ks.map (·.1) := fun z => by
      rw [List.nodup_append] at h
      exact h.2.2 _ z _ List.mem_cons_self rfl
    rw [putD_new hp, mergeD_new (by rw [List.map_append, List.append_assoc]; exact h), List.append_assoc]
    rfl
theorem mergeD_nil {ls : List (Str × D)} (h : (ls.map (·.1)).Nodup) : mergeD [] ls = ls := mergeD_new (ks := []) h
theorem keys_fn {f : Str → D} (ns : List Str) : (ns.map fun y => (y, f y)).map (·.1) = ns := by rw [List.map_map]; exact List.map_id ns
theorem mod_adv {d c : Nat} (h : d < c) : (d + 1) % c = if d + 1 = c then 0 else d + 1 := by
  by_cases e : d + 1 = c
  · rw [if_pos e, e, Nat.mod_self]
  · rw [if_neg e, Nat.mod_eq_of_lt (by omega)]
/-- a list over the names of a dict -/
theorem items_keys {js : List Jb} : itemsK .keys (js.map jkv) = (js.map (·.nm)).map .str := by
  show (js.map jkv).map _ = _
  rw [List.map_map, List.map_map]; rfl
/-! ## F12 -/
section
variable {P : Program} {w : World} {K : PySem.W.Frag} {mg : Str → Option Value} {base : Heap} {C : Addr}
/-! ### _law_is_tangled -/
abbrev sTgd : Stmt := topS 41
theorem scTgd : FnScope ["_law_jobs_here", "_law_ceilings_here", "_law_comings_here", "_law_thing", "_law_units_here", "_law_here", "_law_pair", "_law_around", "_law_others", "_law_job", "_law_mark"] ["_law_jobs_here", "_law_ceilings_here", "_law_comings_here", "_law_thing"] (defScope sTgd) := ⟨rfl, rfl, rfl, by decide +kernel, rfl, by decide +kernel, by decide +kernel⟩
def RTgd : List D → Nat → (D → Nat → Prop) → Prop := fun ds n p => ∃ (js : List Jb) (ks : List (Str × D)) (cf : Str → Nat) (ns : List Str) (rw : Str → List Nat) (t : Str), ds = [jobsD js, .dct ks, cmD ns rw, .str t] ∧ OkJs js ∧ CeilK js ks cf ∧ ns.Nodup ∧ (∀ x ∈ ns, x ∈ js.map (·.nm)) ∧ (∀ x ∈ ns, (rw x).length ≤ 4 ∧ ∀ m ∈ rw x, m ≤ 5000) ∧ ∀ (f : Run) (b : Bool), SchR js cf ns rw f → (∀ x ∈ ns, (rw x).length ≤ (stF js f x).1) → (b = true ↔ tgR js t f) → p (.bl b) n
def tgAt (js : List Jb) (t : Str) (s : RSt) (x : Str) : Prop := t ∈ ((usJ (jF js x)).getD (s x).2 []).map (·.1) ∧ ∃ y ∈ js.map (·.nm), y ≠ x ∧ t ∈ inR js s y
theorem ok_tgd {f : Addr} {fd : FuncData} (F : Fun K "_law_is_tangled" "_law_is_tangled" sTgd f fd) (hm : mg "_law_is_tangled" = some (.ref f)) (hb : Binds K fd ["_law_jobs_here", "_law_ceilings_here", "_law_comings_here", "_law_thing"] []) (m1 : mg "dict" = none) (m4 : mg "len" = none) (m5 : mg "int" = none) (f4 : FnD P w K mg base C "_law_units" 3 false (RUnits 2)) (f5 : FnD P w K mg base C "_law_inside" 1 false RInside) (f6 : FnD P w K mg base C "_law_run" 4 false RRun) : FnD P w K mg base C "_law_is_tangled" 5 false RTgd := by
  refine fnD_of2 (k := 4) [.no, .no, .no, .no, .no, .no, .no] ["_law_jobs_here", "_law_ceilings_here", "_law_comings_here", "_law_thing", "_law_units_here", "_law_here", "_law_pair", "_law_around", "_law_others"] ["_law_run", "dict", "len", "int"] ["_law_jobs_here", "_law_thing", "_law_units_here", "_law_here", "_law_pair"] F hm scTgd hb (by decide +kernel) (fun ds n p q h ⟨js, ks, cf, ns, rw, t, e, z1, z2, z3, z4, z5, z⟩ => ⟨js, ks, cf, ns, rw, t, e, z1, z2, z3, z4, z5, fun f b h1 h2 h3 => h _ _ (z f b h1 h2 h3)⟩) (fun ds n p ⟨js, ks, cf, ns, rw, t, e, _⟩ => by subst e; rfl) ?_
  intro X e1 e2 e3 e4 e5 e6 hX hC ds n p ⟨js, ks, cf, ns, rw, t, e, hjs, hcf, hnn, hns, hrw, hp⟩
  subst e e1 e2 e3 e4 e5
  have hjl : (js.map (·.nm)).length ≤ 4 := by rw [List.length_map]; exact hjs.l2
  have hgj : ∀ x ∈ js.map (·.nm), getK x (js.map jkv) = some (jobD (jF js x)) := fun x hx => by
    obtain ⟨hj, hjx⟩ := jF_mem hjs.nn hx
    have := getK_jobs hjs.nn hj; rw [hjx] at this; exact this
  have hgu : ∀ x ∈ js.map (·.nm), getK x ((js.map (·.nm)).map fun x => (x, unD (usJ (jF js x)))) = some (unD (usJ (jF js x))) := fun x hx => getK_map1 (f := fun x => unD (usJ (jF js x))) hx
  walk_at "up"
  refine stb_cons ?_
  refine st_set (i := 4) hX (by walk_at "lk") (by walk_at "mem") ?_
  refine evr_dict1 hX m1 (by walk_at "mem") ?_
  refine evr_lcKF .keys (ks := js.map jkv) ["_law_job", "_law_jobs_here"] ["_law_job"] ["_law_units"] ["_law_jobs_here"] [("_law_job", 9)] hX hC (by decide +kernel) (by decide +kernel) (fun _ => true) (fun d => match d with | .str x => .tup [.str x, unD (usJ (jF js x))] | d => d) (da_name (i := 0) hX (by walk_at "lk") (by walk_at "mem")) pk_keys rfl (by rw [items_keys, List.length_map]; omega) ?_ ?_
  · rw [items_keys]
    intro d hd
    obtain ⟨x, hx, rfl⟩ := List.mem_map.mp hd
    obtain ⟨hj, hjx⟩ := jF_mem hjs.nn hx
    have okj := hjs.ok _ hj
    have hsz := okj.sz
    intro s H0 Cc cl fp hX' hC'
    walk_at "up"
    refine egv_name (i := 9) hX' (by walk_at "lk") (by walk_at "mem") (by decide) ?_
    refine ⟨rfl, ?_⟩
    intro s H0 Cc cl fp hX' hC'
    refine ept_nil ⟨rfl, rfl, rfl, fun _ => ?_⟩
    intro s H0 Cc cl fp hX' hC'
    walk_at "up"
    walk_at "go"
    refine o_ixK (hgj x hx) ?_
    walk_at "go"
    refine ⟨(jF js x).bd, [], rfl, wfB_dp _ okj.wf, by omega, by decide, ?_⟩
    walk_at "go"
    exact ⟨rfl, rfl, rfl⟩
  · rw [items_keys, List.filter_eq_self.mpr (fun _ _ => rfl), List.map_map]
    have hbl : ((js.map (·.nm)).map ((fun d => match d with | D.str x => D.tup [.str x, unD (usJ (jF js x))] | d => d) ∘ D.str)) = ((js.map (·.nm)).map fun x => (x, unD (usJ (jF js x)))).map pairD := by simp only [List.map_map]; rfl
    rw [hbl]
    refine ⟨_, rfl, ?_⟩
    rw [mergeD_nil (by rw [keys_fn]; exact hjs.nn)]
    walk_at "up"
    refine stb_frzKX "_law_units_here" 4 hX (by walk_at "lk") ?_
    walk_at "up"
    refine stb_cons ?_
    refine st_set (i := 5) hX (by walk_at "lk") (by walk_at "mem") ?_
    refine evr_dict1 hX m1 (by walk_at "mem") ?_
    refine evr_lcKF .keys (ks := js.map jkv) ["_law_job"] ["_law_job"] [] [] [("_law_job", 9)] hX hC (by decide +kernel) (by decide +kernel) (fun _ => true) (fun d => match d with | .str x => .tup [.str x, .int 0] | d => d) (da_name (i := 0) hX (by walk_at "lk") (by walk_at "mem")) pk_keys rfl (by rw [items_keys, List.length_map]; omega) ?_ ?_
    · rw [items_keys]
      intro d hd
      obtain ⟨x, hx, rfl⟩ := List.mem_map.mp hd
      intro s H0 Cc cl fp hX' hC'
      walk_at "up"
      refine egv_name (i := 9) hX' (by walk_at "lk") (by walk_at "mem") (by decide) ?_
      refine ⟨rfl, ?_⟩
      intro s H0 Cc cl fp hX' hC'
      refine ept_nil ⟨rfl, rfl, rfl, fun _ => ?_⟩
      intro s H0 Cc cl fp hX' hC'
      walk_at "up"
      walk_at "go"
      exact ⟨rfl, rfl, rfl⟩
    · rw [items_keys, List.filter_eq_self.mpr (fun _ _ => rfl), List.map_map]
      have hbl : ((js.map (·.nm)).map ((fun d => match d with | D.str x => D.tup [.str x, .int 0] | d => d) ∘ D.str)) = ((js.map (·.nm)).map fun x => (x, D.int 0)).map pairD := by simp only [List.map_map]; rfl
      rw [hbl]
      refine ⟨_, rfl, ?_⟩
      rw [mergeD_nil (by rw [keys_fn (f := fun _ => D.int 0)]; exact hjs.nn)]
      walk_at "up"
      refine stb_cons ?_
      refine st_for hX ?_
      refine ei_list ?_
      walk_at "go"
      refine ⟨js, ks, cf, ns, rw, rfl, hjs, hcf, hnn, hns, hrw, fun f hf hdn => ?_⟩
      walk_at "go"
      refine ⟨fun i n' env' => ∃ (s6 s7 s8 : Sl), env' = [.dat (jobsD js), .dat (.dct ks), .dat (cmD ns rw), .dat (.str t), .dat (.dct ((js.map (·.nm)).map fun x => (x, unD (usJ (jF js x))))), .dct ((js.map (·.nm)).map fun x => (x, natD (stF js (f.take i) x).2)), s6, s7, s8, .no, .no] ∧ n' = n ∧ ∀ k x m, k < i → f[k]? = some (some (x, m)) → ¬ tgAt js t (stF js (f.take k)) x, ⟨.no, .no, .no, rfl, rfl, fun k _ _ hk => absurd hk (Nat.not_lt_zero k)⟩, ?_, ?_⟩
      · rintro i d n' env' hd ⟨s6, s7, s8, rfl, rfl, hno⟩
        rw [List.getElem?_map] at hd
        cases hx : f[i]? with
        | none => rw [hx] at hd; cases hd
        | some e =>
          rw [hx] at hd
          cases hd
          have hi := (List.getElem?_eq_some_iff.mp hx).1
          have tk : f.take (i + 1) = f.take i ++ [e] := take_snoc hx
          have I := inv_run hjs hns hf (Nat.le_of_lt hi)
          have hst := hf i e hx
          have est : stF js (f.take (i + 1)) = advE js (stF js (f.take i)) e := by rw [tk, stF_snoc]
          have hgh : ∀ y ∈ js.map (·.nm), getK y ((js.map (·.nm)).map fun x => (x, natD (stF js (f.take i) x).2)) = some (natD (stF js (f.take i) y).2) := fun y hy => getK_map1 (f := fun x => natD (stF js (f.take i) x).2) hy
          refine eg_name (i := 6) hX (by walk_at "lk") (by walk_at "mem") ?_
          walk_at "up"
          refine stb_one ?_
          refine st_if ?_
          cases e with
          | none =>
            walk_at "go"
            refine iteF ?_
            refine stb_nil ?_
            rw [est]
            refine ⟨_, _, _, rfl, rfl, fun k x m hk h1 => ?_⟩
            rcases Nat.lt_succ_iff_lt_or_eq.mp hk with hk | rfl
            · exact hno k x m hk h1
            · rw [hx] at h1; cases h1
          | some q =>
            obtain ⟨x, m⟩ := q
            have hxn : x ∈ ns := hst.2.1.1
            obtain ⟨hj, hjx⟩ := jF_mem hjs.nn (hns x hxn)
            have okj := hjs.ok _ hj
            have hd := I.lt x hxn
            have htg : tgAt js t (stF js (f.take i)) x → tgR js t f := fun z => ⟨i, (x, m), hx, z.1, z.2⟩
            generalize hst' : stF js (f.take i) = st at *
            have hxj := hns x hxn
            have er : runD (some (x, m)) = .tup [.str x, natD m] := rfl
            rw [er]
            walk_at "go"
            refine iteT ?_
            walk_at "go"
            have hul : (usJ (jF js x)).length = csB (jF js x).bd := unB_length _ _ _
            have hal : ((usJ (jF js x)).getD (st x).2 []).length ≤ 2 := by
              rw [List.getD_eq_getElem?_getD, List.getElem?_eq_getElem (by omega)]
              have := (unB_ok (jF js x).bd okj.wf 0 [] _ (List.getElem_mem (show (st x).2 < (unB (jF js x).bd 0 []).length by rw [unB_length]; exact hd))).1
              simpa using this
            refine st_setLcF (i := 7) ["_law_mark"] ["_law_mark"] [] [] [("_law_mark", 10)] hX hC (by walk_at "lk") (by rw [e6]; rfl) (by decide +kernel) (by decide +kernel) (fun _ => true) fsT ?_ (by rw [e6]; rfl)
            refine ei_tup ?_
            refine ev_sub1 hX (fun _ _ => rfl) ?_
            walk_at "go"
            refine o_ixK (hgu x hxj) ?_
            refine ev_lookX "_law_here" 5 hX (by walk_at "lk") rfl ?_
            walk_at "up"
            walk_at "go"
            refine o_ixK (hgh x hxj) ?_
            refine ⟨rfl, ?_⟩
            refine o_ixL (d := arD ((usJ (jF js x)).getD (st x).2 [])) (by rw [List.getElem?_map, List.getElem?_eq_getElem (by omega), List.getD_eq_getElem?_getD, List.getElem?_eq_getElem (by omega)]; rfl) ?_
            refine ⟨_, rfl, ?_⟩
            refine ⟨by rw [List.length_map]; omega, rfl, fun d hd => ?_, ?_⟩
            · obtain ⟨mk, hmk, rfl⟩ := List.mem_map.mp hd
              intro s H0 Cc cl fp hX' hC'
              refine egv_name (i := 10) hX' (by walk_at "lk") (by walk_at "mem") (by decide) ?_
              refine ⟨rfl, ?_⟩
              intro s H0 Cc cl fp hX' hC'
              refine ept_nil ⟨rfl, rfl, rfl, fun _ => ?_⟩
              intro s H0 Cc cl fp hX' hC'
              walk_at "up"
              walk_at "go"
              exact ⟨rfl, rfl, rfl⟩
            · rw [fsT_ar]
              refine stb_cons ?_
              refine sts_frzLX "_law_around" 7 hX (by walk_at "lk") ?_
              walk_at "up"
              refine st_setLcKF .keys (i := 8) (ks := js.map jkv) ["_law_job", "_law_here", "_law_pair", "_law_thing", "_law_units_here"] ["_law_job"] ["_law_inside"] ["_law_here", "_law_pair", "_law_thing", "_law_units_here"] [("_law_job", 9)] hX hC (by walk_at "lk") (by rw [e6]; rfl) (by decide +kernel) (by decide +kernel) (fun d => match d with | .str y => !decide (y = x) && decide (t ∈ inR js st y) | _ => false) (fun d => d) (da_name (i := 0) hX (by walk_at "lk") (by walk_at "mem")) pk_keys rfl (by rw [items_keys, List.length_map]; omega) ?_ ?_ (by rw [e6]; rfl)
              · rw [items_keys]
                intro d hd
                obtain ⟨y, hy, rfl⟩ := List.mem_map.mp hd
                obtain ⟨hyj, hyy⟩ := jF_mem hjs.nn hy
                have oky := hjs.ok _ hyj
                intro s H0 Cc cl fp hX' hC'
                walk_at "up"
                refine egv_name (i := 9) hX' (by walk_at "lk") (by walk_at "mem") (by decide) ?_
                refine ⟨rfl, ?_⟩
                intro s H0 Cc cl fp hX' hC'
                walk_at "up"
                refine ept_one ?_
                refine evt_lookX "_law_here" 5 hX' (by walk_at "lk") rfl ?_
                walk_at "up"
                walk_at "go"
                by_cases hyx : y = x
                · rw [decide_eq_true hyx]
                  refine iteF ?_
                  refine ⟨?_, rfl, rfl, fun z => nomatch z⟩
                  rfl
                · rw [decide_eq_false hyx]
                  refine iteT ?_
                  walk_at "go"
                  refine o_ixK (hgu y hy) ?_
                  walk_at "go"
                  refine o_ixK (hgh y hy) ?_
                  walk_at "go"
                  refine ⟨usJ (jF js y), (st y).2, rfl, usJ_ok oky things3_okT, ?_⟩
                  refine o_inL rfl flat_strs ?_
                  refine ⟨_, rfl, ?_, rfl, rfl, fun _ => ?_⟩
                  · rw [inD_str]
                    rfl
                  · intro s H0 Cc cl fp hX' hC'
                    walk_at "go"
                    exact ⟨rfl, rfl, rfl⟩
              · rw [items_keys]
                have hot : (((js.map (·.nm)).map D.str).filter (fun d => match d with | .str y => !decide (y = x) && decide (t ∈ inR js st y) | _ => false)).map (fun d => d) = ((js.map (·.nm)).filter fun y => !decide (y = x) && decide (t ∈ inR js st y)).map D.str := by
                  rw [List.filter_map, List.map_id']; rfl
                rw [hot]
                walk_at "up"
                refine stb_cons ?_
                refine sts_frzLX "_law_others" 8 hX (by walk_at "lk") ?_
                walk_at "up"
                have hall : (((js.map (·.nm)).filter fun y => !decide (y = x) && decide (t ∈ inR js st y)).map D.str).all (okD 2) = true := by
                  rw [List.all_eq_true]
                  intro d hd
                  obtain ⟨y, hy, rfl⟩ := List.mem_map.mp hd
                  exact nm_okT hjs (List.mem_filter.mp hy).1
                refine st_if ?_
                refine EvT.imp (Q' := fun kk n1 env1 => kk = (decide (t ∈ ((usJ (jF js x)).getD (st x).2 []).map (·.1)) && !(((js.map (·.nm)).filter fun y => !decide (y = x) && decide (t ∈ inR js st y)).map D.str).isEmpty) ∧ n1 = n' ∧ env1 = [.dat (jobsD js), .dat (.dct ks), .dat (cmD ns rw), .dat (.str t), .dat (.dct ((js.map (·.nm)).map fun x => (x, unD (usJ (jF js x))))), .dct ((js.map (·.nm)).map fun x => (x, natD (st x).2)), .dat (.tup [.str x, natD m]), .dat (.lst ((((usJ (jF js x)).getD (st x).2 []).map (·.1)).map D.str)), .dat (.lst (((js.map (·.nm)).filter fun y => !decide (y = x) && decide (t ∈ inR js st y)).map D.str)), .no, .no]) ?_ ?_
                · walk_at "go"
                  refine o_inL rfl flat_strs ?_
                  refine ⟨_, rfl, ?_⟩
                  rw [inD_str]
                  by_cases h1 : t ∈ ((usJ (jF js x)).getD (st x).2 []).map (·.1)
                  · rw [decide_eq_true h1]
                    refine iteT ?_
                    walk_at "go"
                    refine o_neNil hall ?_
                    exact ⟨_, rfl, rfl, rfl, rfl⟩
                  · rw [decide_eq_false h1]
                    refine iteF ?_
                    exact ⟨rfl, rfl, rfl⟩
                · rintro kk n1 env1 ⟨rfl, rfl, rfl⟩
                  have hiff : (decide (t ∈ ((usJ (jF js x)).getD (st x).2 []).map (·.1)) && !(((js.map (·.nm)).filter fun y => !decide (y = x) && decide (t ∈ inR js st y)).map D.str).isEmpty) = true ↔ tgAt js t st x := by
                    rw [Bool.and_eq_true, decide_eq_true_eq, Bool.not_eq_true', List.isEmpty_map]
                    unfold tgAt
                    refine and_congr_right fun _ => ?_
                    rw [← Bool.not_eq_true, List.isEmpty_iff]
                    constructor
                    · intro h
                      obtain ⟨y, hy⟩ := List.exists_mem_of_ne_nil _ h
                      obtain ⟨h1, h2⟩ := List.mem_filter.mp hy
                      rw [Bool.and_eq_true, Bool.not_eq_true', decide_eq_false_iff_not, decide_eq_true_eq] at h2
                      exact ⟨y, h1, h2.1, h2.2⟩
                    · rintro ⟨y, h1, h2, h3⟩ h
                      have : y ∈ (js.map (·.nm)).filter fun y => !decide (y = x) && decide (t ∈ inR js st y) := List.mem_filter.mpr ⟨h1, by rw [decide_eq_false h2, decide_eq_true h3]; rfl⟩
                      rw [h] at this; cases this
                  cases hb : (decide (t ∈ ((usJ (jF js x)).getD (st x).2 []).map (·.1)) && !(((js.map (·.nm)).filter fun y => !decide (y = x) && decide (t ∈ inR js st y)).map D.str).isEmpty) with
                  | true =>
                    refine iteT ?_
                    refine stb_one ?_
                    walk_at "go"
                    exact hp f true hf hdn ⟨fun _ => htg (hiff.mp hb), fun _ => rfl⟩
                  | false =>
                    refine iteF ?_
                    refine stb_nil ?_
                    refine stb_one ?_
                    refine st_asg ?_ (by generalize X.env = v at e6 ⊢; cases v; cases e6; rfl) (by generalize X.env = v at e6 ⊢; cases v; cases e6; rfl)
                    refine evr_of ?_
                    refine ev_lookX "_law_here" 5 hX (by walk_at "lk") rfl ?_
                    walk_at "up"
                    walk_at "go"
                    refine o_ixK (hgh x hxj) ?_
                    walk_at "go"
                    refine o_ixK (hgu x hxj) ?_
                    walk_at "go"
                    refine o_mod (by rw [List.length_map]; omega) ?_
                    refine ⟨rfl, ?_⟩
                    refine eg_putK (i := 5) hX (by walk_at "lk") (by walk_at "mem") ?_
                    walk_at "go"
                    refine ⟨x, _, rfl, rfl, by rw [List.length_map]; omega, ?_⟩
                    rw [putD_old hxj]
                    walk_at "up"
                    have e3 : ((js.map (·.nm)).map fun y => (y, if y = x then D.int (((st x).2 + 1) % ((usJ (jF js x)).map arD).length) else natD (st y).2)) = (js.map (·.nm)).map fun y => (y, natD (stF js (f.take (i + 1)) y).2) := by
                      apply List.map_congr_left
                      intro y _
                      rw [est]
                      show (y, _) = (y, natD (advR js st x y).2)
                      by_cases e : y = x
                      · rw [if_pos e, e, advR_self, List.length_map, hul]
                        have h1 := mod_adv hd
                        have h2 : (((st x).2 : Int) + 1) % ((csB (jF js x).bd : Nat) : Int) = (((st x).2 + 1) % csB (jF js x).bd : Nat) := rfl
                        rw [h2, h1]
                        split <;> rfl
                      · rw [if_neg e, advR_ne e]
                    rw [e3]
                    refine ⟨_, _, _, rfl, rfl, fun k x' m' hk h1 => ?_⟩
                    rcases Nat.lt_succ_iff_lt_or_eq.mp hk with hk | rfl
                    · exact hno k x' m' hk h1
                    · rw [hx] at h1
                      cases h1
                      rw [hst']
                      exact fun z => by rw [hiff.mpr z] at hb; cases hb
      · rintro n' env' ⟨s6, s7, s8, rfl, rfl, hno⟩
        walk_at "go"
        refine hp f false hf hdn ⟨(fun z => nomatch z), ?_⟩
        rintro ⟨k, q, h1, h2, h3⟩
        obtain ⟨x, m⟩ := q
        exact (hno k x m (by rw [List.length_map]; exact (List.getElem?_eq_some_iff.mp h1).1) h1 ⟨h2, h3⟩).elim
end
/-! ## M13 -/
abbrev rowL (es : List (Str × List Nat)) : List (Str × List D) := es.map fun p => (p.1, p.2.map natD)
theorem keys_rowL (es : List (Str × List Nat)) : (rowL es).map (·.1) = es.map (·.1) := by unfold rowL; rw [List.map_map]; rfl
theorem getL_last {es : List (Str × List Nat)} {x : Str} {row : List Nat} (h : x ∉ es.map (·.1)) : getL x (rowL (es ++ [(x, row)])) = some (row.map natD) := by
  induction es with
  | nil => show getL x [(x, row.map natD)] = _; rw [getL_cons, if_pos rfl]
  | cons p es ih =>
    show getL x ((p.1, p.2.map natD) :: rowL (es ++ [(x, row)])) = _
    rw [getL_cons, if_neg (fun e => h (by simp [e])), ih (fun z => h (by simp at z ⊢; exact .inr z))]
theorem setL_last {es : List (Str × List Nat)} {x : Str} {row row' : List Nat} (h : x ∉ es.map (·.1)) : ((rowL (es ++ [(x, row)])).map fun p => if p.1 = x then (x, row'.map natD) else p) = rowL (es ++ [(x, row')]) := by
  unfold rowL
  rw [List.map_append, List.map_append, List.map_append, map_put_no (by have := keys_rowL es; unfold rowL at this; rw [this]; exact h)]
  congr 1
  show [if x = x then (x, row'.map natD) else _] = _
  rw [if_pos rfl]
  rfl
def rwOf (es : List (Str × List Nat)) (x : Str) : List Nat := ((es.find? fun p => decide (p.1 = x)).map (·.2)).getD []
theorem rwOf_mem : ∀ {es : List (Str × List Nat)}, (es.map (·.1)).Nodup → ∀ {p : Str × List Nat}, p ∈ es → rwOf es p.1 = p.2
  | [], _, _, h => nomatch h
  | q :: es, hn, p, h => by
    rw [List.map_cons, List.nodup_cons] at hn
    unfold rwOf
    rw [List.find?_cons]
    rcases List.mem_cons.mp h with rfl | h
    · simp
    · have : ¬ q.1 = p.1 := fun e => hn.1 (by rw [e]; exact List.mem_map.mpr ⟨p, h, rfl⟩)
      rw [decide_eq_false this]
      exact rwOf_mem hn.2 h
theorem rowL_cm {es : List (Str × List Nat)} (h : (es.map (·.1)).Nodup) : D.dct ((rowL es).map fun p => (p.1, .lst p.2)) = cmD (es.map (·.1)) (rwOf es) := by
  unfold rowL cmD
  congr 1
  rw [List.map_map, List.map_map]
  apply List.map_congr_left
  intro p hp
  show (p.1, D.lst (p.2.map natD)) = (p.1, D.lst ((rwOf es p.1).map natD))
  rw [rwOf_mem h hp]
/-! ## F13 -/
section
variable {P : Program} {w : World} {K : PySem.W.Frag} {mg : Str → Option Value} {base : Heap} {C : Addr}
/-! ### _law_comings -/
abbrev sComs : Stmt := topS 40
theorem scComs : FnScope ["_law_pool_here", "_law_jobs_here", "_law_most", "_law_found", "_law_job", "_law_moment", "_law_k"] ["_law_pool_here", "_law_jobs_here", "_law_most"] (defScope sComs) := ⟨rfl, rfl, rfl, by decide +kernel, rfl, by decide +kernel, by decide +kernel⟩
def RComs : List D → Nat → (D → Nat → Prop) → Prop := fun ds n p => ∃ (js : List Jb), ds = [jobsD js, .int 3] ∧ OkJs js ∧ 30 ≤ n ∧ ∀ (ns : List Str) (rw : Str → List Nat) n', ns.Nodup → (∀ x ∈ ns, x ∈ js.map (·.nm)) → (∀ x ∈ ns, (rw x).length ≤ 4 ∧ ∀ m ∈ rw x, m ≤ 5000) → n ≤ n' + 30 → p (cmD ns rw) n'
theorem ok_coms {f : Addr} {fd : FuncData} (F : Fun K "_law_comings" "_law_comings" sComs f fd) (hm : mg "_law_comings" = some (.ref f)) (hb : Binds K fd ["_law_pool_here", "_law_jobs_here", "_law_most"] []) (m1 : mg "sorted" = none) (m2 : mg "len" = none) (m3 : mg "range" = none) (f1 : FnD P w K mg base C "_law_take" 1 true RTake) (f2 : FnD P w K mg base C "_law_one" 2 true ROne) (f3 : FnD P w K mg base C "_law_mixed" 2 true RMixed) : FnD P w K mg base C "_law_comings" 3 true RComs := by
  refine fnD_of2 (k := 2) [.no, .no, .no, .no] ["_law_pool_here", "_law_jobs_here", "_law_most", "_law_found", "_law_job", "_law_moment", "_law_k"] ["_law_take", "_law_one", "_law_mixed", "sorted", "len", "range"] [] F hm scComs hb (by decide +kernel) (fun ds n p q h ⟨js, e, z1, z2, z⟩ => ⟨js, e, z1, z2, fun ns rw n' a b c d => h _ _ (z ns rw n' a b c d)⟩) (fun ds n p ⟨js, e, _⟩ => by subst e; rfl) ?_
  intro X e1 e2 e3 e4 e5 e6 hX hC ds n p ⟨js, e, hjs, hn, hp⟩
  subst e e1 e2 e3 e4 e5
  have hj4 := hjs.l2
  have hj2 := hjs.l1
  have hgj : ∀ x ∈ js.map (·.nm), getK x (js.map jkv) = some (jobD (jF js x)) := fun x hx => by
    obtain ⟨hj, hjx⟩ := jF_mem hjs.nn hx
    have := getK_jobs hjs.nn hj; rw [hjx] at this; exact this
  walk_at "up"
  refine stb_cons ?_
  walk_at "go"
  walk_at "up"
  refine sts_dcl0X "_law_found" 3 hX (by walk_at "lk") ?_
  walk_at "up"
  refine st_for hX ?_
  refine ei_list ?_
  refine Ev.imp (Q' := fun d n1 env1 => ∃ ws : List Str, ws.Nodup ∧ (∀ x ∈ ws, x ∈ js.map (·.nm)) ∧ d = .lst (ws.map .str) ∧ n ≤ n1 + 5 ∧ env1 = [.pool, .dat (jobsD js), .dat (.int 3), .dcl [], .no, .no, .no]) ?_ ?_
  · refine ev_sliceTo ?_
    refine ev_callP f3 hX (by omega) (by walk_at "mem") ?_
    walk_at "go"
    refine ev_frz (evr_sorted hX m1 (by walk_at "mem") ?_)
    walk_at "go"
    refine f_sortK (by rw [List.length_map]; omega) fun ord ho1 ho2 => ?_
    rw [keys_jobs] at ho1
    have hol : ord.length = js.length := by rw [ho1.length_eq, List.length_map]
    refine ⟨_, rfl, ?_⟩
    walk_at "go"
    refine ⟨ord.map .str, rfl, ?_, by rw [List.length_map]; omega, by rw [List.length_map]; omega, fun ys hys => ?_⟩
    · rw [List.all_eq_true]
      intro d hd
      obtain ⟨y, hy, rfl⟩ := List.mem_map.mp hd
      exact nm_okT hjs (ho1.mem_iff.mp hy)
    · obtain ⟨ws, hws, hpm⟩ := perm_map_inv hys ord rfl
      subst hws
      refine ⟨_, rfl, ?_⟩
      walk_at "go"
      rw [List.length_map, List.length_map]
      refine ⟨js.length, rfl, by omega, by omega, by omega, fun j hj => ?_⟩
      refine o_addI ?_
      refine ⟨j + 1, by congr 1; omega, ws.take (j + 1), ?_, ?_, ?_, by omega, rfl⟩
      · exact (List.take_sublist _ _).nodup (hpm.nodup_iff.mpr (ho1.nodup_iff.mpr hjs.nn))
      · exact fun x hx => ho1.mem_iff.mp (hpm.mem_iff.mp (List.mem_of_mem_take hx))
      · rw [List.map_take]
  · rintro d n1 env1 ⟨ws, w1, w2, rfl, hn1, rfl⟩
    have hwl : ws.length ≤ 4 := by
      have := nodup_len w1 w2
      rw [List.length_map] at this
      omega
    refine ⟨_, rfl, ?_⟩
    refine ⟨fun i n' env' => ∃ (es : List (Str × List Nat)) (s4 s5 s6 : Sl), env' = [.pool, .dat (jobsD js), .dat (.int 3), .dcl (rowL es), s4, s5, s6] ∧ es.map (·.1) = ws.take i ∧ (∀ p ∈ es, p.2.length ≤ 3 ∧ ∀ m ∈ p.2, m ≤ 1000) ∧ n ≤ n' + 5 + 5 * i, ⟨[], .no, .no, .no, rfl, rfl, (fun p hp => nomatch hp), by omega⟩, ?_, ?_⟩
    · rintro i d n' env' hd ⟨es, s4, s5, s6, rfl, hes, hrw, hn'⟩
      rw [List.getElem?_map] at hd
      cases hx : ws[i]? with
      | none => rw [hx] at hd; cases hd
      | some x =>
        rw [hx] at hd
        cases hd
        have tk : ws.take (i + 1) = ws.take i ++ [x] := take_snoc hx
        have hxw := List.mem_of_getElem? hx
        have hxj := w2 x hxw
        have hi := (List.getElem?_eq_some_iff.mp hx).1
        have okj := hjs.ok _ (jF_mem hjs.nn hxj).1
        have hds := okj.d2
        have hxi : x ∉ es.map (·.1) := fun z => by
          rw [hes] at z
          have hn2 := w1
          rw [← List.take_append_drop (i + 1) ws, tk, List.append_assoc] at hn2
          exact (List.nodup_append.mp hn2).2.2 x z x (List.mem_append_left _ (List.mem_singleton.mpr rfl)) rfl
        have hel : es.length ≤ 4 := by
          have := congrArg List.length hes
          rw [List.length_map, List.length_take] at this
          omega
        have hnd : ((rowL es).map (·.1)).Nodup := by rw [keys_rowL, hes]; exact w1.sublist (List.take_sublist _ _)
        refine eg_name (i := 4) hX (by walk_at "lk") (by walk_at "mem") ?_
        walk_at "up"
        refine stb_cons ?_
        refine st_par2X hX ?_ (by generalize X.env = v at e6 ⊢; cases v; cases e6; rfl) (by generalize X.env = v at e6 ⊢; cases v; cases e6; rfl)
        refine evr_of ?_
        walk_at "go"
        refine ⟨9, rfl, by decide, by decide, by omega, fun j0 hj0 => ?_⟩
        refine ⟨_, rfl, ?_⟩
        walk_at "go"
        refine eg_name (i := 5) hX (by walk_at "lk") (by walk_at "mem") ?_
        walk_at "up"
        refine eg_putL (i := 3) hX (by walk_at "lk") (by walk_at "mem") ?_
        walk_at "go"
        refine ⟨x, _, rfl, rfl, hnd, by unfold rowL; rw [List.length_map]; omega, ?_⟩
        have ep : putL (rowL es) x [] = rowL (es ++ [(x, [])]) := by
          rw [putL_new (by rw [keys_rowL]; exact hxi)]
          unfold rowL
          rw [List.map_append]; rfl
        rw [ep]
        walk_at "up"
        refine stb_one ?_
        refine st_for hX ?_
        refine ei_range1 hX (by walk_at "mem") m3 ?_
        walk_at "go"
        refine ⟨4, rfl, by decide, by decide, by omega, fun j hj => ?_⟩
        walk_at "go"
        refine ⟨by omega, by omega, ?_⟩
        refine ⟨fun q n2 env2 => ∃ (row : List Nat) (m : Nat) (s6 : Sl), env2 = [.pool, .dat (jobsD js), .dat (.int 3), .dcl (rowL (es ++ [(x, row)])), .dat (.str x), .dat (natD m), s6] ∧ row.length = q ∧ (∀ r ∈ row, r ≤ 1000) ∧ m ≤ 9 + 210 * q ∧ n' ≤ n2 + 2 + q, ⟨[], j0, s6, rfl, rfl, (fun r hr => nomatch hr), by omega, by omega⟩, ?_, ?_⟩
        · rintro q dq n2 env2 hdq ⟨row, m, s6, rfl, hrl, hr, hm, hn2⟩
          have hq : q < j := by
            have := (List.getElem?_eq_some_iff.mp hdq).1
            unfold rangeD at this
            rw [List.length_map, List.length_range] at this
            omega
          have hj : j < 4 := hj
          refine eg_name (i := 6) hX (by walk_at "lk") (by walk_at "mem") ?_
          walk_at "up"
          refine stb_cons ?_
          refine st_expr ?_
          refine ev_appL (i := 3) (iz := 5) hX (by walk_at "lk") (by walk_at "mem") (by intro _ _; rfl) (by walk_at "lk") (by walk_at "mem") ?_
          walk_at "go"
          refine ⟨x, row.map natD, rfl, rfl, ?_, getL_last hxi, by rw [List.length_map]; omega, ?_⟩
          · rw [keys_rowL, List.map_append, hes]
            have hn2 := w1
            rw [← List.take_append_drop (i + 1) ws, tk] at hn2
            exact (List.nodup_append.mp hn2).1
          have em : row.map natD ++ [natD m] = (row ++ [m]).map natD := by rw [List.map_append]; rfl
          rw [em, setL_last hxi]
          walk_at "up"
          refine stb_one ?_
          walk_at "go"
          refine o_ixK (hgj x hxj) ?_
          walk_at "go"
          refine ⟨[.int 0, .int 0, .int 1, .int 5], rfl, by decide, by decide, by omega, fun q' dq' hq' => ?_⟩
          obtain ⟨o, ho, rfl⟩ : ∃ o : Nat, o ≤ 5 ∧ dq' = .int (o : Nat) := by
            match q', hq' with
            | 0, h => cases h; exact ⟨0, by omega, rfl⟩
            | 1, h => cases h; exact ⟨0, by omega, rfl⟩
            | 2, h => cases h; exact ⟨1, by omega, rfl⟩
            | 3, h => cases h; exact ⟨5, by omega, rfl⟩
            | _ + 4, h => cases h
          refine o_addI ?_
          walk_at "up"
          refine ⟨row ++ [m], m + (jF js x).ds + o, _, rfl, by rw [List.length_append]; show row.length + 1 = q + 1; omega, fun r hr' => ?_, by omega, by omega⟩
          rcases List.mem_append.mp hr' with h | h
          · exact hr r h
          · rw [List.mem_singleton.mp h]; omega
        · rintro n2 env2 ⟨row, m, s6, rfl, hrl, hr, hm, hn2⟩
          have hlj : (rangeD 0 ((j : Int)).toNat).length = j := by unfold rangeD; rw [List.length_map, List.length_range]; omega
          rw [hlj] at hrl hn2
          have hj : j < 4 := hj
          refine ⟨es ++ [(x, row)], _, _, _, rfl, by rw [List.map_append, hes, tk]; rfl, fun p hp' => ?_, by omega⟩
          rcases List.mem_append.mp hp' with h | h
          · exact hrw p h
          · rw [List.mem_singleton.mp h]
            exact ⟨by show row.length ≤ 3; omega, hr⟩
    · rintro n' env' ⟨es, s4, s5, s6, rfl, hes, hrw, hn'⟩
      rw [List.length_map] at hes hn'
      rw [List.take_length] at hes
      refine stb_frzDLX "_law_found" 3 hX (by walk_at "lk") ?_
      walk_at "up"
      have hnd : (es.map (·.1)).Nodup := by rw [hes]; exact w1
      rw [rowL_cm hnd]
      walk_at "go"
      refine hp (es.map (·.1)) (rwOf es) n' hnd (by rw [hes]; exact w2) (fun x hx => ?_) (by omega)
      obtain ⟨q, hq, rfl⟩ := List.mem_map.mp hx
      rw [rwOf_mem hnd hq]
      obtain ⟨h1, h2⟩ := hrw q hq
      exact ⟨by omega, fun m hm => by have := h2 m hm; omega⟩
end
/-! ## F14 -/
section
variable {P : Program} {w : World} {K : PySem.W.Frag} {mg : Str → Option Value} {base : Heap} {C : Addr}
/-! ### _law_are_comings -/
abbrev sAre : Stmt := topS 46
theorem scAre : FnScope ["_law_jobs_here", "_law_told", "_law_one_here", "_law_row", "_law_moment", "_law_later"] ["_law_jobs_here", "_law_told"] (defScope sAre) := ⟨rfl, rfl, rfl, by decide +kernel, rfl, by decide +kernel, by decide +kernel⟩
def RAre : List D → Nat → (D → Nat → Prop) → Prop := fun ds n p => ∃ (js : List Jb) (ns : List Str) (rw : Str → List Nat), ds = [jobsD js, cmD ns rw] ∧ OkJs js ∧ (∀ x ∈ ns, x ∈ js.map (·.nm)) ∧ (∀ x ∈ ns, (rw x).length = 1) ∧ p (.bl true) n
theorem ok_are {f : Addr} {fd : FuncData} (F : Fun K "_law_are_comings" "_law_are_comings" sAre f fd) (hm : mg "_law_are_comings" = some (.ref f)) (hb : Binds K fd ["_law_jobs_here", "_law_told"] []) (m1 : mg "isinstance" = none) (m2 : mg "list" = none) (m3 : mg "all" = none) (m4 : mg "any" = none) (m5 : mg "zip" = none) (m6 : mg "int" = none) (m7 : mg "bool" = none) : FnD P w K mg base C "_law_are_comings" 1 false RAre := by
  refine fnD_of2 (k := 0) [.no, .no, .no, .no] ["_law_jobs_here", "_law_told", "_law_one_here", "_law_row"] ["isinstance", "list", "all", "any", "zip"] ["_law_jobs_here", "_law_one_here"] F hm scAre hb (by decide +kernel) (fun ds n p q h ⟨js, ns, rw, e, z1, z2, z3, z⟩ => ⟨js, ns, rw, e, z1, z2, z3, h _ _ z⟩) (fun ds n p ⟨js, ns, rw, e, _⟩ => by subst e; rfl) ?_
  intro X e1 e2 e3 e4 e5 e6 hX hC ds n p ⟨js, ns, rw, e, hjs, hns, hrw, hp⟩
  subst e e1 e2 e3 e4 e5
  have hgj : ∀ x ∈ js.map (·.nm), getK x (js.map jkv) = some (jobD (jF js x)) := fun x hx => by
    obtain ⟨hj, hjx⟩ := jF_mem hjs.nn hx
    have := getK_jobs hjs.nn hj; rw [hjx] at this; exact this
  have hgc : ∀ x ∈ ns, getK x (ns.map fun x => (x, D.lst ((rw x).map natD))) = some (.lst ((rw x).map natD)) := fun x hx => getK_map1 (f := fun x => D.lst ((rw x).map natD)) hx
  walk_at "up"
  refine stb_cons ?_
  refine st_forK .keys (ks := ns.map fun x => (x, .lst ((rw x).map natD))) hX (da_name (i := 1) hX (by walk_at "lk") (by walk_at "mem")) pk_keys ?_
  refine ⟨fun i n' env' => ∃ (s2 s3 : Sl), env' = [.dat (jobsD js), .dat (cmD ns rw), s2, s3, .no, .no] ∧ n' = n, ⟨.no, .no, rfl, rfl⟩, ?_, ?_⟩
  · rintro i d n' env' hd ⟨s2, s3, rfl, rfl⟩
    have hd : ((ns.map fun x => (x, D.lst ((rw x).map natD))).map fun p => D.str p.1)[i]? = some d := hd
    rw [List.map_map, List.getElem?_map] at hd
    cases hx : ns[i]? with
    | none => rw [hx] at hd; cases hd
    | some x =>
      rw [hx] at hd
      obtain rfl : D.str x = d := Option.some.inj hd
      have hxn := List.mem_of_getElem? hx
      have hxj := hns x hxn
      obtain ⟨m, hr⟩ : ∃ m, rw x = [m] := by
        have := hrw x hxn
        match h : rw x, this with
        | [m], _ => exact ⟨m, rfl⟩
      refine eg_name (i := 2) hX (by walk_at "lk") (by walk_at "mem") ?_
      walk_at "up"
      refine stb_cons ?_
      walk_at "go"
      refine o_ixK (hgc x hxn) ?_
      rw [hr]
      walk_at "up"
      refine stb_cons ?_
      refine st_if ?_
      refine EvT.imp (Q' := fun kk n1 env1 => kk = false ∧ n1 = n' ∧ env1 = [.dat (jobsD js), .dat (cmD ns rw), .dat (.str x), .dat (.lst [natD m]), .no, .no]) ?_ ?_
      · walk_at "go"
        rw [hgj x hxj]
        refine iteF ?_
        walk_at "go"
        refine n_isi (T := "list") (b := true) rfl (by decide +kernel) ?_
        exact ⟨_, rfl, rfl, rfl, rfl⟩
      · rintro kk n2 env1 ⟨rfl, rfl, rfl⟩
        refine iteF ?_
        refine stb_nil ?_
        refine stb_cons ?_
        refine st_if ?_
        refine EvT.imp (Q' := fun kk n1 env1 => kk = false ∧ n1 = n2 ∧ env1 = [.dat (jobsD js), .dat (cmD ns rw), .dat (.str x), .dat (.lst [natD m]), .no, .no]) ?_ ?_
        · walk_at "go"
          refine ev_frz ?_
          refine evr_lcF ["_law_moment"] ["_law_moment"] ["isinstance", "int", "bool"] [] [("_law_moment", 4)] hX hC (by decide +kernel) (by decide +kernel) (fun _ => true) (fun _ => .bl true) ?_
          refine ei_list ?_
          walk_at "go"
          refine ⟨rfl, fun d hd => ?_, ?_⟩
          · rw [List.mem_singleton.mp hd]
            intro s H0 Cc cl fp hX' hC'
            refine egv_name (i := 4) hX' (by walk_at "lk") (by walk_at "mem") (by decide) ?_
            refine ⟨rfl, ?_⟩
            intro s H0 Cc cl fp hX' hC'
            refine ept_nil ⟨rfl, rfl, rfl, fun _ => ?_⟩
            intro s H0 Cc cl fp hX' hC'
            walk_at "up"
            walk_at "go"
            refine n_isi (T := "int") (b := true) rfl (by decide +kernel) ?_
            walk_at "go"
            refine n_isi (T := "int") (b := false) rfl (by decide +kernel) ?_
            walk_at "go"
            refine iteT ?_
            walk_at "go"
            refine ⟨?_, rfl, rfl⟩
            rw [decide_eq_true (by omega)]
          · refine ⟨_, rfl, ?_⟩
            walk_at "go"
            refine n_all (bs := [true]) ?_
            exact ⟨_, rfl, rfl, rfl, rfl⟩
        · rintro kk n1 env1 ⟨rfl, rfl, rfl⟩
          refine iteF ?_
          refine stb_nil ?_
          refine stb_one ?_
          refine st_if ?_
          walk_at "go"
          refine ev_frz ?_
          refine evr_lcF ["_law_moment", "_law_later", "_law_jobs_here", "_law_one_here"] ["_law_moment", "_law_later"] [] ["_law_jobs_here", "_law_one_here"] [("_law_moment", 4), ("_law_later", 5)] hX hC (by decide +kernel) (by decide +kernel) (fun _ => true) (fun _ => .bl false) ?_
          refine ei_zip hX (by walk_at "mem") m5 ?_
          walk_at "go"
          refine ev_sliceFrom ?_
          walk_at "go"
          refine ⟨1, rfl, ?_⟩
          walk_at "go"
          refine ⟨_, _, .inr rfl, ?_⟩
          refine ⟨by show 0 ≤ _; decide, rfl, (fun d hd => absurd (show d ∈ ([] : List D) from hd) List.not_mem_nil), ?_⟩
          refine ⟨_, rfl, ?_⟩
          walk_at "go"
          refine n_any (bs := []) ?_
          refine ⟨_, rfl, ?_⟩
          refine iteF ?_
          refine stb_nil ?_
          exact ⟨_, _, rfl, rfl⟩
  · rintro n' env' ⟨s2, s3, rfl, rfl⟩
    walk_at "go"
    exact hp
end
/-! ## M14 -/
mutual
/-- the same with lists for tuples, or not -/
inductive Hn : D → D → Prop
  | int (i : Int) : Hn (.int i) (.int i)
  | str (s : Str) : Hn (.str s) (.str s)
  | lst {l l' : List D} : Hns l l' → Hn (.tup l) (.lst l')
  | tup {l l' : List D} : Hns l l' → Hn (.tup l) (.tup l')
inductive Hns : List D → List D → Prop
  | nil : Hns [] []
  | cons {d e : D} {l l' : List D} : Hn d e → Hns l l' → Hns (d :: l) (e :: l')
end
theorem Hns.snoc : ∀ {l l' : List D} {d e : D}, Hns l l' → Hn d e → Hns (l ++ [d]) (l' ++ [e])
  | _, _, _, _, .nil, h => .cons h .nil
  | _, _, _, _, .cons a r, h => .cons a (Hns.snoc r h)
theorem Hns.len : ∀ {l l' : List D}, Hns l l' → l'.length = l.length
  | _, _, .nil => rfl
  | _, _, .cons _ r => congrArg (· + 1) (Hns.len r)
def okH : Nat → D → Bool
  | _, .int _ => true
  | _, .str _ => true
  | m + 1, .tup l => l.all (okH m) && decide (l.length ≤ 1000)
  | _, _ => false
def cstH : Nat → D → Nat
  | m + 1, .tup l => 1 + (l.map (cstH m)).sum
  | _, _ => 0
theorem okH_cases {m : Nat} {d : D} (h : okH m d = true) : (∃ i, d = .int i) ∨ (∃ s, d = .str s) ∨ ∃ m' l, m = m' + 1 ∧ d = .tup l ∧ (∀ e ∈ l, okH m' e = true) ∧ l.length ≤ 1000 := by
  cases d with
  | int i => exact .inl ⟨i, rfl⟩
  | str s => exact .inr (.inl ⟨s, rfl⟩)
  | tup l =>
    cases m with
    | zero => cases h
    | succ m =>
      have h : (l.all (okH m) && decide (l.length ≤ 1000)) = true := h
      rw [Bool.and_eq_true, List.all_eq_true, decide_eq_true_eq] at h
      exact .inr (.inr ⟨m, l, rfl, rfl, h.1, h.2⟩)
  | _ => cases m <;> cases h
theorem cstH_int {m : Nat} {i : Int} : cstH m (.int i) = 0 := by cases m <;> rfl
theorem cstH_str {m : Nat} {i : Str} : cstH m (.str i) = 0 := by cases m <;> rfl
theorem sum_take {l : List D} {c : D → Nat} {i : Nat} {d : D} (h : l[i]? = some d) : ((l.take (i + 1)).map c).sum = ((l.take i).map c).sum + c d := by
  rw [take_snoc h, List.map_append, List.sum_append]; simp
theorem sum_take_le {l : List D} {c : D → Nat} (i : Nat) : ((l.take i).map c).sum ≤ (l.map c).sum := by
  conv => rhs; rw [← List.take_append_drop i l, List.map_append, List.sum_append]
  exact Nat.le_add_right _ _
/-- a body, handed -/
theorem Hns_body : ∀ (b : Bd) {l : List D}, Hns (bdD b) l → HP b l
  | .nil, l, h => by cases h; rfl
  | .u n r, l, h => by
    have h : Hns (D.int (n : Nat) :: bdD r) l := h
    cases h with
    | cons a q => cases a; exact ⟨_, rfl, Hns_body r q⟩
  | .g t b r, l, h => by
    have h : Hns (D.tup [.str t, .tup (bdD b)] :: bdD r) l := h
    cases h with
    | @cons _ e _ l' a q =>
      refine ⟨e, l', rfl, ?_, Hns_body r q⟩
      have two : ∀ {l2 : List D}, Hns [.str t, .tup (bdD b)] l2 → ∃ e2, l2 = [.str t, e2] ∧ HB (HP b) e2 := by
        intro l2 h2
        cases h2 with
        | cons a1 q1 =>
          cases a1
          cases q1 with
          | @cons _ e2 _ _ a2 q2 =>
            cases q2
            refine ⟨e2, rfl, ?_⟩
            cases a2 with
            | lst z => exact ⟨_, .inl rfl, Hns_body b z⟩
            | tup z => exact ⟨_, .inr rfl, Hns_body b z⟩
      cases a with
      | lst z => obtain ⟨e2, rfl, h2⟩ := two z; exact ⟨e2, .inl rfl, h2⟩
      | tup z => obtain ⟨e2, rfl, h2⟩ := two z; exact ⟨e2, .inr rfl, h2⟩
theorem okH_body : ∀ (b : Bd) {m : Nat}, (bdD b).length ≤ 1000 → szB b ≤ 1000 → 2 * dpB b ≤ m → (bdD b).all (okH m) = true
  | .nil, _, _, _, _ => rfl
  | .u n r, m, h, hs, hd => by
    show (okH m (.int (n : Nat)) && (bdD r).all (okH m)) = true
    have hs' : n + 1 + szB r ≤ 1000 := hs
    have h' : (bdD r).length + 1 ≤ 1000 := h
    rw [okH_body r (by omega) (by omega) hd]
    cases m <;> rfl
  | .g t b r, m, h, hs, hd => by
    have hd : 2 * max (dpB b + 1) (dpB r) ≤ m := hd
    have hs' : szB b + 1 + szB r ≤ 1000 := hs
    have h' : (bdD r).length + 1 ≤ 1000 := h
    obtain ⟨m', rfl⟩ : ∃ m', m = m' + 2 := ⟨m - 2, by omega⟩
    have hb := bdD_sz b
    show (okH (m' + 2) (.tup [.str t, .tup (bdD b)]) && (bdD r).all (okH (m' + 2))) = true
    rw [okH_body r (by omega) (by omega) (by omega), Bool.and_true]
    show (([D.str t, .tup (bdD b)].all (okH (m' + 1))) && _) = true
    rw [List.all_cons, List.all_cons]
    show ((okH (m' + 1) (.str t) && (((bdD b).all (okH m') && decide ((bdD b).length ≤ 1000)) && true)) && true) = true
    rw [okH_body b (by omega) (by omega) (by omega), decide_eq_true (by omega)]
    rfl
theorem cstH_body : ∀ (b : Bd) {m : Nat}, ((bdD b).map (cstH m)).sum ≤ 2 * szB b
  | .nil, _ => Nat.zero_le _
  | .u n r, m => by
    have ih := cstH_body r (m := m)
    show cstH m (.int (n : Nat)) + ((bdD r).map (cstH m)).sum ≤ 2 * (n + 1 + szB r)
    have : cstH m (.int (n : Nat)) = 0 := by cases m <;> rfl
    omega
  | .g t b r, m => by
    have ih := cstH_body r (m := m)
    show cstH m (.tup [.str t, .tup (bdD b)]) + ((bdD r).map (cstH m)).sum ≤ 2 * (szB b + 1 + szB r)
    have : cstH m (.tup [.str t, .tup (bdD b)]) ≤ 2 * (szB b + 1) := by
      match m with
      | 0 => exact Nat.zero_le _
      | 1 => show 1 + _ ≤ _; simp [cstH]; omega
      | m + 2 =>
        have ihb := cstH_body b (m := m)
        show 1 + (cstH (m + 1) (.str t) + (1 + ((bdD b).map (cstH m)).sum + 0)) ≤ _
        have : cstH (m + 1) (.str t) = 0 := rfl
        omega
    omega
/-! ## F15 -/
section
variable {P : Program} {w : World} {K : PySem.W.Frag} {mg : Str → Option Value} {base : Heap} {C : Addr}
/-! ### _law_handed -/
abbrev sHanded : Stmt := topS 35
theorem scHanded : FnScope ["_law_pool_here", "_law_thing", "_law_some", "_law_one_here"] ["_law_pool_here", "_law_thing"] (defScope sHanded) := ⟨rfl, rfl, rfl, by decide +kernel, rfl, by decide +kernel, by decide +kernel⟩
def RHd (m : Nat) : List D → Nat → (D → Nat → Prop) → Prop := fun ds n p => ∃ (d : D), ds = [d] ∧ okH m d = true ∧ cstH m d ≤ n ∧ ∀ e, Hn d e → p e (n - cstH m d)
theorem ok_handed {f : Addr} {fd : FuncData} (F : Fun K "_law_handed" "_law_handed" sHanded f fd) (hm : mg "_law_handed" = some (.ref f)) (hb : Binds K fd ["_law_pool_here", "_law_thing"] []) (m1 : mg "isinstance" = none) (m2 : mg "list" = none) (m3 : mg "tuple" = none) (f1 : FnD P w K mg base C "_law_take" 1 true RTake) : ∀ m, FnD P w K mg base C "_law_handed" (m + 2) true (RHd m) := by
  intro m
  induction m using Nat.strongRecOn with
  | _ m ih =>
  refine fnD_of2 (k := m + 1) [.no, .no] ["_law_pool_here", "_law_thing", "_law_some"] ["isinstance", "list", "tuple", "_law_take"] ["_law_pool_here"] F hm scHanded hb (by decide +kernel) (fun ds n p q h ⟨d, e, z1, z2, z⟩ => ⟨d, e, z1, z2, fun e he => h _ _ (z e he)⟩) (fun ds n p ⟨d, e, _⟩ => by subst e; rfl) ?_
  intro X e1 e2 e3 e4 e5 e6 hX hC ds n p ⟨d, e, hok, hn, hp⟩
  subst e e1 e2 e3 e4 e5
  walk_at "up"
  refine stb_cons ?_
  refine st_if ?_
  rcases okH_cases hok with ⟨i, rfl⟩ | ⟨i, rfl⟩ | ⟨m, l, rfl, rfl, hall, hll⟩
  · walk_at "go"
    refine n_isiT (cs := ["list", "tuple"]) (b := false) rfl (by decide +kernel) ?_
    walk_at "go"
    have := hp _ (.int i)
    rw [cstH_int] at this
    exact this
  · walk_at "go"
    refine n_isiT (cs := ["list", "tuple"]) (b := false) rfl (by decide +kernel) ?_
    walk_at "go"
    have := hp _ (.str i)
    rw [cstH_str] at this
    exact this
  · have hn : 1 + (l.map (cstH m)).sum ≤ n := hn
    have fm := ih m (by omega)
    walk_at "go"
    refine n_isiT (cs := ["list", "tuple"]) (b := true) rfl (by decide +kernel) ?_
    walk_at "go"
    refine st_setLc (i := 2) ["_law_pool_here", "_law_one_here"] ["_law_one_here"] ["_law_handed"] ["_law_pool_here"] [("_law_one_here", 3)] hX hC (by walk_at "lk") (by rw [e6]; rfl) (by decide +kernel) (by decide +kernel) ?_ (by rw [e6]; rfl)
    refine ei_tup ?_
    walk_at "go"
    refine ⟨fun i acc n' env' => Hns (l.take i) acc ∧ n = n' + ((l.take i).map (cstH m)).sum ∧ env' = [.pool, .dat (.tup l), .no, .no], ⟨.nil, by simp, rfl⟩, ?_, ?_⟩
    · rintro i d acc n' env' hd ⟨hacc, hn', rfl⟩
      have hst := sum_take (c := cstH m) hd
      have hle := sum_take_le (l := l) (c := cstH m) (i + 1)
      have hil := (List.getElem?_eq_some_iff.mp hd).1
      intro s H0 Cc cl fp hX' hC'
      refine egv_name (i := 3) hX' (by walk_at "lk") (by walk_at "mem") (by decide) ?_
      intro s H0 Cc cl fp hX' hC'
      refine ept_nil ?_
      refine iteT ?_
      intro s H0 Cc cl fp hX' hC'
      walk_at "up"
      refine ev_callP fm hX' (by omega) (by walk_at "mem") ?_
      walk_at "go"
      refine ⟨d, rfl, hall d (List.mem_of_getElem? hd), by omega, fun e he => ?_⟩
      refine ⟨?_, ?_, ?_, rfl⟩
      · rw [hacc.len, List.length_take]; omega
      · rw [take_snoc hd]; exact hacc.snoc he
      · omega
    · rintro acc n' env' ⟨hacc, hn', rfl⟩
      rw [List.take_length] at hacc hn'
      have hal := hacc.len
      refine ⟨rfl, ?_⟩
      walk_at "up"
      refine stb_one ?_
      refine st_ret ?_
      refine ev_if ?_
      refine EvT.imp (Q' := fun kk n1 env1 => n1 = n' - 1 ∧ env1 = [.pool, .dat (.tup l), .lst acc, .no]) ?_ ?_
      · walk_at "go"
        refine ⟨2, rfl, by decide, by decide, by omega, fun j hj => ?_⟩
        walk_at "go"
        exact ⟨rfl, rfl⟩
      · rintro kk n1 env1 ⟨rfl, rfl⟩
        have e0 : cstH (m + 1) (.tup l) = 1 + (l.map (cstH m)).sum := rfl
        have en : n - cstH (m + 1) (.tup l) = n' - 1 := by omega
        rw [en] at hp
        cases kk with
        | true =>
          refine iteT ?_
          walk_at "frz"
          exact hp _ (.lst hacc)
        | false =>
          refine iteF ?_
          walk_at "go"
          walk_at "frz"
          refine ea_nil ?_
          walk_at "go"
          exact hp _ (.tup hacc)
end
/-! ## F16 -/
section
variable {P : Program} {w : World} {K : PySem.W.Frag} {mg : Str → Option Value} {base : Heap} {C : Addr}
/-! ### _law_same -/
abbrev sSame : Stmt := topS 31
theorem scSame : FnScope ["_law_found", "_law_due", "_law_one_here", "_law_other"] ["_law_found", "_law_due"] (defScope sSame) := ⟨rfl, rfl, rfl, by decide +kernel, rfl, by decide +kernel, by decide +kernel⟩
def okS : Nat → D → Bool
  | _, .non => true
  | _, .bl _ => true
  | _, .int _ => true
  | _, .str _ => true
  | _, .dct [] => true
  | m + 1, .lst l => l.all (okS m) && decide (l.length ≤ 10)
  | m + 1, .tup l => l.all (okS m) && decide (l.length ≤ 10)
  | _, _ => false
def RSame (m : Nat) : List D → Nat → (D → Nat → Prop) → Prop := fun ds n p => ∃ (d : D), ds = [d, d] ∧ okS m d = true ∧ p (.bl true) n
theorem okS_cases {m : Nat} {d : D} (h : okS m d = true) : d = .non ∨ (∃ b, d = .bl b) ∨ (∃ i, d = .int i) ∨ (∃ s, d = .str s) ∨ d = .dct [] ∨ ∃ m' l, m = m' + 1 ∧ (d = .lst l ∨ d = .tup l) ∧ (∀ e ∈ l, okS m' e = true) ∧ l.length ≤ 10 := by
  cases d with
  | non => exact .inl rfl
  | bl b => exact .inr (.inl ⟨b, rfl⟩)
  | int i => exact .inr (.inr (.inl ⟨i, rfl⟩))
  | str s => exact .inr (.inr (.inr (.inl ⟨s, rfl⟩)))
  | dct ks =>
    cases ks with
    | nil => exact .inr (.inr (.inr (.inr (.inl rfl))))
    | cons => cases m <;> cases h
  | lst l =>
    cases m with
    | zero => cases h
    | succ m =>
      have h : (l.all (okS m) && decide (l.length ≤ 10)) = true := h
      rw [Bool.and_eq_true, List.all_eq_true, decide_eq_true_eq] at h
      exact .inr (.inr (.inr (.inr (.inr ⟨m, l, rfl, .inl rfl, h.1, h.2⟩))))
  | tup l =>
    cases m with
    | zero => cases h
    | succ m =>
      have h : (l.all (okS m) && decide (l.length ≤ 10)) = true := h
      rw [Bool.and_eq_true, List.all_eq_true, decide_eq_true_eq] at h
      exact .inr (.inr (.inr (.inr (.inr ⟨m, l, rfl, .inr rfl, h.1, h.2⟩))))
  | _ => cases m <;> cases h
theorem ok_same {f : Addr} {fd : FuncData} (F : Fun K "_law_same" "_law_same" sSame f fd) (hm : mg "_law_same" = some (.ref f)) (hb : Binds K fd ["_law_found", "_law_due"] []) (m1 : mg "isinstance" = none) (m2 : mg "list" = none) (m3 : mg "tuple" = none) (m4 : mg "len" = none) (m5 : mg "all" = none) (m6 : mg "zip" = none) (m7 : mg "int" = none) (m8 : mg "bool" = none) : ∀ m, FnD P w K mg base C "_law_same" (m + 1) false (RSame m) := by
  intro m
  induction m using Nat.strongRecOn with
  | _ m ih =>
  refine fnD_of2 (k := m) [.no, .no] ["_law_found", "_law_due"] ["isinstance", "list", "tuple", "len", "all", "zip", "int", "bool"] [] F hm scSame hb (by decide +kernel) (fun ds n p q h ⟨d, e, z1, z⟩ => ⟨d, e, z1, h _ _ z⟩) (fun ds n p ⟨d, e, _⟩ => by subst e; rfl) ?_
  intro X e1 e2 e3 e4 e5 e6 hX hC ds n p ⟨d, e, hok, hp⟩
  subst e e1 e2 e3 e4 e5
  walk_at "up"
  rcases okS_cases hok with rfl | ⟨b, rfl⟩ | ⟨i, rfl⟩ | ⟨s, rfl⟩ | rfl | ⟨m, l, rfl, hd, hall, hll⟩
  · refine stb_cons ?_
    refine st_if ?_
    walk_at "go"
    refine n_isiT (cs := ["list", "tuple"]) (b := false) rfl (by decide +kernel) ?_
    walk_at "go"
    refine n_isi (b := false) rfl (by decide +kernel) ?_
    walk_at "go"
    refine n_isiT (cs := ["int", "list", "tuple"]) (b := false) rfl (by decide +kernel) ?_
    walk_at "go"
    refine iteT ?_
    walk_at "go"
    exact hp
  · refine stb_cons ?_
    refine st_if ?_
    walk_at "go"
    refine n_isiT (cs := ["list", "tuple"]) (b := false) rfl (by decide +kernel) ?_
    walk_at "go"
    refine n_isi (b := true) rfl (by decide +kernel) ?_
    walk_at "go"
    refine n_isi (b := true) rfl (by decide +kernel) ?_
    walk_at "go"
    refine n_isi (b := true) rfl (by decide +kernel) ?_
    walk_at "go"
    refine n_isi (b := true) rfl (by decide +kernel) ?_
    walk_at "go"
    refine iteT ?_
    walk_at "go"
    have : decide (b = b) = true := decide_eq_true rfl
    rw [this]
    exact hp
  · refine stb_cons ?_
    refine st_if ?_
    walk_at "go"
    refine n_isiT (cs := ["list", "tuple"]) (b := false) rfl (by decide +kernel) ?_
    walk_at "go"
    refine n_isi (b := true) rfl (by decide +kernel) ?_
    walk_at "go"
    refine n_isi (b := true) rfl (by decide +kernel) ?_
    walk_at "go"
    refine n_isi (b := false) rfl (by decide +kernel) ?_
    walk_at "go"
    refine n_isi (b := false) rfl (by decide +kernel) ?_
    walk_at "go"
    refine iteT ?_
    walk_at "go"
    have : decide (i = i) = true := decide_eq_true rfl
    rw [this]
    exact hp
  · refine stb_cons ?_
    refine st_if ?_
    walk_at "go"
    refine n_isiT (cs := ["list", "tuple"]) (b := false) rfl (by decide +kernel) ?_
    walk_at "go"
    refine n_isi (b := false) rfl (by decide +kernel) ?_
    walk_at "go"
    refine n_isiT (cs := ["int", "list", "tuple"]) (b := false) rfl (by decide +kernel) ?_
    walk_at "go"
    refine iteT ?_
    walk_at "go"
    have : decide (s = s) = true := decide_eq_true rfl
    rw [this]
    exact hp
  · refine stb_cons ?_
    refine st_if ?_
    walk_at "go"
    refine n_isiT (cs := ["list", "tuple"]) (b := false) rfl (by decide +kernel) ?_
    walk_at "go"
    refine n_isi (b := false) rfl (by decide +kernel) ?_
    walk_at "go"
    refine n_isiT (cs := ["int", "list", "tuple"]) (b := false) rfl (by decide +kernel) ?_
    walk_at "go"
    refine iteT ?_
    walk_at "go"
    refine o_eqE ?_
    exact hp
  · have fm := ih m (by omega)
    rcases hd with rfl | rfl
    · refine stb_cons ?_
      refine st_if ?_
      walk_at "go"
      refine n_isiT (cs := ["list", "tuple"]) (b := true) rfl (by decide +kernel) ?_
      walk_at "go"
      refine n_isi (b := true) rfl (by decide +kernel) ?_
      walk_at "go"
      refine n_isi (b := true) rfl (by decide +kernel) ?_
      walk_at "go"
      refine iteF ?_
      walk_at "go"
      refine n_isi (b := false) rfl (by decide +kernel) ?_
      walk_at "go"
      refine n_isi (b := false) rfl (by decide +kernel) ?_
      walk_at "go"
      refine iteF ?_
      walk_at "go"
      have : decide ((l.length : Int) = l.length) = true := decide_eq_true rfl
      rw [this]
      refine iteF ?_
      walk_at "go"
      refine ev_frz ?_
      refine evr_lcF ["_law_one_here", "_law_other"] ["_law_one_here", "_law_other"] ["_law_same"] [] [("_law_one_here", 2), ("_law_other", 3)] hX hC (by decide +kernel) (by decide +kernel) (fun _ => true) (fun _ => .bl true) ?_
      refine ei_zip hX (by walk_at "mem") m6 ?_
      walk_at "go"
      refine ⟨_, _, .inr rfl, ?_⟩
      refine ⟨by rw [zipD_length]; omega, rfl, fun d hd => ?_, ?_⟩
      · obtain ⟨q, hq⟩ := List.mem_iff_getElem?.mp hd
        obtain ⟨d1, d2, h1, h2, rfl⟩ := zipD_get hq
        have e12 : d1 = d2 := Option.some.inj (h1.symm.trans h2)
        subst e12
        intro s H0 Cc cl fp hX' hC'
        refine egv_tup hX' ?_
        refine egvs_name (i := 2) hX' (by walk_at "lk") (by walk_at "mem") (by decide) ?_
        refine egvs_name (i := 3) hX' (by walk_at "lk") (by walk_at "mem") (by decide) ?_
        refine egvs_nil ?_
        refine ⟨rfl, ?_⟩
        intro s H0 Cc cl fp hX' hC'
        refine ept_nil ⟨rfl, rfl, rfl, fun _ => ?_⟩
        intro s H0 Cc cl fp hX' hC'
        walk_at "up"
        refine ev_callD fm hX' (by omega) (by walk_at "mem") ?_
        walk_at "go"
        refine ⟨d1, rfl, hall d1 (List.mem_of_getElem? h1), ?_⟩
        exact ⟨rfl, rfl, rfl⟩
      · refine ⟨_, rfl, ?_⟩
        have hbl : ((zipD l l).filter fun _ => true).map (fun _ => D.bl true) = (l.map fun _ => true).map .bl := by
          rw [List.filter_eq_self.mpr (fun _ _ => rfl), List.map_map]
          unfold zipD
          rw [List.map_map]
          clear hp hok hall hll fm this
          induction l with
          | nil => rfl
          | cons a r ih => exact congrArg _ ih
        rw [hbl]
        walk_at "go"
        refine n_all ?_
        have hal : (l.map fun _ => true).all id = true := by rw [List.all_map, List.all_eq_true]; intro _ _; rfl
        rw [hal]
        exact hp
    · refine stb_cons ?_
      refine st_if ?_
      walk_at "go"
      refine n_isiT (cs := ["list", "tuple"]) (b := true) rfl (by decide +kernel) ?_
      walk_at "go"
      refine n_isi (b := false) rfl (by decide +kernel) ?_
      walk_at "go"
      refine n_isi (b := false) rfl (by decide +kernel) ?_
      walk_at "go"
      refine iteF ?_
      walk_at "go"
      refine n_isi (b := true) rfl (by decide +kernel) ?_
      walk_at "go"
      refine n_isi (b := true) rfl (by decide +kernel) ?_
      walk_at "go"
      refine iteF ?_
      walk_at "go"
      have : decide ((l.length : Int) = l.length) = true := decide_eq_true rfl
      rw [this]
      refine iteF ?_
      walk_at "go"
      refine ev_frz ?_
      refine evr_lcF ["_law_one_here", "_law_other"] ["_law_one_here", "_law_other"] ["_law_same"] [] [("_law_one_here", 2), ("_law_other", 3)] hX hC (by decide +kernel) (by decide +kernel) (fun _ => true) (fun _ => .bl true) ?_
      refine ei_zip hX (by walk_at "mem") m6 ?_
      walk_at "go"
      refine ⟨_, _, .inl rfl, ?_⟩
      refine ⟨by rw [zipD_length]; omega, rfl, fun d hd => ?_, ?_⟩
      · obtain ⟨q, hq⟩ := List.mem_iff_getElem?.mp hd
        obtain ⟨d1, d2, h1, h2, rfl⟩ := zipD_get hq
        have e12 : d1 = d2 := Option.some.inj (h1.symm.trans h2)
        subst e12
        intro s H0 Cc cl fp hX' hC'
        refine egv_tup hX' ?_
        refine egvs_name (i := 2) hX' (by walk_at "lk") (by walk_at "mem") (by decide) ?_
        refine egvs_name (i := 3) hX' (by walk_at "lk") (by walk_at "mem") (by decide) ?_
        refine egvs_nil ?_
        refine ⟨rfl, ?_⟩
        intro s H0 Cc cl fp hX' hC'
        refine ept_nil ⟨rfl, rfl, rfl, fun _ => ?_⟩
        intro s H0 Cc cl fp hX' hC'
        walk_at "up"
        refine ev_callD fm hX' (by omega) (by walk_at "mem") ?_
        walk_at "go"
        refine ⟨d1, rfl, hall d1 (List.mem_of_getElem? h1), ?_⟩
        exact ⟨rfl, rfl, rfl⟩
      · refine ⟨_, rfl, ?_⟩
        have hbl : ((zipD l l).filter fun _ => true).map (fun _ => D.bl true) = (l.map fun _ => true).map .bl := by
          rw [List.filter_eq_self.mpr (fun _ _ => rfl), List.map_map]
          unfold zipD
          rw [List.map_map]
          clear hp hok hall hll fm this
          induction l with
          | nil => rfl
          | cons a r ih => exact congrArg _ ih
        rw [hbl]
        walk_at "go"
        refine n_all ?_
        have hal : (l.map fun _ => true).all id = true := by rw [List.all_map, List.all_eq_true]; intro _ _; rfl
        rw [hal]
        exact hp
end
/-! ## K15 -/
section
variable {K : PySem.W.Frag} {C : Addr} {F H : Hp} {W : Addr → Option Tg} {B : Bs} {us ts : List (V × TD)} {n : Nat} {env : En} {σ : St}
/-- a new dict, on the pile, is put at -/
theorem Stt.putFd {a : Addr} {kvs : List (Key × V)} {ks : List (Str × D)} {s : Str} {y : V} {d : D} (S : Stt K C B F W ((.ref a, .fd ks) :: ts) n env σ H) (hv : H a = some (.dK kvs)) (r : Rep K C F y d) : Stt K C B F W ((.ref a, .fd (putD ks s d)) :: ts) n env σ (upd H a (.dK (putK kvs (.inr s) y))) := by
  have t := S.temps.1
  cases t with
  | fd hw hh hr =>
    rw [hv] at hh
    cases hh
    obtain ⟨hf, hb, _⟩ := S.own a _ hw
    have ne : ∀ b t, W b = some t → t ≠ .tp ts.length → b ≠ a := fun b t h z e => by subst e; rw [hw] at h; exact z (Option.some.inj h).symm
    refine ⟨S.ex1, fun b u h => ?_, fun b u h z => ?_, S.new, fun b t h => ?_, fun hp => ?_, S.len, fun j s h => ?_, ?_, ?_⟩
    · rw [upd_ne (fun z => by subst z; rw [hf] at h; cases h)]; exact S.ex2 b u h
    · rw [upd_ne (fun z => by subst z; rw [hb] at h; cases h)]; exact S.base b u h z
    · obtain ⟨h1, h2, u, h3⟩ := S.own b t h
      by_cases e : b = a
      · subst e; exact ⟨h1, h2, _, upd_same⟩
      · exact ⟨h1, h2, u, by rw [upd_ne e]; exact h3⟩
    · obtain ⟨h1, h2, h3⟩ := S.pool hp
      refine ⟨h1, h2, h3.mono (upd_ne fun z => ?_) (Nat.le_refl _)⟩
      obtain ⟨u, h2⟩ := h2
      rw [z, hb] at h2; cases h2
    · exact (S.slots j s h).mono LeR.refl (fun b u hb hh => by rw [upd_ne (ne b _ hb fun z => by cases z)]; exact hh) fun _ h => h
    · exact .fd hw upd_same (hr.put r)
    · refine TsOk.mono LeR.refl (fun b u j hj hb hh => by rw [upd_ne (ne b _ hb fun z => by cases z; exact absurd hj (Nat.lt_irrefl _))]; exact hh) (fun _ _ _ h => h) S.temps.2
theorem Stt.dropUnderD {a : Addr} {ks : List (Str × D)} (S : Stt K C B F W ((.ref a, .fd ks) :: (us ++ ts)) n env σ H) : ∃ W', Stt K C B F W' ((.ref a, .fd ks) :: ts) n env σ H := by
  have t := S.temps.1
  have tt := S.temps.2.drop
  generalize ha : (V.ref a, TD.fd ks).1 = aa at t
  cases t with
  | @fd a2 vs2 _ w2 g2 r2 =>
    cases ha
    have hlen : ts.length ≤ (us ++ ts).length := by simp
    have w2 : W a = some (.tp (us ++ ts).length) := w2
    have ne : ∀ b t, W b = some t → t ≠ .tp (us ++ ts).length → b ≠ a := fun b t h z e => by subst e; rw [w2] at h; exact z (Option.some.inj h).symm
    refine ⟨Stt.retag W a (some (.tp ts.length)), S.ex1, S.ex2, S.base, S.new, fun b t h => ?_, S.pool, S.len, fun j s h => ?_, ?_, ?_⟩
    · by_cases e : b = a
      · subst e; exact S.own b _ w2
      · rw [Stt.retag_ne e] at h; exact S.own b t h
    · exact (S.slots j s h).mono LeR.refl (fun _ _ _ h => h) fun b hb => by rw [Stt.retag_ne (ne b _ hb fun z => by cases z)]; exact hb
    · exact .fd Stt.retag_same g2 r2
    · refine TsOk.mono LeR.refl (fun _ _ _ _ _ h => h) (fun b j hj hb => ?_) tt
      rw [Stt.retag_ne (ne b _ hb fun z => by cases z; omega)]
      exact hb
end
section
variable {X : Cx} {C : Addr} {k : Nat} {N Vn Ln Gn Cn : List Str} {n : Nat} {env : En} {Q : QE} {QR' : QR} {x m : Str} {p apos pos : Pos} {e tg iter kx vx : Expr} {es ifs : List Expr} {scope : Scope} {d : D}
theorem mergeD_snoc {l : List (Str × D)} {ks : List (Str × D)} {p : Str × D} : mergeD ks (l ++ [p]) = putD (mergeD ks l) p.1 p.2 := by unfold mergeD; rw [List.foldl_append]; rfl
theorem mergeD_len : ∀ (l ks : List (Str × D)), (mergeD ks l).length ≤ ks.length + l.length
  | [], ks => Nat.le_refl _
  | p :: l, ks => by
    have h1 := mergeD_len l (putD ks p.1 p.2)
    have h2 := length_putD ks p.1 p.2
    show (mergeD (putD ks p.1 p.2) l).length ≤ _
    rw [List.length_cons]; omega
/-- {k: v for ..}, every turn giving a pair that hangs on the item -/
theorem evr_dcF (V' L' G' C' : List Str) (own : List (Str × Nat)) (hX : XOk X k N Vn Ln Gn) (hC : XCap X Cn) (hb1 : blkN N Cn scope own = true) (hb2 : blkV scope V' L' G' C' = true) (fk : D → Str) (fv : D → D)
    (h : EvI X C tg iter n env fun ds n1 env1 => ds.length ≤ 1000 ∧ wipeE env1 (own.map (·.2)) = env1 ∧
      (∀ d, d ∈ ds → AllB X scope k N V' L' G' C' fun X' => EvGv X' C (own.map (·.2)) tg (.dat d) n1 env1 fun n2 env2 => n2 = n1 ∧ wipeE env2 (own.map (·.2)) = env1 ∧ (AllB X scope k N V' L' G' C' fun X' => EvPT X' C ifs n2 env2 fun b n3 env3 => b = true ∧ n3 = n1 ∧ env3 = env2) ∧
        (AllB X scope k N V' L' G' C' fun X' => Ev X' C kx n2 env2 fun y n4 env4 => y = .str (fk d) ∧ n4 = n1 ∧ env4 = env2) ∧ (AllB X scope k N V' L' G' C' fun X' => Ev X' C vx n2 env2 fun y n4 env4 => y = fv d ∧ n4 = n1 ∧ env4 = env2)) ∧
      QR' (.fd (mergeD [] (ds.map fun d => (fk d, fv d)))) n1 env1)
    (hs : ∀ x, foldedSetIterable iter X.env x = pure x := by intro _; rfl) : EvR X C (.DictComp kx vx [⟨tg, iter, ifs, 0⟩] scope pos) n env QR' := fun B ts σ H R S q => by
  have nd : X.N.Nodup := by rw [hX.hN]; exact hX.nd
  refine of_pe (pe_dc (own := own) (g := fun v σ H Q => ∀ s H0 Cc cl fp, tG (X.blk s H0 scope (compEnvC scope cl Cc X.env) fp) tg v σ H Q) (tt := fun σ H Q => ∀ s H0 Cc cl fp, tPT (X.blk s H0 scope (compEnvC scope cl Cc X.env) fp) ifs σ H Q) (tk := fun σ H Q => ∀ s H0 Cc cl fp, tE (X.blk s H0 scope (compEnvC scope cl Cc X.env) fp) kx σ H Q) (tv := fun σ H Q => ∀ s H0 Cc cl fp, tE (X.blk s H0 scope (compEnvC scope cl Cc X.env) fp) vx σ H Q) hX.calm nd pi_t (blk_of hX hC hb1) (fun s H0 Cc cl fp => ⟨fun pins s' σ H v u Q I r h => h s H0 Cc cl fp pins s' u I r⟩) (fun s H0 Cc cl fp => ⟨fun pins s' σ H Q I h => h s H0 Cc cl fp pins s' I⟩) (fun s H0 Cc cl fp => ⟨fun pins s' σ H Q I h => h s H0 Cc cl fp pins s' I⟩) (fun s H0 Cc cl fp => ⟨fun pins s' σ H Q I h => h s H0 Cc cl fp pins s' I⟩) hs) ?_
  generalize hvs : own.map (·.2) = vs at h
  refine h B ts σ H _ S fun J H1 ds us n1 env1 ⟨hl, hw0, turn, fin⟩ S1 ok Dn hD => ?_
  obtain ⟨F1, W1, S1⟩ := S1
  obtain ⟨W2, S2⟩ := S1.newFd hD (.nil : RepK X.K C F1 [] [])
  have S2w := S2.wipe vs
  rw [hw0] at S2w
  refine ⟨fun i m H' => m = ds.length - i ∧ i ≤ ds.length ∧ Sta X.K C B ((.ref Dn, .fd (mergeD [] ((ds.take i).map fun d => (fk d, fv d)))) :: (us ++ ts)) n1 env1 (wipe σ vs) H', ⟨ds.length, by simp, Nat.zero_le _, F1, W2, S2w⟩, ?_⟩
  rintro i m H' ⟨rfl, hi, S'⟩
  by_cases hlt : i < ds.length
  · have hd : ds[i]? = some ds[i] := by simp [hlt]
    obtain ⟨go, yld⟩ := ok.item [(.ref Dn, .fd (mergeD [] ((ds.take i).map fun d => (fk d, fv d))))] i _ n1 env1 _ H' hd S'
    refine .inr ⟨go, fun H2 => Sta X.K C B ((.ref Dn, .fd (mergeD [] ((ds.take (i + 1)).map fun d => (fk d, fv d)))) :: (us ++ ts)) n1 env1 (wipe σ vs) H2, fun H2 S2 => ⟨ds.length - (i + 1), by omega, rfl, hlt, S2⟩, fun v H2 hy => ?_⟩
    intro s H0 Cc cl fp
    obtain ⟨x1, x2⟩ := blk_xok hX hb2 s H0 Cc cl fp
    refine turn _ (List.mem_of_getElem? hd) s H0 Cc cl fp x1 x2 B _ v _ H2 _ (yld v H2 hy) fun n3 env3 σ3 H3 ⟨e3, w3, g1, g2, g3⟩ S3 hw => ?_
    subst e3
    have hw' : wipe σ3 vs = wipe σ vs := hw.trans (wipe_wipe fun _ z => z)
    refine ⟨hw', fun s H0 Cc cl fp => ?_⟩
    obtain ⟨x1, x2⟩ := blk_xok hX hb2 s H0 Cc cl fp
    refine g1 s H0 Cc cl fp x1 x2 B _ σ3 H3 _ S3 fun b H4 n4 env4 ⟨eb, e4, e5⟩ S4 => ?_
    subst eb e4 e5
    simp only [if_true]
    intro s H0 Cc cl fp
    obtain ⟨x1, x2⟩ := blk_xok hX hb2 s H0 Cc cl fp
    refine g2 s H0 Cc cl fp x1 x2 B _ σ3 H4 _ S4 fun y H5 d5 n5 env5 ⟨ey, e6, e7⟩ S5 => ?_
    subst ey e6 e7
    intro s H0 Cc cl fp
    obtain ⟨x1, x2⟩ := blk_xok hX hb2 s H0 Cc cl fp
    refine g3 s H0 Cc cl fp x1 x2 B _ σ3 H5 _ S5 fun z H6 d6 n6 env6 ⟨ez, e8, e9⟩ S6 => ?_
    subst ez e8 e9
    obtain ⟨F6, W6, S6⟩ := S6
    obtain ⟨t1, t2, t3, t4⟩ := S6.temps
    cases t1 with
    | dat rp =>
      generalize hyv : (y, TD.dat (.str (fk ds[i]))).1 = yy at t2
      cases t2 with
      | dat ry =>
        cases ry
        have hyv : y = .str (fk ds[i]) := hyv
        generalize ha : (V.ref Dn, TD.fd (mergeD [] ((ds.take i).map fun d => (fk d, fv d)))).1 = aa at t3
        cases t3 with
        | @fd a2 kvs2 _ w2 q2 r2 =>
          cases ha
          have hlen : (mergeD [] ((ds.take i).map fun d => (fk d, fv d))).length ≤ 1000 := by
            have := mergeD_len ((ds.take i).map fun d => (fk d, fv d)) []
            rw [List.length_map, List.length_take, List.length_nil] at this
            omega
          refine ⟨kvs2, .inr (fk ds[i]), hyv, q2, Nat.lt_of_lt_of_le (by rw [r2.length]; exact Nat.lt_succ_of_le hlen) (by decide), ?_⟩
          have S7 := (S6.pop.pop.putFd (s := fk ds[i]) q2 rp).wipe vs
          rw [hw', w3] at S7
          have ek : mergeD [] ((ds.take (i + 1)).map fun d => (fk d, fv d)) = putD (mergeD [] ((ds.take i).map fun d => (fk d, fv d))) (fk ds[i]) (fv ds[i]) := by
            rw [List.take_succ, hd, List.map_append]
            exact mergeD_snoc
          rw [ek]
          exact ⟨F6, W6, S7⟩
  · have e : i = ds.length := by omega
    subst e
    rw [List.take_length] at S'
    refine .inl ⟨ok.stop [(.ref Dn, .fd (mergeD [] (ds.map fun d => (fk d, fv d))))] n1 env1 _ H' S', ?_⟩
    obtain ⟨F3, W3, S3⟩ := S'
    have S4 := S3.unwipe hw0
    obtain ⟨W5, S5⟩ := (show Stt X.K C B F3 W3 (((.ref Dn, .fd (mergeD [] (ds.map fun d => (fk d, fv d)))) : V × TD) :: (us ++ ts)) n1 env1 σ H' from S4).dropUnderD
    exact q _ H' _ n1 env1 fin ⟨F3, W5, S5⟩
/-- what a method of the class promises, on data -/
structure FnM (P : Program) (w : World) (K : PySem.W.Frag) (mg : Str → Option Value) (base : Heap) (C : Addr) (m : Str) (k : Nat) (R : List D → Nat → (D → Nat → Prop) → Prop) : Prop where
  ex : ∃ (f : Addr) (fd : FuncData) (ps : List Str) (CX : CXT), Meth K C m f ∧ Binds K fd ps [] ∧ FnOk P w K mg base CX k f fd ps (spD K C false R) ∧ ∀ X : Cx, X.prog = P → X.w = w → Passes CX X E0
  mono : ∀ ds n (p q : D → Nat → Prop), (∀ d m, p d m → q d m) → R ds n p → R ds n q
theorem RepF.lookN {K : PySem.W.Frag} {F : Hp} {m : Str} : ∀ {fs : List (Str × V)} {ks : List (Str × D)}, RepF K C F fs ks → ks.lookup m = none → fs.lookup m = none
  | _, _, .nil, _ => rfl
  | _, _, @RepF.cons _ _ _ k v d vs ds h r, z => by
    rw [List.lookup_cons] at z ⊢
    split at z
    · cases z
    · exact RepF.lookN r z
/-- o.m(e, ..) of an object that is data -/
theorem ev_meth {i k0 : Nat} {fs : List (Str × D)} {R : List D → Nat → (D → Nat → Prop) → Prop} {pl : Sem Bool} (hf : FnM X.prog X.w X.K X.mg X.base C m k0 R) (hX : XOk X k N Vn Ln Gn) (hk : k0 ≤ k) (hc : Cls X.K C) (hl : Lk N env x i (.dat (.obj fs))) (hv : x ∈ Vn) (hfs : fs.lookup m = none)
    (ha : EvA X C (e :: es) n env fun tds n' env' => ∃ ds, tds = ds.map .dat ∧ R (.obj fs :: ds) n' fun d _ => Q d n' env')
    (hst : starEach (e :: es) X.env = (false, eval e X.env) :: starEach es X.env := by rfl) (hpl : (backTo pos (starEach es X.env)).any (·.1) = false := by rfl)
    (ht : eval (.Call (.Attribute (.Name x p) m apos) (e :: es) [] pos) X.env = (do
      let ov ← eval (.Name x p) X.env
      standAt apos.atName
      let (f, first) ← holding [ov] (getMethod ov m pl)
      callWith pos f first (backTo pos (starEach (e :: es) X.env)) (backToKw pos (keywordEach [] X.env))) := by rfl) : Ev X C (.Call (.Attribute (.Name x p) m apos) (e :: es) [] pos) n env Q := fun B ts σ H R' S q => by
  obtain ⟨h1, h2⟩ := hl.ix
  obtain ⟨v1, v2, v3⟩ := hX.vis x hv
  obtain ⟨f, fd, ps, CX, hm, hb, F, hx⟩ := hf.ex
  refine of_pe (pe_meth (dvs := []) (pe_var (hX.get h1) v1 v2 v3) hc hm F (hX.room.mono hk) hb .nil (hx X rfl rfl) pa_t hst hpl ht) ?_
  obtain ⟨F0, W0, S0⟩ := id S
  have s := S0.slots i _ h2
  generalize hxo : σ[i]? = o at s
  cases s with
  | @dat v _ rv =>
    cases rv with
    | @obj a dx gs _ g1 g2 =>
      refine ⟨.ref a, hxo, a, dx, gs, rfl, S0.ex2 _ _ g1, g2.lookN hfs, ?_⟩
      have S1 : Stt X.K C B F0 W0 ((.ref a, .dat (.obj fs)) :: ts) n env σ H := S0.push (.obj g1 g2)
      refine ha B _ σ H _ ⟨F0, W0, S1⟩ fun vs H1 tds n1 env1 ⟨ds, hd, hR⟩ hl' S2 => ?_
      subst hd
      obtain ⟨F1, W1, S2⟩ := S2
      obtain ⟨r, S3⟩ := S2.unstk (by simpa using hl')
      have t3 := S3.temps.1
      cases t3 with
      | dat ro =>
        show spD X.K C false R (.ref a :: (vs ++ [])) H1 R' E0
        rw [List.append_nil]
        refine ⟨⟨F1, H1, 0, false⟩, n1, .ref a :: vs, .obj fs :: ds, rfl, rfl, rfl, S3.ex2, .cons ro r, (fun z => nomatch z), hf.mono _ _ _ _ (fun d m hq v H' Z => ?_) hR⟩
        obtain ⟨F2, W2, Z⟩ := Z
        have t := Z.temps.1
        cases t with
        | dat rp => exact q v H' d n1 env1 hq ⟨F2, W1, (S3.pop.grow Z.ex1 Z.ex2 (fun a o h => Z.base a o h fun z => nomatch z) Z.new).push rp⟩
end
section
variable {P : Program} {w : World} {K : PySem.W.Frag} {mg : Str → Option Value} {base : Heap} {C : Addr}
theorem fnM_of2 (no : En) {x qual : Str} {st : Stmt} {f : Addr} {fd : FuncData} {N ps : List Str} {k : Nat} {R : List D → Nat → (D → Nat → Prop) → Prop} (Vn Gn Cn : List Str) (F : Fun K x qual st f fd) (hm : Meth K C x f) (S : FnScope N ps (defScope st)) (hb : Binds K fd ps [])
    (hsc : defB Vn Gn Cn (defScope st) = true) (mono : ∀ ds n (p q : D → Nat → Prop), (∀ d m, p d m → q d m) → R ds n p → R ds n q) (len : ∀ ds n p, R ds n p → (argE false ds).length = ps.length)
    (body : ∀ X : Cx, X.prog = P → X.w = w → X.K = K → X.mg = mg → X.base = base → X.env.scope = defScope st → XOk X k N Vn Vn Gn → XCap X Cn → ∀ ds n (p : D → Nat → Prop), R ds n p →
      StB X C (defBody st) n (argE false ds ++ no) { nx := fun n _ => p .non n, rt := p }) (hno : List.replicate (N.length - ps.length) Sl.no = no := by rfl) : FnM P w K mg base C x (k + 1) R := by
  subst hno
  have lenV : ∀ vs H Q E, spD K C false R vs H Q E → vs.length = ps.length := by
    rintro vs H Q E ⟨B, n, vs', ds, h1, h2, h3, h4, h5, h6, h7⟩
    rw [← len ds n _ h7, h3]
    have := h5.length
    simp [this, argE]
  have hN : ps.length ≤ N.length := by
    have := congrArg List.length S.pre
    rw [List.length_take] at this
    omega
  refine ⟨⟨f, fd, ps, CX0, hm, hb, F.ok S lenV (fun cdv A outer s H vs Q E hr h => ?_), fun X _ _ => pass0⟩, mono⟩
  have lv := lenV _ _ _ _ h
  obtain ⟨B, n, vs', ds, h1, h2, h3, h4, h5, h6, h7⟩ := h
  refine ⟨_, pss_t, ?_⟩
  obtain ⟨x1, x2⟩ := xok_def2 (X := (cxOf CX0 P w K mg base N qual (defScope st) f cdv A outer s H E).nox) (k := k) (N := N) (Vn := Vn) (Gn := Gn) (Cn := Cn) hsc rfl S.nd (fun _ => rfl) rfl hr PassesOwn.never
  refine body _ rfl rfl rfl rfl rfl rfl x1 x2 ds n _ h7 B [] _ H _ (sta_start h1 h2 h3 h4 h5 h6 lv hN) (fun n' env' σ' H' q S' => ?_) (fun d n' v H' q S' => q v H' S') (fun _ _ _ _ q _ => q.elim) (fun _ _ _ _ q _ => q.elim)
  refine q .non H' ?_
  obtain ⟨F', W', S'⟩ := S'
  exact Sta.ret (ts := []) ⟨F', W', S'.push .non⟩
end
/-! ## K16 -/
theorem getK_fn {f : Str → D} {x : Str} : ∀ {ns : List Str}, x ∈ ns → getK x (ns.map fun y => (y, f y)) = some (f x)
  | [], h => nomatch h
  | y :: ns, h => by
    have e0 : getK x ((y :: ns).map fun y => (y, f y)) = if y = x then some (f y) else getK x (ns.map fun y => (y, f y)) := by
      unfold getK
      rw [List.map_cons, List.find?_cons]
      by_cases h : y = x
      · subst h; simp
      · simp [h]
    rw [e0]
    by_cases e : y = x
    · subst e; rw [if_pos rfl]
    · rw [if_neg e]
      exact getK_fn (by rcases List.mem_cons.mp h with h | h; exact absurd h.symm e; exact h)
section
variable {X : Cx} {C : Addr}
theorem hits_ints {A : Around} {pins : List (Addr × Obj)} {σ : St} {H : Hp} {s : Shared} (I : Inv X pins σ H s) (hu : A.in1.units + 64 < cLine) {kvs : List (Key × V)} {vb : List (Key × Value)} (rb : KV kvs vb) {ks : List (Key × V)} {va : List (Key × Value)} (ra : KV ks va) :
    (∀ p ∈ ks, ∃ (c d : Addr) (ns : List Int), p.2 = .ref c ∧ valV kvs p.1 = some (.ref d) ∧ SqL X.K H c (ns.map V.int) ∧ SqL X.K H d (ns.map V.int)) → PySem.W.KeqHits A.in1 s vb va true := by
  unfold KV at ra
  induction ra with
  | nil => intro _; exact .nil
  | @cons p q ps qs h t ih =>
    intro hp
    obtain ⟨h1, h2⟩ := h
    obtain ⟨c, d, ns, e1, e2, s1, s2⟩ := hp p List.mem_cons_self
    have rr : RelO (some (V.ref d)) (valueAt vb p.1) := by rw [← e2]; exact rb.val p.1
    obtain ⟨y, hy, ry⟩ := rr.some_of
    obtain ⟨k, v⟩ := q
    have h1' : p.1 = k := h1
    rw [h1'] at hy
    rw [e1] at h2
    cases (show v = Value.ref c from h2)
    cases (show y = Value.ref d from ry)
    obtain ⟨us, r1, p1, _⟩ := I.list s1
    obtain ⟨ws, r2, p2, _⟩ := I.list s2
    have heq := PySem.W.keq_ints (A := A) p1.isList r1.ints p2.isList r2.ints hu
    rw [decide_eq_true rfl] at heq
    show PySem.W.KeqHits A.in1 s vb ((k, Value.ref c) :: qs) (true && true)
    exact .hit hy heq (ih fun p' hm => hp p' (List.mem_cons_of_mem _ hm))
/-- a != b, two dicts of the same keys, their values equal lists of ints -/
def rNeL (K : PySem.W.Frag) : R2 := fun x y H Q => ∃ a b ks ls, x = .ref a ∧ y = .ref b ∧ Rd H a (.dK ks) ∧ Rd H b (.dK ls) ∧ ks.length = ls.length ∧ (∀ p ∈ ks, ∃ (c d : Addr) (ns : List Int), p.2 = .ref c ∧ valV ls p.1 = some (.ref d) ∧ SqL K H c (ns.map V.int) ∧ SqL K H d (ns.map V.int)) ∧ Q (.bl false) H
theorem op_neL (hu : X.A.in1.units + 64 < cLine) : OpR X (compareOp .NotEq) (rNeL X.K) := by
  intro pins s σ H x y v u Q I rx ry h
  obtain ⟨a, b, ks, ls, rfl, rfl, ea, eb, hlen, hp, q⟩ := h
  obtain rfl : v = Value.ref a := rx
  obtain rfl : u = Value.ref b := ry
  obtain ⟨_, ya, va, ra, da⟩ := dk_rd I.hok ea
  obtain ⟨_, yb, vb, rb, db⟩ := dk_rd I.hok eb
  have hl : va.length = vb.length := by rw [← ra.length, ← rb.length]; exact hlen
  have hu2 : X.A.units < cLine := by have : X.A.in1.units = X.A.units + 1 := rfl; omega
  exact PySem.W.keq_ne (knd := mixKind X.prog X.w) (r := true) ya yb da db hu2 (fun _ => hits_ints I hu rb ra hp) (fin_bl I q (by simp [hl]))
theorem o_neN {Qd : D → Prop} (q : Qd (.bl false)) : Op2 X.K C (rNeA X.K) .non .non Qd := (o2_pure q fun F H v1 v2 R e r1 r2 t => by
  cases r1; cases r2
  exact ⟨rfl, (show (!decide (V.non = V.non)) = false by simp) ▸ t _ (.bl _)⟩).l
theorem repK_ints {F H : Hp} (e : Ex F H) {f : Str → List Int} : ∀ {ns : List Str} {kvs : List (Key × V)}, RepK X.K C F kvs (ns.map fun x => (x, .lst ((f x).map .int))) → ∀ p ∈ kvs, ∃ (x : Str) (c : Addr), x ∈ ns ∧ p.1 = .inr x ∧ p.2 = .ref c ∧ SqL X.K H c ((f x).map V.int)
  | [], _, r, p, hp => by cases r; cases hp
  | x :: ns, _, r, p, hp => by
    rw [List.map_cons] at r
    cases r with
    | @cons _ v _ vs _ h t =>
      rcases List.mem_cons.mp hp with rfl | hp
      · generalize hd : D.lst ((f x).map .int) = dd at h
        cases h with
        | @lst c ws _ g1 g2 =>
          cases hd
          have := reps_ints g2
          subst this
          exact ⟨x, c, List.mem_cons_self, rfl, rfl, SqL.of (e _ _ g1)⟩
        | _ => cases hd
      · obtain ⟨y, c, h1, h2⟩ := repK_ints e t p hp
        exact ⟨y, c, List.mem_cons_of_mem _ h1, h2⟩
theorem o_neDL {Qd : D → Prop} {f : Str → List Int} {ns ms : List Str} (hp : ns.Perm ms) (q : Qd (.bl false)) : Op2 X.K C (rNeL X.K) (.dct (ns.map fun x => (x, .lst ((f x).map .int)))) (.dct (ms.map fun x => (x, .lst ((f x).map .int)))) Qd := o2_pure q fun F H v1 v2 R e r1 r2 t => by
  generalize hd1 : D.dct (ns.map fun x => (x, .lst ((f x).map .int))) = d1 at r1
  generalize hd2 : D.dct (ms.map fun x => (x, .lst ((f x).map .int))) = d2 at r2
  cases r1 with
  | @dct a kvs _ h1 g1 =>
    cases r2 with
    | @dct b lvs _ h2 g2 =>
      cases hd1
      cases hd2
      refine ⟨a, b, kvs, lvs, rfl, rfl, Evl.ex_rd e h1, Evl.ex_rd e h2, ?_, fun p hp' => ?_, t _ (.bl _)⟩
      · rw [g1.length, g2.length, List.length_map, List.length_map, hp.length_eq]
      · obtain ⟨x, c, hx, e1, e2, s1⟩ := repK_ints e g1 p hp'
        have hxm : x ∈ ms := hp.mem_iff.mp hx
        have hg : getK x (ms.map fun x => (x, D.lst ((f x).map .int))) = some (.lst ((f x).map .int)) := getK_fn (f := fun x => .lst ((f x).map .int)) hxm
        rcases g2.get x with ⟨z1, _⟩ | ⟨d', v, z1, z2, z3⟩
        · rw [hg] at z1; cases z1
        · rw [hg] at z1
          cases z1
          generalize hdd : D.lst ((f x).map .int) = dd at z3
          cases z3 with
          | @lst c2 ws _ k1 k2 =>
            cases hdd
            have := reps_ints k2
            subst this
            exact ⟨c, c2, f x, e2, by rw [e1]; exact z2, s1, SqL.of (e _ _ k1)⟩
          | _ => cases hdd
    | _ => cases hd2
  | _ => cases hd1
end
/-! ## K17 -/
section
variable {K : PySem.W.Frag} {C : Addr} {F H : Hp} {W : Addr → Option Tg} {B : Bs} {us ts : List (V × TD)} {n : Nat} {env : En} {σ : St}
/-- a new dict, on the pile, is written anew -/
theorem Stt.setFd {a : Addr} {kvs : List (Key × V)} {ks ks' : List (Str × D)} (S : Stt K C B F W ((.ref a, .fd ks) :: ts) n env σ H) (r : RepK K C F kvs ks') : Stt K C B F W ((.ref a, .fd ks') :: ts) n env σ (upd H a (.dK kvs)) := by
  have t := S.temps.1
  cases t with
  | fd hw hh hr =>
    obtain ⟨hf, hb, _⟩ := S.own a _ hw
    have ne : ∀ b t, W b = some t → t ≠ .tp ts.length → b ≠ a := fun b t h z e => by subst e; rw [hw] at h; exact z (Option.some.inj h).symm
    refine ⟨S.ex1, fun b u h => ?_, fun b u h z => ?_, S.new, fun b t h => ?_, fun hp => ?_, S.len, fun j s h => ?_, ?_, ?_⟩
    · rw [upd_ne (fun z => by subst z; rw [hf] at h; cases h)]; exact S.ex2 b u h
    · rw [upd_ne (fun z => by subst z; rw [hb] at h; cases h)]; exact S.base b u h z
    · obtain ⟨h1, h2, u, h3⟩ := S.own b t h
      by_cases e : b = a
      · subst e; exact ⟨h1, h2, _, upd_same⟩
      · exact ⟨h1, h2, u, by rw [upd_ne e]; exact h3⟩
    · obtain ⟨h1, h2, h3⟩ := S.pool hp
      refine ⟨h1, h2, h3.mono (upd_ne fun z => ?_) (Nat.le_refl _)⟩
      obtain ⟨u, h2⟩ := h2
      rw [z, hb] at h2; cases h2
    · exact (S.slots j s h).mono LeR.refl (fun b u hb hh => by rw [upd_ne (ne b _ hb fun z => by cases z)]; exact hh) fun _ h => h
    · exact .fd hw upd_same r
    · refine TsOk.mono LeR.refl (fun b u j hj hb hh => by rw [upd_ne (ne b _ hb fun z => by cases z; exact absurd hj (Nat.lt_irrefl _))]; exact hh) (fun _ _ _ h => h) S.temps.2
end
section
variable {X : Cx} {C : Addr} {k : Nat} {N Vn Ln Gn Cn : List Str} {n : Nat} {env : En} {Q : QE} {QR' : QR} {x : Str} {p p2 pos apos cpos : Pos} {e k1 v1 k2 v2 : Expr} {d : D}
/-- {k1: v1, k2: v2} -/
theorem evr_disp2 (h : Ev X C k1 n env fun dk1 n1 env1 => ∃ s1, dk1 = .str s1 ∧ Ev X C v1 n1 env1 fun d1 n2 env2 => Ev X C k2 n2 env2 fun dk2 n3 env3 => ∃ s2, dk2 = .str s2 ∧ Ev X C v2 n3 env3 fun d2 n4 env4 => QR' (.fd (mergeD [] [(s1, d1), (s2, d2)])) n4 env4) : EvR X C (.Dict [some k1, some k2] [v1, v2] pos) n env QR' := fun B ts σ H R S q => by
  refine of_pe (pe_disp (pps_cons pe_t pe_t (pps_cons pe_t pe_t pps_nil)) rfl rfl (fun z => nomatch z) (by show 2 ≤ 15; decide)) fun p hp => ?_
  obtain ⟨F0, W0, S0⟩ := S
  obtain ⟨W1, S1⟩ := S0.newFd hp (.nil : RepK X.K C F0 [] [])
  refine h B _ σ _ _ ⟨F0, W1, S1⟩ fun y1 H1 dk1 n1 env1 ⟨s1, e1, h2⟩ S2 => h2 B _ σ H1 _ S2 fun z1 H2 d1 n2 env2 h3 S3 => h3 B _ σ H2 _ S3 fun y2 H3 dk2 n3 env3 ⟨s2, e2, h4⟩ S4 => h4 B _ σ H3 _ S4 fun z2 H4 d2 n4 env4 hq S5 => ?_
  subst e1 e2
  obtain ⟨F, W, S5⟩ := S5
  obtain ⟨t1, t2, t3, t4, t5, t6⟩ := S5.temps
  cases t1 with
  | dat r2 =>
    generalize hy2 : (y2, TD.dat (.str s2)).1 = yy2 at t2
    cases t2 with
    | dat q2 =>
      cases q2
      cases t3 with
      | dat r1 =>
        generalize hy1 : (y1, TD.dat (.str s1)).1 = yy1 at t4
        cases t4 with
        | dat q1 =>
          cases q1
          generalize ha : (V.ref p, TD.fd []).1 = aa at t5
          cases t5 with
          | @fd a2 kvs2 _ w2 g2 rr =>
            cases ha
            cases rr
            have hy2 : y2 = .str s2 := hy2
            have hy1 : y1 = .str s1 := hy1
            refine ⟨g2, [(.inr s1, z1), (.inr s2, z2)], by rw [hy1, hy2]; rfl, by show 2 ≤ 15; decide, ?_⟩
            have S6 := S5.pop.pop.pop.pop.setFd (RepK.merge (ls := [(s1, d1), (s2, d2)]) .nil (.cons r1 (.cons r2 .nil)))
            exact q _ _ _ n4 env4 hq ⟨F, W, S6⟩
/-- list(e.items()), of a dict that may stand locked -/
def rItemsR : V → Hp → VK → Prop := fun x H Q => ∃ (d : Addr) (kvs : List (Key × V)), x = .ref d ∧ Rd H d (.dK kvs) ∧
  ∀ (H' : Hp) (p : Addr) (ts : List Addr), (∀ b o, H b = some o → H' b = some o) → H p = none → (∀ t ∈ ts, H t = none) → p ∉ ts → H' p = some (.lst (ts.map V.ref)) → Paired (fun (t : Addr) (q : Key × V) => H' t = some (.tup [kV q.1, q.2])) ts kvs → Q (.ref p) H'
theorem pe_listItR {te : TE} (hc : X.calm = true) (he : PE X e te) (hg : Gl X "list") (hm : X.mg "list" = none) (hv : bootBuiltins "list" = some (.type "list")) (hbase : attributeBase e "items" X.env (eval e X.env) = eval e X.env := by rfl) (hline : (apos.endLine == cpos.line) = true := by rfl)
    (hs : starEach [.Call (.Attribute e "items" apos) [] [] cpos] X.env = (false, eval (.Call (.Attribute e "items" apos) [] [] cpos) X.env) :: starEach [] X.env := by rfl) :
    PE X (.Call (.Name "list" p) [.Call (.Attribute e "items" apos) [] [] cpos] [] pos) (fun σ H Q => te σ H fun x H1 => rItemsR x H1 Q) := by
  refine ⟨fun pins s σ H Q I hq => ?_⟩
  refine wpAny_Call_Name_kw (ld_blt I hg hm hv ?_)
  refine PyProof.Rows.callWith_type1 ?_ hs rfl
  rw [hs]
  show wpAny _ _ (spliced ((false, eval (.Call (.Attribute e "items" apos) [] [] cpos) X.env) :: backTo pos (starEach [] X.env))) _ _ s
  refine Calls.spliced_cons ?_
  refine wpAny_Call_method (T := "dict") (id := "dict.items") hbase rfl hline PySem.F.plainAttrs_dict PySem.F.slot_dict_items PySem.F.type_dict_items (thn (he.run pins s σ H _ I hq) fun u s1 ⟨x, H1, I1, rx, d, kvs, ex, hd, q⟩ => ?_)
  subst ex
  obtain rfl : u = Value.ref d := rx
  obtain ⟨hz, hs0, vs, kv, hdo⟩ := dk_rd I1.hok hd
  obtain ⟨ep, hat⟩ := hdo.dictAt
  have lk : kvs.length = vs.length := Paired.length kv
  have I2 : Inv X pins σ H1 { s1 with heap := s1.heap.push { cls := .type "dict_items", data := .fields #[.ref d] } } := I1.kept (t' := s1.toks) fun b ob q => Heap.get?_push_of_some _ q
  refine ⟨hdo.typeIs, hdo.mapOf.noDict, ?_⟩
  show wpAny _ _ (callWith cpos (.builtin "dict.items") [.ref d] [] []) _ X.xe s1
  refine method_meetsIn PySem.F.slot_dict_items PySem.F.entry_dict_items rfl (PySem.evalArgs_none ⟨rfl, hdo.typeIs, PySem.F.args_dict_items_1 _, _, meets_dict_items (mixKind X.prog X.w) d hs0, ⟨vs, hdo⟩, ?_⟩)
  refine Calls.spliced_nil ?_
  refine PySem.W.kdx_call (knd := mixKind X.prog X.w) (kvs := vs) (ep := ep) (I1.ok.hd hc) ⟨_, Heap.get?_push_size _ rfl, rfl, rfl⟩ (hat.push _) (by omega) fun h' tk acc c as hk hS hl hG hacc => ?_
  obtain ⟨H', k1, k2, k3, k4, k5, k6, J⟩ := LiI.items_laid (tk := tk) I2 hz kv hk hS hl hG hacc
  exact ⟨.ref _, H', J, rfl, q H' _ as k1 k2 k3 k4 k5 k6⟩
theorem reps_tups {K : PySem.W.Frag} {F F' : Hp} : ∀ {as : List Addr} {kvs : List (Key × V)} {ks : List (Str × D)}, RepK K C F kvs ks → LeR K F F' → Paired (fun (t : Addr) (q : Key × V) => F' t = some (.tup [kV q.1, q.2])) as kvs → Reps K C F' (as.map V.ref) (ks.map pairD)
  | [], _, _, .nil, _, .nil => .nil
  | t :: as, _, _, .cons h r, l, .cons p q => by
    rw [List.map_cons, List.map_cons]
    exact .cons (.tup p (.cons (.str _) (.cons (h.mono l) .nil))) (reps_tups r l q)
theorem paired_imp {α β : Type} {F G : α → β → Prop} : ∀ {xs : List α} {ys : List β}, Paired F xs ys → (∀ x ∈ xs, ∀ y, F x y → G x y) → Paired G xs ys
  | _, _, .nil, _ => .nil
  | _, _, .cons h t, hi => .cons (hi _ List.mem_cons_self _ h) (paired_imp t fun x hx => hi x (List.mem_cons_of_mem _ hx))
theorem ev_listIt (hX : XOk X k N Vn Ln Gn) (hm : X.mg "list" = none) (hg : ("list" : Str) ∈ Gn) (h : Ev X C e n env fun d n1 env1 => ∃ ks, d = .dct ks ∧ Q (.lst (ks.map pairD)) n1 env1)
    (hbase : attributeBase e "items" X.env (eval e X.env) = eval e X.env := by rfl) (hline : (apos.endLine == cpos.line) = true := by rfl)
    (hs : starEach [.Call (.Attribute e "items" apos) [] [] cpos] X.env = (false, eval (.Call (.Attribute e "items" apos) [] [] cpos) X.env) :: starEach [] X.env := by rfl) : Ev X C (.Call (.Name "list" p) [.Call (.Attribute e "items" apos) [] [] cpos] [] pos) n env Q := fun B ts σ H R S q => by
  refine of_pe (pe_listItR hX.calm pe_t (hX.gl _ hg).1 hm bt_list hbase hline hs) ?_
  refine h B ts σ H _ S fun v H1 d n1 env1 ⟨ks, hd, hq⟩ S1 => ?_
  subst hd
  obtain ⟨F, W, S1⟩ := S1
  have t := S1.temps.1
  generalize hv : v = v' at t
  cases t with
  | dat rp =>
    have rp : Rep X.K C F v' (.dct ks) := rp
    cases rp with
    | @dct a kvs _ g1 g2 =>
      subst hv
      refine ⟨a, kvs, rfl, Evl.ex_rd S1.ex2 g1, fun H' p1 as k1 k2 k3 k4 k5 k6 => ?_⟩
      let F' : Hp := fun b => if b = p1 ∨ b ∈ as then H' b else F b
      have fn : ∀ b, (b = p1 ∨ b ∈ as) → H1 b = none := fun b hb => by
        rcases hb with rfl | hb
        · exact k2
        · exact k3 b hb
      have fF : ∀ b o, F b = some o → ¬ (b = p1 ∨ b ∈ as) := fun b o e hb => by
        have := S1.ex2 b o e
        rw [fn b hb] at this; cases this
      have eF : Ex F F' := fun b o e => by
        show (if b = p1 ∨ b ∈ as then H' b else F b) = _
        rw [if_neg (fF b o e)]; exact e
      have eH : Ex F' H' := fun b o e => by
        have e : (if b = p1 ∨ b ∈ as then H' b else F b) = some o := e
        by_cases hb : b = p1 ∨ b ∈ as
        · rw [if_pos hb] at e; exact e
        · rw [if_neg hb] at e; exact k1 b o (S1.ex2 b o e)
      have at_ : ∀ b, (b = p1 ∨ b ∈ as) → F' b = H' b := fun b hb => if_pos hb
      have hr : Reps X.K C F' (as.map V.ref) (ks.map pairD) := reps_tups g2 (LeR.of eF) (paired_imp k6 fun t ht q hq => (at_ t (.inr ht)).trans hq)
      refine then_of (Q := fun d _ _ => d = .lst (ks.map pairD)) S1.pop (fun v H' d hd Z => q v H' d n1 env1 (by rw [hd]; exact hq) Z) _ _ F' H' rfl eF eH k1 (fun b o e => ?_) (.lst ((at_ p1 (.inl rfl)).trans k5) hr)
      have e : (if b = p1 ∨ b ∈ as then H' b else F b) = some o := e
      by_cases hb : b = p1 ∨ b ∈ as
      · exact .inr (fn b hb)
      · rw [if_neg hb] at e; exact .inl e
end
/-! ## M15 -/
/-! ### tangles and the least ceiling: plain mathematics -/
theorem opens_mem {js : List Jb} (hjs : OkJs js) {cf : Str → Nat} {t : Str} {q : Opn} : q ∈ opens js cf t ↔ ∃ j ∈ js, ∃ d, t ∈ insU (usJ j) d ∧ q = ⟨j.nm, d, prOf cf t j d⟩ := by
  unfold opens
  rw [List.mem_flatten]
  constructor
  · rintro ⟨l, hl, hq⟩
    obtain ⟨j, hj, rfl⟩ := List.mem_map.mp hl
    unfold opJ at hq
    rw [List.mem_flatten] at hq
    obtain ⟨l, hl, hq⟩ := hq
    obtain ⟨s, hs, rfl⟩ := List.mem_map.mp hl
    unfold opS at hq
    split at hq
    · rename_i ht
      obtain ⟨d, hd, rfl⟩ := List.mem_map.mp hq
      refine ⟨j, hj, d, ?_, rfl⟩
      rw [← ins_same (hjs.ok j hj)]
      exact List.mem_map.mpr ⟨s, List.mem_filter.mpr ⟨hs, decide_eq_true (within_mem.mp hd)⟩, ht⟩
    · cases hq
  · rintro ⟨j, hj, d, ht, rfl⟩
    rw [← ins_same (hjs.ok j hj)] at ht
    obtain ⟨s, hs, rfl⟩ := List.mem_map.mp ht
    obtain ⟨h1, h2⟩ := List.mem_filter.mp hs
    refine ⟨_, List.mem_map.mpr ⟨j, hj, rfl⟩, ?_⟩
    unfold opJ
    rw [List.mem_flatten]
    refine ⟨_, List.mem_map.mpr ⟨s, h1, rfl⟩, ?_⟩
    unfold opS
    rw [if_pos rfl]
    exact List.mem_map.mpr ⟨d, within_mem.mpr (of_decide_eq_true h2), rfl⟩
/-- the thing's ceiling replaced -/
def setC (cf : Str → Nat) (t : Str) (c : Nat) : Str → Nat := fun x => if x = t then c else cf x
theorem nat_ext {a b : Nat} (h : ∀ m, a ≤ m ↔ b ≤ m) : a = b := Nat.le_antisymm ((h b).mpr (Nat.le_refl _)) ((h a).mp (Nat.le_refl _))
theorem nowU_set {cf : Str → Nat} {t : Str} {c pr : Nat} {ins : List Str} (h : t ∈ ins) : nowU (setC cf t c) pr ins = max (nowU cf pr (ins.filter fun x => !decide (x = t))) c := by
  refine nat_ext fun m => ?_
  rw [nowU_le, Nat.max_le, nowU_le]
  constructor
  · rintro ⟨h1, h2⟩
    refine ⟨⟨h1, fun x hx => ?_⟩, ?_⟩
    · obtain ⟨hx1, hx2⟩ := List.mem_filter.mp hx
      have hne : x ≠ t := by simpa using hx2
      have := h2 x hx1
      unfold setC at this
      rwa [if_neg hne] at this
    · have := h2 t h
      unfold setC at this
      rwa [if_pos rfl] at this
  · rintro ⟨⟨h1, h2⟩, h3⟩
    refine ⟨h1, fun x hx => ?_⟩
    unfold setC
    split
    · exact h3
    · rename_i hne
      exact h2 x (List.mem_filter.mpr ⟨hx, by simpa using hne⟩)
theorem users_mem {js : List Jb} {t : Str} {o : Jb} : o ∈ usersD js t ↔ o ∈ js ∧ t ∈ thB o.bd := by
  unfold usersD
  rw [List.mem_filter, decide_eq_true_eq]
theorem now_open {js : List Jb} (hjs : OkJs js) {cf : Str → Nat} {t : Str} {c d : Nat} {j : Jb} (hj : j ∈ js) (h : t ∈ insU (usJ j) d) : nowU (setC cf t c) j.pr (insU (usJ j) d) = max (prOf cf t j d) c := by
  rw [nowU_set h]
  unfold prOf
  rw [ins_same (hjs.ok j hj)]
theorem canT_iff {js : List Jb} (hjs : OkJs js) {cf : Str → Nat} {t : Str} {c : Nat} : canT js (setC cf t c) t ↔ ∃ q ∈ opens js cf t, ∃ o ∈ usersD js t, max q.pr c < o.pr := by
  constructor
  · rintro ⟨j, hj, d, h1, o, ho, h2, h3⟩
    rw [now_open hjs hj h1] at h3
    exact ⟨_, (opens_mem hjs).mpr ⟨j, hj, d, h1, rfl⟩, o, users_mem.mpr ⟨ho, h2⟩, h3⟩
  · rintro ⟨q, hq, o, ho, h3⟩
    obtain ⟨j, hj, d, h1, rfl⟩ := (opens_mem hjs).mp hq
    obtain ⟨h4, h5⟩ := users_mem.mp ho
    exact ⟨j, hj, d, h1, o, h4, h5, by rw [now_open hjs hj h1]; exact h3⟩
/-- the first spot and user that tangle -/
def tgOf (us : List Jb) (c : Nat) (q : Opn) : Option (Opn × Jb) := (us.find? fun o => decide (max q.pr c < o.pr)).map fun o => (q, o)
def tgP (js : List Jb) (cf : Str → Nat) (t : Str) (c : Nat) : Option (Opn × Jb) := (opens js cf t).findSome? (tgOf (usersD js t) c)
theorem tgOf_some {us : List Jb} {c : Nat} {q : Opn} {x : Opn × Jb} (h : tgOf us c q = some x) : x.1 = q ∧ x.2 ∈ us ∧ max q.pr c < x.2.pr := by
  unfold tgOf at h
  cases e : us.find? fun o => decide (max q.pr c < o.pr) with
  | none => rw [e] at h; cases h
  | some o =>
    rw [e] at h
    cases h
    have e2 := List.find?_some e
    exact ⟨rfl, List.mem_of_find?_eq_some e, of_decide_eq_true e2⟩
theorem tgP_none {js : List Jb} (hjs : OkJs js) {cf : Str → Nat} {t : Str} {c : Nat} : tgP js cf t c = none ↔ ¬ canT js (setC cf t c) t := by
  rw [canT_iff hjs]
  unfold tgP
  rw [List.findSome?_eq_none_iff]
  constructor
  · rintro h ⟨q, hq, o, ho, h3⟩
    have := h q hq
    unfold tgOf at this
    rw [Option.map_eq_none_iff, List.find?_eq_none] at this
    exact this o ho (decide_eq_true h3)
  · intro h q hq
    unfold tgOf
    rw [Option.map_eq_none_iff, List.find?_eq_none]
    intro o ho z
    exact h ⟨q, hq, o, ho, of_decide_eq_true z⟩
theorem tgP_some {js : List Jb} (hjs : OkJs js) {cf : Str → Nat} {t : Str} {c : Nat} {q : Opn} {o : Jb} (h : tgP js cf t c = some (q, o)) : ∃ j ∈ js, o ∈ js ∧ j.nm = q.nm ∧ t ∈ insU (usJ j) q.un ∧ t ∈ thB o.bd ∧ nowU (setC cf t c) j.pr (insU (usJ j) q.un) < o.pr := by
  unfold tgP at h
  obtain ⟨q', hq', h'⟩ := List.exists_of_findSome?_eq_some h
  obtain ⟨h1, h2, h3⟩ := tgOf_some h'
  have h1 : q = q' := h1
  subst h1
  obtain ⟨j, hj, d, h4, rfl⟩ := (opens_mem hjs).mp hq'
  obtain ⟨h5, h6⟩ := users_mem.mp h2
  exact ⟨j, hj, h5, rfl, h4, h6, by rw [now_open hjs hj h4]; exact h3⟩
/-- the least ceiling -/
def leO (us : List Jb) (m : Nat) (q : Opn) : Nat := us.foldl (fun m o => if q.pr < o.pr then max m o.pr else m) m
def leastN (js : List Jb) (cf : Str → Nat) (t : Str) : Nat := (opens js cf t).foldl (leO (usersD js t)) 0
theorem leO_lt {c : Nat} {q : Opn} : ∀ {us : List Jb} {m : Nat}, c < leO us m q ↔ c < m ∨ ∃ o ∈ us, q.pr < o.pr ∧ c < o.pr
  | [], m => by simp [leO]
  | o :: us, m => by
    show c < leO us (if q.pr < o.pr then max m o.pr else m) q ↔ _
    rw [leO_lt]
    simp only [List.mem_cons, exists_eq_or_imp]
    split
    · rename_i h
      rw [show c < max m o.pr ↔ c < m ∨ c < o.pr by omega]
      constructor
      · rintro ((h1 | h1) | h1)
        · exact .inl h1
        · exact .inr (.inl ⟨h, h1⟩)
        · exact .inr (.inr h1)
      · rintro (h1 | h1 | h1)
        · exact .inl (.inl h1)
        · exact .inl (.inr h1.2)
        · exact .inr h1
    · rename_i h
      constructor
      · rintro (h1 | h1)
        · exact .inl h1
        · exact .inr (.inr h1)
      · rintro (h1 | h1 | h1)
        · exact .inl h1
        · exact absurd h1.1 h
        · exact .inr h1
theorem foldO_lt {us : List Jb} {c : Nat} : ∀ {qs : List Opn} {m : Nat}, c < qs.foldl (leO us) m ↔ c < m ∨ ∃ q ∈ qs, ∃ o ∈ us, q.pr < o.pr ∧ c < o.pr
  | [], m => by simp
  | q :: qs, m => by
    rw [List.foldl_cons, foldO_lt, leO_lt]
    simp only [List.mem_cons, exists_eq_or_imp]
    constructor
    · rintro ((h | h) | h)
      · exact .inl h
      · exact .inr (.inl h)
      · exact .inr (.inr h)
    · rintro (h | h | h)
      · exact .inl (.inl h)
      · exact .inl (.inr h)
      · exact .inr h
theorem can_least {js : List Jb} (hjs : OkJs js) {cf : Str → Nat} {t : Str} {c : Nat} : canT js (setC cf t c) t ↔ c < leastN js cf t := by
  rw [canT_iff hjs]
  unfold leastN
  rw [foldO_lt]
  constructor
  · rintro ⟨q, hq, o, ho, h⟩
    exact .inr ⟨q, hq, o, ho, by omega, by omega⟩
  · rintro (h | ⟨q, hq, o, ho, h1, h2⟩)
    · exact absurd h (Nat.not_lt_zero _)
    · exact ⟨q, hq, o, ho, by omega⟩
theorem least_in {js : List Jb} {cf : Str → Nat} {t : Str} : leastN js cf t = 0 ∨ ∃ o ∈ js, leastN js cf t = o.pr := by
  have inner : ∀ (us : List Jb) (q : Opn) (m : Nat), leO us m q = m ∨ ∃ o ∈ us, leO us m q = o.pr := by
    intro us q
    induction us with
    | nil => intro m; exact .inl rfl
    | cons o us ih =>
      intro m
      show leO us (if q.pr < o.pr then max m o.pr else m) q = m ∨ ∃ x ∈ o :: us, leO us (if q.pr < o.pr then max m o.pr else m) q = x.pr
      rcases ih (if q.pr < o.pr then max m o.pr else m) with h | ⟨x, hx, h⟩
      · rw [h]
        split
        · rcases Nat.le_total m o.pr with z | z
          · exact .inr ⟨o, List.mem_cons_self, Nat.max_eq_right z⟩
          · exact .inl (Nat.max_eq_left z)
        · exact .inl rfl
      · exact .inr ⟨x, List.mem_cons_of_mem _ hx, h⟩
  have outer : ∀ (qs : List Opn) (m : Nat), qs.foldl (leO (usersD js t)) m = m ∨ ∃ o ∈ js, qs.foldl (leO (usersD js t)) m = o.pr := by
    intro qs
    induction qs with
    | nil => intro m; exact .inl rfl
    | cons q qs ih =>
      intro m
      rw [List.foldl_cons]
      rcases ih (leO (usersD js t) m q) with h | h
      · rw [h]
        rcases inner (usersD js t) q m with h | ⟨o, ho, h⟩
        · exact .inl h
        · exact .inr ⟨o, (users_mem.mp ho).1, h⟩
      · exact .inr h
  exact outer _ 0
/-! ## F17 -/
def clsB (i j : Nat) : Stmt := match topS i with
  | .ClassDef _ _ _ body _ _ _ _ _ _ _ => body.getD j (.Pass ⟨0, 0, 0, 0⟩)
  | _ => .Pass ⟨0, 0, 0, 0⟩
section
variable {P : Program} {w : World} {K : PySem.W.Frag} {mg : Str → Option Value} {base : Heap} {C : Addr}
/-! ### Jobs.ceiling -/
abbrev sCeil : Stmt := clsB 19 3
theorem scCeil : FnScope ["self", "thing"] ["self", "thing"] (defScope sCeil) := ⟨rfl, rfl, rfl, by decide +kernel, rfl, by decide +kernel, by decide +kernel⟩
def RCeil : List D → Nat → (D → Nat → Prop) → Prop := fun ds n p => ∃ (js : List Jb) (ks : List (Str × D)) (t : Str) (d : D), ds = [objD js ks, .str t] ∧ t ∈ things3 ∧ getK t ks = some d ∧ p d n
theorem ok_ceil {f : Addr} {fd : FuncData} (F : Fun K "ceiling" "Jobs.ceiling" sCeil f fd) (hm : Meth K C "ceiling" f) (hb : Binds K fd ["self", "thing"] []) (hc : Cls K C) (a1 : NoAttr K C "kept_ceilings") (f1 : FnD P w K mg base C "is_word" 1 false RWord) : FnM P w K mg base C "ceiling" 2 RCeil := by
  refine fnM_of2 (k := 1) [] ["self", "thing"] ["is_word"] [] F hm scCeil hb (by decide +kernel) (fun ds n p q h ⟨js, ks, t, d, e, a, b, z⟩ => ⟨js, ks, t, d, e, a, b, h _ _ z⟩) (fun ds n p ⟨js, ks, t, d, e, _⟩ => by subst e; rfl) ?_
  intro X e1 e2 e3 e4 e5 e6 hX hC ds n p ⟨js, ks, t, d, e, ht, hg, hp⟩
  subst e e1 e2 e3 e4 e5
  obtain ⟨htok, _⟩ := things3_ok t ht
  have htl : t.length ≤ 1000 := by
    rcases List.mem_cons.mp ht with rfl | h
    · decide
    · rcases List.mem_cons.mp h with rfl | h
      · decide
      · rw [List.mem_singleton.mp h]; decide
  walk_at "up"
  refine stb_cons ?_
  refine st_if ?_
  refine EvT.imp (Q' := fun kk n1 env1 => kk = false ∧ n1 = n ∧ env1 = [.dat (objD js ks), .dat (.str t)]) ?_ ?_
  · refine evt_of ?_
    refine evw_or ?_
    refine evt_not ?_
    refine evt_val (fun _ => rfl) ?_
    walk_at "go"
    refine ⟨_, rfl, rfl, fun z hz => by cases hz; exact htl, true, by rw [htok], ?_⟩
    rw [if_neg (by decide)]
    refine evw_or1 ?_
    refine evt_notin hX rfl ?_
    walk_at "go"
    refine ev_fld hc a1 ?_
    walk_at "go"
    refine ⟨_, _, rfl, rfl, ?_⟩
    walk_at "go"
    rw [hg]
    exact ⟨rfl, rfl, rfl⟩
  · rintro kk n1 env1 ⟨rfl, rfl, rfl⟩
    refine iteF ?_
    refine stb_nil ?_
    refine stb_one ?_
    refine st_ret ?_
    refine ev_sub1 hX (fun _ _ => rfl) ?_
    refine ev_fld hc a1 ?_
    walk_at "go"
    refine ⟨_, _, rfl, rfl, ?_⟩
    walk_at "go"
    refine o_ixK hg ?_
    exact hp
/-! ### least_ceiling -/
abbrev sLeast : Stmt := topS 25
theorem scLeast : FnScope ["jobs", "thing", "least", "job", "units", "priority", "other"] ["jobs", "thing"] (defScope sLeast) := ⟨rfl, rfl, rfl, by decide +kernel, rfl, by decide +kernel, by decide +kernel⟩
def RLeast : List D → Nat → (D → Nat → Prop) → Prop := fun ds n p => ∃ (js : List Jb) (ks : List (Str × D)) (cf : Str → Nat) (t : Str) (d : D), ds = [objD js ks, .str t] ∧ OkJs js ∧ CeilK js ks cf ∧ t ∈ things3 ∧ getK t ks = some d ∧ p (.int (leastN js cf t : Nat)) n
theorem ok_least {f : Addr} {fd : FuncData} (F : Fun K "least_ceiling" "least_ceiling" sLeast f fd) (hm : mg "least_ceiling" = some (.ref f)) (hb : Binds K fd ["jobs", "thing"] []) (hc : Cls K C) (a1 : NoAttr K C "kept_jobs") (m1 : mg "max" = none) (f1 : FnM P w K mg base C "ceiling" 2 RCeil) (f2 : FnD P w K mg base C "open_spots" 2 false ROpen) (f3 : FnD P w K mg base C "users_of" 1 false RUsOf) : FnD P w K mg base C "least_ceiling" 3 false RLeast := by
  refine fnD_of (k := 2) [.no, .no, .no, .no, .no] ["open_spots", "users_of", "max"] [] F hm scLeast hb (by decide +kernel) (fun ds n p q h ⟨js, ks, cf, t, d, e, a, b, c, z1, z⟩ => ⟨js, ks, cf, t, d, e, a, b, c, z1, h _ _ z⟩) (fun ds n p ⟨js, ks, cf, t, d, e, _⟩ => by subst e; rfl) ?_
  intro X e1 e2 e3 e4 e5 e6 hX hC ds n p ⟨js, ks, cf, t, d, e, hjs, hcf, ht, hg, hp⟩
  subst e e1 e2 e3 e4 e5
  walk_at "up"
  refine stb_cons ?_
  refine st_expr ?_
  refine ev_meth f1 hX (by omega) hc (by walk_at "lk") (by walk_at "mem") rfl ?_
  walk_at "go"
  refine ⟨js, ks, t, d, rfl, ht, hg, ?_⟩
  walk_at "go"
  walk_at "up"
  refine st_for hX ?_
  refine ei_list ?_
  walk_at "go"
  refine ⟨js, ks, cf, t, rfl, hjs, hcf, ?_⟩
  refine ⟨_, rfl, ?_⟩
  refine ⟨fun i n' env' => ∃ (s3 s4 s5 s6 : Sl), env' = [.dat (objD js ks), .dat (.str t), .dat (.int (((opens js cf t).take i).foldl (leO (usersD js t)) 0 : Nat)), s3, s4, s5, s6] ∧ n' = n, ⟨.no, .no, .no, .no, rfl, rfl⟩, ?_, ?_⟩
  · rintro i d' n' env' hd ⟨s3, s4, s5, s6, rfl, rfl⟩
    rw [List.getElem?_map] at hd
    cases hx : (opens js cf t)[i]? with
    | none => rw [hx] at hd; cases hd
    | some q =>
      rw [hx] at hd
      obtain rfl : opnD q = d' := Option.some.inj hd
      have tk : (opens js cf t).take (i + 1) = (opens js cf t).take i ++ [q] := take_snoc hx
      refine eg_tup hX ?_
      refine egs_name (i := 3) hX (by walk_at "lk") (by walk_at "mem") ?_
      refine egs_name (i := 4) hX (by walk_at "lk") (by walk_at "mem") ?_
      refine egs_name (i := 5) hX (by walk_at "lk") (by walk_at "mem") ?_
      refine egs_nil ?_
      walk_at "up"
      refine stb_one ?_
      refine st_for hX ?_
      refine ei_list ?_
      walk_at "go"
      refine ⟨js, ks, t, rfl, hjs, ?_⟩
      refine ⟨_, rfl, ?_⟩
      generalize hm0 : ((opens js cf t).take i).foldl (leO (usersD js t)) 0 = m0
      refine ⟨fun i2 n2 env2 => ∃ (s6 : Sl), env2 = [.dat (objD js ks), .dat (.str t), .dat (.int (((usersD js t).take i2).foldl (fun m o => if q.pr < o.pr then max m o.pr else m) m0 : Nat)), .dat (.str q.nm), .dat (.int (q.un : Nat)), .dat (.int (q.pr : Nat)), s6] ∧ n2 = n', ⟨s6, rfl, rfl⟩, ?_, ?_⟩
      · rintro i2 d2 n2 env2 hd2 ⟨s6, rfl, rfl⟩
        rw [List.getElem?_map] at hd2
        cases hx2 : (usersD js t)[i2]? with
        | none => rw [hx2] at hd2; cases hd2
        | some o =>
          rw [hx2] at hd2
          obtain rfl : D.str o.nm = d2 := Option.some.inj hd2
          have tk2 : (usersD js t).take (i2 + 1) = (usersD js t).take i2 ++ [o] := take_snoc hx2
          have ho : o ∈ js := (users_mem.mp (List.mem_of_getElem? hx2)).1
          have hgo : getK o.nm (js.map jkv) = some (jobD o) := getK_jobs hjs.nn ho
          generalize hm1 : ((usersD js t).take i2).foldl (fun m o => if q.pr < o.pr then max m o.pr else m) m0 = m1
          have hst : ((usersD js t).take (i2 + 1)).foldl (fun m o => if q.pr < o.pr then max m o.pr else m) m0 = if q.pr < o.pr then max m1 o.pr else m1 := by
            rw [tk2, List.foldl_append, hm1]; rfl
          refine eg_name (i := 6) hX (by walk_at "lk") (by walk_at "mem") ?_
          walk_at "up"
          refine stb_one ?_
          refine st_if ?_
          refine EvT.imp (Q' := fun kk n1 env1 => kk = decide (q.pr < o.pr) ∧ n1 = n2 ∧ env1 = [.dat (objD js ks), .dat (.str t), .dat (.int (m1 : Nat)), .dat (.str q.nm), .dat (.int (q.un : Nat)), .dat (.int (q.pr : Nat)), .dat (.str o.nm)]) ?_ ?_
          · refine evt_gt ?_
            refine ev_sub1 hX (fun _ _ => rfl) ?_
            refine ev_sub1 hX (fun _ _ => rfl) ?_
            refine ev_fld hc a1 ?_
            walk_at "go"
            refine ⟨_, _, rfl, rfl, ?_⟩
            walk_at "go"
            refine o_ixK hgo ?_
            walk_at "go"
            refine ⟨decide_eq_decide.mpr (by omega), rfl, rfl⟩
          · rintro kk n1 env1 ⟨rfl, rfl, rfl⟩
            by_cases hlt : q.pr < o.pr
            · rw [decide_eq_true hlt]
              rw [if_pos hlt] at hst
              refine iteT ?_
              refine stb_one ?_
              refine st_set (i := 2) hX (by walk_at "lk") (by walk_at "mem") ?_
              refine evr_of ?_
              walk_at "go"
              refine ev_fld hc a1 ?_
              walk_at "go"
              refine ⟨_, _, rfl, rfl, ?_⟩
              walk_at "go"
              refine o_ixK hgo ?_
              walk_at "go"
              walk_at "up"
              have em : max (m1 : Int) (o.pr : Int) = ((max m1 o.pr : Nat) : Int) := by omega
              rw [em, ← hst]
              exact ⟨_, rfl, rfl⟩
            · rw [decide_eq_false hlt]
              rw [if_neg hlt] at hst
              refine iteF ?_
              refine stb_nil ?_
              rw [← hst]
              exact ⟨_, rfl, rfl⟩
      · rintro n2 env2 ⟨s6, rfl, rfl⟩
        have hl : ((usersD js t).map fun j => D.str j.nm).length = (usersD js t).length := List.length_map _
        rw [hl, List.take_length]
        have hst : ((opens js cf t).take (i + 1)).foldl (leO (usersD js t)) 0 = leO (usersD js t) m0 q := by
          rw [tk, List.foldl_append, hm0]; rfl
        have hst2 : (usersD js t).foldl (fun m o => if q.pr < o.pr then max m o.pr else m) m0 = ((opens js cf t).take (i + 1)).foldl (leO (usersD js t)) 0 := hst.symm
        rw [hst2]
        exact ⟨_, _, _, _, rfl, rfl⟩
  · rintro n' env' ⟨s3, s4, s5, s6, rfl, rfl⟩
    have hl : ((opens js cf t).map opnD).length = (opens js cf t).length := List.length_map _
    rw [hl, List.take_length]
    walk_at "go"
    exact hp
end
/-! ## M16 -/
theorem find_at {α : Type} {l : List α} {f : α → Bool} {i : Nat} {a : α} (h : l[i]? = some a) (hn : ∀ x ∈ l.take i, f x = false) (ha : f a = true) : l.find? f = some a := by
  have hi := (List.getElem?_eq_some_iff.mp h).1
  have e : l = l.take i ++ a :: l.drop (i + 1) := by
    have := List.take_append_drop i l
    rw [List.drop_eq_getElem_cons hi, (List.getElem?_eq_some_iff.mp h).2] at this
    exact this.symm
  rw [e, List.find?_append, List.find?_eq_none.mpr (fun x hx => by rw [hn x hx]; exact Bool.false_ne_true), List.find?_cons, ha]
  rfl
theorem findSome_at {α β : Type} {l : List α} {f : α → Option β} {i : Nat} {a : α} {b : β} (h : l[i]? = some a) (hn : ∀ x ∈ l.take i, f x = none) (ha : f a = some b) : l.findSome? f = some b := by
  have hi := (List.getElem?_eq_some_iff.mp h).1
  have e : l = l.take i ++ a :: l.drop (i + 1) := by
    have := List.take_append_drop i l
    rw [List.drop_eq_getElem_cons hi, (List.getElem?_eq_some_iff.mp h).2] at this
    exact this.symm
  rw [e, List.findSome?_append, List.findSome?_eq_none_iff.mpr hn, List.findSome?_cons, ha]
  rfl
def rwT (q : Opn) (o : Jb) : Str → List Nat := fun x => if x = o.nm then [q.un] else [0]
theorem open_ne {js : List Jb} (hjs : OkJs js) {cf : Str → Nat} {t : Str} {c : Nat} {q : Opn} {o : Jb} (hq : q ∈ opens js cf t) (ho : o ∈ js) (h : max q.pr c < o.pr) : q.nm ≠ o.nm ∧ q.nm ∈ js.map (·.nm) := by
  obtain ⟨j, hj, d, hd, rfl⟩ := (opens_mem hjs).mp hq
  refine ⟨fun e => ?_, List.mem_map.mpr ⟨j, hj, rfl⟩⟩
  have : j = o := map_inj hjs.nn hj ho e
  subst this
  have h1 : j.pr ≤ prOf cf t j d := nowU_ge.1
  have h2 : max (prOf cf t j d) c < j.pr := h
  omega
theorem rwT_map {q : Opn} {o : Jb} (h : q.nm ≠ o.nm) : [(q.nm, D.lst [.int 0]), (o.nm, D.lst [.int (q.un : Nat)])] = [q.nm, o.nm].map fun x => (x, D.lst ((rwT q o x).map natD)) := by
  show _ = [(q.nm, D.lst ((rwT q o q.nm).map natD)), (o.nm, D.lst ((rwT q o o.nm).map natD))]
  have e1 : rwT q o q.nm = [0] := if_neg h
  have e2 : rwT q o o.nm = [q.un] := if_pos rfl
  rw [e1, e2]
  rfl
/-! ## F18 -/
section
variable {P : Program} {w : World} {K : PySem.W.Frag} {mg : Str → Option Value} {base : Heap} {C : Addr}
/-! ### tangle -/
abbrev sTan : Stmt := topS 24
theorem scTan : FnScope ["jobs", "thing", "ceiling", "job", "units", "priority", "other", "comings", "one"] ["jobs", "thing", "ceiling"] (defScope sTan) := ⟨rfl, rfl, rfl, by decide +kernel, rfl, by decide +kernel, by decide +kernel⟩
def RTan : List D → Nat → (D → Nat → Prop) → Prop := fun ds n p => ∃ (js : List Jb) (ks : List (Str × D)) (cf : Str → Nat) (t : Str) (c : Nat) (d : D), ds = [objD js ks, .str t, .int (c : Nat)] ∧ OkJs js ∧ CeilK js ks cf ∧ t ∈ things3 ∧ getK t ks = some d ∧ (tgP js cf t c = none → p .non n) ∧ ∀ q o ns, tgP js cf t c = some (q, o) → ns.Perm [q.nm, o.nm] → p (cmD ns (rwT q o)) n
theorem ok_tan {f : Addr} {fd : FuncData} (F : Fun K "tangle" "tangle" sTan f fd) (hm : mg "tangle" = some (.ref f)) (hb : Binds K fd ["jobs", "thing", "ceiling"] []) (hc : Cls K C) (a1 : NoAttr K C "kept_jobs") (m1 : mg "max" = none) (m2 : mg "sorted" = none) (f0 : FnD P w K mg base C "is_natural" 2 false RIsNat) (f1 : FnM P w K mg base C "ceiling" 2 RCeil) (f2 : FnD P w K mg base C "open_spots" 2 false ROpen) (f3 : FnD P w K mg base C "users_of" 1 false RUsOf) : FnD P w K mg base C "tangle" 3 false RTan := by
  refine fnD_of2 (k := 2) [.no, .no, .no, .no, .no, .no] ["jobs", "thing", "ceiling", "job", "units", "priority", "other", "comings"] ["open_spots", "users_of", "max", "is_natural", "sorted"] ["comings"] F hm scTan hb (by decide +kernel) (fun ds n p q h ⟨js, ks, cf, t, c, d, e, a, b, c1, z1, z2, z3⟩ => ⟨js, ks, cf, t, c, d, e, a, b, c1, z1, fun y => h _ _ (z2 y), fun q o ns y1 y2 => h _ _ (z3 q o ns y1 y2)⟩) (fun ds n p ⟨js, ks, cf, t, c, d, e, _⟩ => by subst e; rfl) ?_
  intro X e1 e2 e3 e4 e5 e6 hX hC ds n p ⟨js, ks, cf, t, c, d, e, hjs, hcf, ht, hg, hp1, hp2⟩
  subst e e1 e2 e3 e4 e5
  walk_at "up"
  refine stb_cons ?_
  refine st_expr ?_
  refine ev_meth f1 hX (by omega) hc (by walk_at "lk") (by walk_at "mem") rfl ?_
  walk_at "go"
  refine ⟨js, ks, t, d, rfl, ht, hg, ?_⟩
  refine stb_cons ?_
  refine st_if ?_
  refine EvT.imp (Q' := fun kk n1 env1 => kk = false ∧ n1 = n ∧ env1 = [.dat (objD js ks), .dat (.str t), .dat (.int (c : Nat)), .no, .no, .no, .no, .no, .no]) ?_ ?_
  · walk_at "go"
    refine ⟨_, rfl, rfl, true, ?_, rfl, rfl, rfl⟩
    show D.bl (decide ((0 : Int) ≤ (c : Int))) = _
    rw [decide_eq_true (by omega)]
  · rintro kk n1 env1 ⟨rfl, rfl, rfl⟩
    refine iteF ?_
    refine stb_nil ?_
    refine stb_cons ?_
    refine st_for hX ?_
    refine ei_list ?_
    walk_at "go"
    refine ⟨js, ks, cf, t, rfl, hjs, hcf, ?_⟩
    refine ⟨_, rfl, ?_⟩
    refine ⟨fun i n' env' => ∃ (s3 s4 s5 s6 s7 : Sl), env' = [.dat (objD js ks), .dat (.str t), .dat (.int (c : Nat)), s3, s4, s5, s6, s7, .no] ∧ n' = n1 ∧ ∀ q ∈ (opens js cf t).take i, tgOf (usersD js t) c q = none, ⟨.no, .no, .no, .no, .no, rfl, rfl, fun q hq => by simp at hq⟩, ?_, ?_⟩
    · rintro i d' n' env' hd ⟨s3, s4, s5, s6, s7, rfl, rfl, hno⟩
      rw [List.getElem?_map] at hd
      cases hx : (opens js cf t)[i]? with
      | none => rw [hx] at hd; cases hd
      | some q =>
        rw [hx] at hd
        obtain rfl : opnD q = d' := Option.some.inj hd
        have tk : (opens js cf t).take (i + 1) = (opens js cf t).take i ++ [q] := take_snoc hx
        have hq := List.mem_of_getElem? hx
        refine eg_tup hX ?_
        refine egs_name (i := 3) hX (by walk_at "lk") (by walk_at "mem") ?_
        refine egs_name (i := 4) hX (by walk_at "lk") (by walk_at "mem") ?_
        refine egs_name (i := 5) hX (by walk_at "lk") (by walk_at "mem") ?_
        refine egs_nil ?_
        walk_at "up"
        refine stb_one ?_
        refine st_for hX ?_
        refine ei_list ?_
        walk_at "go"
        refine ⟨js, ks, t, rfl, hjs, ?_⟩
        refine ⟨_, rfl, ?_⟩
        refine ⟨fun i2 n2 env2 => ∃ (s6 s7 : Sl), env2 = [.dat (objD js ks), .dat (.str t), .dat (.int (c : Nat)), .dat (.str q.nm), .dat (.int (q.un : Nat)), .dat (.int (q.pr : Nat)), s6, s7, .no] ∧ n2 = n' ∧ ∀ o ∈ (usersD js t).take i2, decide (max q.pr c < o.pr) = false, ⟨s6, s7, rfl, rfl, fun q hq => by simp at hq⟩, ?_, ?_⟩
        · rintro i2 d2 n2 env2 hd2 ⟨s6, s7, rfl, rfl, hno2⟩
          rw [List.getElem?_map] at hd2
          cases hx2 : (usersD js t)[i2]? with
          | none => rw [hx2] at hd2; cases hd2
          | some o =>
            rw [hx2] at hd2
            obtain rfl : D.str o.nm = d2 := Option.some.inj hd2
            have tk2 : (usersD js t).take (i2 + 1) = (usersD js t).take i2 ++ [o] := take_snoc hx2
            have ho : o ∈ js := (users_mem.mp (List.mem_of_getElem? hx2)).1
            have hgo : getK o.nm (js.map jkv) = some (jobD o) := getK_jobs hjs.nn ho
            refine eg_name (i := 6) hX (by walk_at "lk") (by walk_at "mem") ?_
            walk_at "up"
            refine stb_one ?_
            refine st_if ?_
            refine EvT.imp (Q' := fun kk n1 env1 => kk = decide (max q.pr c < o.pr) ∧ n1 = n2 ∧ env1 = [.dat (objD js ks), .dat (.str t), .dat (.int (c : Nat)), .dat (.str q.nm), .dat (.int (q.un : Nat)), .dat (.int (q.pr : Nat)), .dat (.str o.nm), s7, .no]) ?_ ?_
            · refine evt_gt ?_
              refine ev_sub1 hX (fun _ _ => rfl) ?_
              refine ev_sub1 hX (fun _ _ => rfl) ?_
              refine ev_fld hc a1 ?_
              walk_at "go"
              refine ⟨_, _, rfl, rfl, ?_⟩
              walk_at "go"
              refine o_ixK hgo ?_
              walk_at "go"
              refine ⟨decide_eq_decide.mpr (by omega), rfl, rfl⟩
            · rintro kk n3 env1 ⟨rfl, rfl, rfl⟩
              by_cases hlt : max q.pr c < o.pr
              · have hfound : tgP js cf t c = some (q, o) := by
                  unfold tgP
                  refine findSome_at hx hno ?_
                  unfold tgOf
                  rw [find_at hx2 hno2 (decide_eq_true hlt)]
                  rfl
                obtain ⟨hne, hqj⟩ := open_ne hjs hq ho hlt
                rw [decide_eq_true hlt]
                refine iteT ?_
                refine stb_cons ?_
                refine st_set (i := 7) hX (by walk_at "lk") (by walk_at "mem") ?_
                refine EvR.imp (Q' := fun td n4 env4 => td = .fd [(q.nm, D.lst [.int 0]), (o.nm, D.lst [.int (q.un : Nat)])] ∧ n4 = n3 ∧ env4 = [.dat (objD js ks), .dat (.str t), .dat (.int (c : Nat)), .dat (.str q.nm), .dat (.int (q.un : Nat)), .dat (.int (q.pr : Nat)), .dat (.str o.nm), s7, .no]) ?_ ?_
                · refine evr_disp2 ?_
                  walk_at "go"
                  refine ⟨?_, rfl, rfl⟩
                  rw [mergeD_nil (by show [q.nm, o.nm].Nodup; simp [hne])]
                · rintro td n4 env4 ⟨rfl, rfl, rfl⟩
                  walk_at "up"
                  refine stb_one ?_
                  refine sts_frzKX "comings" 7 hX (by walk_at "lk") ?_
                  walk_at "up"
                  refine st_ret ?_
                  refine ev_frz ?_
                  refine evr_dcF ["one", "comings"] ["one"] [] ["comings"] [("one", 8)] hX hC (by decide +kernel) (by decide +kernel) (fun d => match d with | .str x => x | _ => "") (fun d => match d with | .str x => .lst ((rwT q o x).map natD) | d => d) ?_
                  refine ei_list ?_
                  refine ev_frz (evr_sorted hX m2 (by walk_at "mem") ?_)
                  walk_at "go"
                  refine f_sortK (by show 2 < 64; decide) fun ord ho1 ho2 => ?_
                  have ho1 : ord.Perm [q.nm, o.nm] := ho1
                  have hon : ord.Nodup := ho1.nodup_iff.mpr (by simp [hne])
                  have hol : ord.length = 2 := ho1.length_eq
                  refine ⟨_, rfl, _, rfl, ?_⟩
                  refine ⟨by rw [List.length_map]; omega, rfl, fun d hd => ?_, ?_⟩
                  · obtain ⟨x, hx, rfl⟩ := List.mem_map.mp hd
                    have hx2 := ho1.mem_iff.mp hx
                    have hgx : getK x [(q.nm, D.lst [.int 0]), (o.nm, D.lst [.int (q.un : Nat)])] = some (.lst ((rwT q o x).map natD)) := by
                      rw [rwT_map hne]
                      exact getK_map1 (f := fun x => .lst ((rwT q o x).map natD)) hx2
                    intro s H0 Cc cl fp hX' hC'
                    refine egv_name (i := 8) hX' (by walk_at "lk") (by walk_at "mem") (by decide) ?_
                    refine ⟨rfl, rfl, ?_, ?_, ?_⟩
                    · intro s H0 Cc cl fp hX' hC'
                      exact ept_nil ⟨rfl, rfl, rfl⟩
                    · intro s H0 Cc cl fp hX' hC'
                      walk_at "up"
                      walk_at "go"
                      exact ⟨rfl, rfl, rfl⟩
                    · intro s H0 Cc cl fp hX' hC'
                      walk_at "up"
                      walk_at "go"
                      refine o_ixK hgx ?_
                      exact ⟨rfl, rfl, rfl⟩
                  · refine ⟨_, rfl, ?_⟩
                    have em : ((ord.map D.str).map fun d => ((match d with | .str x => x | _ => "" : Str), (match d with | .str x => D.lst ((rwT q o x).map natD) | d => d))) = ord.map fun x => (x, D.lst ((rwT q o x).map natD)) := by
                      rw [List.map_map]; rfl
                    rw [em, mergeD_nil (by rw [keys_fn (f := fun x => D.lst ((rwT q o x).map natD))]; exact hon)]
                    exact hp2 q o ord hfound ho1
              · rw [decide_eq_false hlt]
                refine iteF ?_
                refine stb_nil ?_
                refine ⟨_, _, rfl, rfl, fun o' ho' => ?_⟩
                rw [tk2] at ho'
                rcases List.mem_append.mp ho' with h | h
                · exact hno2 o' h
                · rw [List.mem_singleton.mp h]; exact decide_eq_false hlt
        · rintro n2 env2 ⟨s6, s7, rfl, rfl, hno2⟩
          have hl : ((usersD js t).map fun j => D.str j.nm).length = (usersD js t).length := List.length_map _
          rw [hl, List.take_length] at hno2
          refine ⟨_, _, _, _, _, rfl, rfl, fun q' hq' => ?_⟩
          rw [tk] at hq'
          rcases List.mem_append.mp hq' with h | h
          · exact hno q' h
          · rw [List.mem_singleton.mp h]
            unfold tgOf
            rw [List.find?_eq_none.mpr fun o ho => by rw [hno2 o ho]; exact Bool.false_ne_true]
            rfl
    · rintro n' env' ⟨s3, s4, s5, s6, s7, rfl, rfl, hno⟩
      have hl : ((opens js cf t).map opnD).length = (opens js cf t).length := List.length_map _
      rw [hl, List.take_length] at hno
      walk_at "go"
      refine hp1 ?_
      unfold tgP
      exact List.findSome?_eq_none_iff.mpr hno
end
/-! ## M17 -/
/-! ### the same jobs in another order -/
theorem ceilO_none {js : List Jb} {t : Str} : ceilO js t = none ↔ ∀ j ∈ js, t ∉ thB j.bd := by
  have gen : ∀ (js : List Jb) (o : Option Nat), (js.foldl (fun o j => if t ∈ thB j.bd then some (max j.pr (o.getD 0)) else o) o = none ↔ o = none ∧ ∀ j ∈ js, t ∉ thB j.bd) := by
    intro js
    induction js with
    | nil => intro o; simp
    | cons j js ih =>
      intro o
      rw [List.foldl_cons, ih]
      simp only [List.mem_cons, forall_eq_or_imp]
      by_cases h : t ∈ thB j.bd
      · rw [if_pos h]; simp [h]
      · rw [if_neg h]; simp [h]
  unfold ceilO
  rw [gen]; simp
theorem ceilO_le {js : List Jb} {t : Str} {m : Nat} : (ceilO js t).getD 0 ≤ m ↔ ∀ j ∈ js, t ∈ thB j.bd → j.pr ≤ m := by
  have gen : ∀ (js : List Jb) (o : Option Nat), ((js.foldl (fun o j => if t ∈ thB j.bd then some (max j.pr (o.getD 0)) else o) o).getD 0 ≤ m ↔ o.getD 0 ≤ m ∧ ∀ j ∈ js, t ∈ thB j.bd → j.pr ≤ m) := by
    intro js
    induction js with
    | nil => intro o; simp
    | cons j js ih =>
      intro o
      rw [List.foldl_cons, ih]
      simp only [List.mem_cons, forall_eq_or_imp]
      by_cases h : t ∈ thB j.bd
      · rw [if_pos h]
        show max j.pr (o.getD 0) ≤ m ∧ _ ↔ _
        constructor
        · rintro ⟨h1, h2⟩; exact ⟨by omega, fun _ => by omega, h2⟩
        · rintro ⟨h1, h2, h3⟩; have := h2 h; exact ⟨by omega, h3⟩
      · rw [if_neg h]
        constructor
        · rintro ⟨h1, h2⟩; exact ⟨h1, fun z => absurd z h, h2⟩
        · rintro ⟨h1, h2, h3⟩; exact ⟨h1, h3⟩
  unfold ceilO
  rw [gen]; simp
theorem ceilO_perm {js ms : List Jb} (h : js.Perm ms) (t : Str) : ceilO js t = ceilO ms t := by
  have e : (ceilO js t).getD 0 = (ceilO ms t).getD 0 := nat_ext fun m => by
    rw [ceilO_le, ceilO_le]
    exact ⟨fun z j hj => z j (h.mem_iff.mpr hj), fun z j hj => z j (h.mem_iff.mp hj)⟩
  have n : ceilO js t = none ↔ ceilO ms t = none := by
    rw [ceilO_none, ceilO_none]
    exact ⟨fun z j hj => z j (h.mem_iff.mpr hj), fun z j hj => z j (h.mem_iff.mp hj)⟩
  cases e1 : ceilO js t with
  | none => exact (n.mp e1).symm
  | some a =>
    cases e2 : ceilO ms t with
    | none => rw [n.mpr e2] at e1; cases e1
    | some b => rw [e1, e2] at e; exact congrArg some e
abbrev cfJ (js : List Jb) : Str → Nat := fun t => (ceilO js t).getD 0
theorem ceilK_of {js : List Jb} {ks : List (Str × D)} (h : ∀ t, getK t ks = oI (ceilO js t)) : CeilK js ks (cfJ js) := by
  intro j hj t ht
  rw [h t]
  have : ceilO js t ≠ none := fun e => (ceilO_none.mp e) j hj ht
  cases e : ceilO js t with
  | none => exact absurd e this
  | some a => show some (D.int (a : Nat)) = some (.int ((ceilO js t).getD 0 : Nat)); rw [e]; rfl
theorem ceilK_set {js : List Jb} {ks : List (Str × D)} {cf : Str → Nat} (h : CeilK js ks cf) (t : Str) (c : Nat) : CeilK js (putD ks t (.int (c : Nat))) (setC cf t c) := by
  intro j hj x hx
  rw [getK_put]
  unfold setC
  by_cases e : x = t
  · rw [if_pos e, if_pos e]
  · rw [if_neg e, if_neg e]; exact h j hj x hx
theorem okJs_perm {js ms : List Jb} (h : js.Perm ms) (hj : OkJs js) : OkJs ms :=
  ⟨fun j hm => hj.ok j (h.mem_iff.mpr hm), (h.map _).nodup_iff.mp hj.nn, (h.map _).nodup_iff.mp hj.pn, by rw [← h.length_eq]; exact hj.l1, by rw [← h.length_eq]; exact hj.l2⟩
theorem canT_perm {js ms : List Jb} (h : js.Perm ms) {cf : Str → Nat} {t : Str} : canT js cf t ↔ canT ms cf t := by
  unfold canT
  constructor
  · rintro ⟨j, hj, d, h1, o, ho, h2⟩; exact ⟨j, h.mem_iff.mp hj, d, h1, o, h.mem_iff.mp ho, h2⟩
  · rintro ⟨j, hj, d, h1, o, ho, h2⟩; exact ⟨j, h.mem_iff.mpr hj, d, h1, o, h.mem_iff.mpr ho, h2⟩
/-! ### levels -/
/-- the least of the levels that are not below L -/
def lsD (L : Nat) (ys : List Int) : D := if ∃ y ∈ ys, (L : Int) ≤ y then .int (L : Nat) else .non
theorem lsD_nil {L : Nat} : lsD L [] = .non := if_neg (fun ⟨y, h, _⟩ => nomatch h)
theorem lsD_step {L : Nat} {ys : List Int} {i : Nat} {y : Int} (hs : ys.Pairwise (· < ·)) (hL : (L : Int) ∈ ys) (hy : ys[i]? = some y) :
    lsD L (ys.take (i + 1)) = if (isN (lsD L (ys.take i)) = true ∧ ¬ y < (L : Int)) then .int y else lsD L (ys.take i) := by
  have tk : ys.take (i + 1) = ys.take i ++ [y] := take_snoc hy
  have hi := (List.getElem?_eq_some_iff.mp hy).1
  by_cases h : ∃ z ∈ ys.take i, (L : Int) ≤ z
  · have e1 : lsD L (ys.take i) = .int (L : Nat) := if_pos h
    have e2 : lsD L (ys.take (i + 1)) = .int (L : Nat) := if_pos (by obtain ⟨z, hz, hl⟩ := h; exact ⟨z, by rw [tk]; exact List.mem_append_left _ hz, hl⟩)
    rw [e1, e2, if_neg (fun z => nomatch z.1)]
  · have e1 : lsD L (ys.take i) = .non := if_neg h
    rw [e1]
    by_cases hl : y < (L : Int)
    · rw [if_neg (fun z => z.2 hl)]
      refine if_neg ?_
      rintro ⟨z, hz, hz2⟩
      rw [tk] at hz
      rcases List.mem_append.mp hz with hz | hz
      · exact h ⟨z, hz, hz2⟩
      · rw [List.mem_singleton.mp hz] at hz2; omega
    · rw [if_pos ⟨rfl, hl⟩]
      have e2 : lsD L (ys.take (i + 1)) = .int (L : Nat) := if_pos ⟨y, by rw [tk]; simp, by omega⟩
      rw [e2]
      congr 1
      -- L itself stands among the levels: it is y
      obtain ⟨k, hk⟩ := List.mem_iff_getElem?.mp hL
      have hkl := (List.getElem?_eq_some_iff.mp hk).1
      have gy : ys[i] = y := (List.getElem?_eq_some_iff.mp hy).2
      have gk : ys[k] = (L : Int) := (List.getElem?_eq_some_iff.mp hk).2
      rw [List.pairwise_iff_getElem] at hs
      rcases Nat.lt_trichotomy k i with q | q | q
      · exfalso
        exact h ⟨(L : Int), by rw [List.mem_take_iff_getElem]; exact ⟨k, by omega, gk⟩, Int.le_refl _⟩
      · subst q; rw [← gk, ← gy]
      · have := hs i k hi hkl q
        rw [gy, gk] at this
        omega
theorem lsD_end {L : Nat} {ys : List Int} (hL : (L : Int) ∈ ys) : lsD L ys = .int (L : Nat) := if_pos ⟨_, hL, Int.le_refl _⟩
/-! ## F19 -/
section
variable {P : Program} {w : World} {K : PySem.W.Frag} {mg : Str → Option Value} {base : Heap} {C : Addr}
/-! ### _law_thing_right -/
abbrev sThing : Stmt := topS 47
theorem scThing : FnScope ["_law_pool_here", "_law_made_here", "_law_jobs_here", "_law_thing", "_law_least", "_law_own", "_law_levels", "_law_spots_here", "_law_users_here", "_law_ceiling", "_law_ceilings_here", "_law_told", "_law_due", "_law_job", "_law_did", "_law_other", "_law_comings_here", "_law_priority", "_law_distance", "_law_body_here"] ["_law_pool_here", "_law_made_here", "_law_jobs_here", "_law_thing"] (defScope sThing) := ⟨rfl, rfl, rfl, by decide +kernel, rfl, by decide +kernel, by decide +kernel⟩
def RThing : List D → Nat → (D → Nat → Prop) → Prop := fun ds n p => ∃ (js ms : List Jb) (kz : List (Str × D)) (t : Str), ds = [objD ms kz, jobsD js, .str t] ∧ OkJs js ∧ js.Perm ms ∧ (∀ x, getK x kz = oI (ceilO ms x)) ∧ (∃ j ∈ js, t ∈ thB j.bd) ∧ 400 ≤ n ∧ ∀ n', n ≤ n' + 400 → p (.bl true) n'
open Classical in
theorem ok_thing {f : Addr} {fd : FuncData} (F : Fun K "_law_thing_right" "_law_thing_right" sThing f fd) (hm : mg "_law_thing_right" = some (.ref f)) (hb : Binds K fd ["_law_pool_here", "_law_made_here", "_law_jobs_here", "_law_thing"] []) (m1 : mg "sorted" = none) (m2 : mg "set" = none) (m3 : mg "dict" = none) (m4 : mg "list" = none) (m5 : mg "isinstance" = none)
    (f1 : FnD P w K mg base C "_law_ceilings" 4 false RCeils) (f2 : FnD P w K mg base C "_law_spots" 4 false RSpots) (f3 : FnD P w K mg base C "_law_users" 4 false RUsers) (f4 : FnD P w K mg base C "tangle" 3 false RTan) (f5 : FnD P w K mg base C "_law_can_tangle" 5 false RCan) (f6 : FnD P w K mg base C "_law_are_comings" 1 false RAre) (f7 : FnD P w K mg base C "_law_is_tangled" 5 false RTgd) (f8 : FnD P w K mg base C "_law_one" 2 true ROne) (f9 : FnD P w K mg base C "_law_comings" 3 true RComs) (f10 : FnD P w K mg base C "_law_same" 1 false (RSame 0)) (f11 : FnD P w K mg base C "least_ceiling" 3 false RLeast) : FnD P w K mg base C "_law_thing_right" 6 true RThing := by
  refine fnD_of2 (k := 5) [.no, .no, .no, .no, .no, .no, .no, .no, .no, .no, .no, .no, .no, .no, .no, .no] ["_law_pool_here", "_law_made_here", "_law_jobs_here", "_law_thing", "_law_least", "_law_own", "_law_levels", "_law_spots_here", "_law_users_here", "_law_ceiling", "_law_ceilings_here", "_law_told", "_law_due", "_law_job", "_law_did", "_law_other", "_law_comings_here"] ["_law_ceilings", "sorted", "set", "_law_spots", "_law_users", "dict", "list", "tangle", "_law_can_tangle", "isinstance", "_law_are_comings", "_law_is_tangled", "_law_one", "_law_comings", "_law_same", "least_ceiling"] [] F hm scThing hb (by decide +kernel) (fun ds n p q h ⟨js, ms, kz, t, e, z1, z2, z3, z4, z5, z⟩ => ⟨js, ms, kz, t, e, z1, z2, z3, z4, z5, fun n' hn => h _ _ (z n' hn)⟩) (fun ds n p ⟨js, ms, kz, t, e, _⟩ => by subst e; rfl) ?_
  intro X e1 e2 e3 e4 e5 e6 hX hC ds n p ⟨js, ms, kz, t, e, hjs, hperm, hkz, htu, hn, hp⟩
  subst e e1 e2 e3 e4 e5
  have hms := okJs_perm hperm hjs
  have hj4 := hjs.l2
  have ht3 : t ∈ things3 := by obtain ⟨j, hj, ht⟩ := htu; exact thB_wf _ (hjs.ok j hj).wf t ht
  obtain ⟨dz, hgz⟩ : ∃ d, getK t kz = some d := by
    rw [hkz, ← ceilO_perm hperm]
    have : ceilO js t ≠ none := fun e => by obtain ⟨j, hj, ht⟩ := htu; exact (ceilO_none.mp e) j hj ht
    cases e : ceilO js t with
    | none => exact absurd e this
    | some a => exact ⟨_, rfl⟩
  have hcz : CeilK ms kz (cfJ ms) := ceilK_of hkz
  have hcf : cfJ ms = cfJ js := by funext x; show (ceilO ms x).getD 0 = _; rw [← ceilO_perm hperm]
  rw [hcf] at hcz
  walk_at "up"
  refine stb_cons ?_
  refine st_par2 (i := 4) (j := 5) hX (by walk_at "lk") (by walk_at "lk") (by decide) (by rw [e6]; rfl) (by rw [e6]; rfl) ?_ (by generalize X.env = v at e6 ⊢; cases v; cases e6; rfl)
  walk_at "go"
  refine ⟨js, rfl, hjs, fun ks hkn hk => ?_⟩
  have hck : CeilK js ks (cfJ js) := ceilK_of hk
  have hkl : ks.length ≤ 3 := by
    have h1 : ∀ x ∈ ks.map (·.1), x ∈ things3 := fun x hx => by
      have h2 := getK_isSome (t := x) (ks := ks)
      rw [decide_eq_true hx, hk x] at h2
      cases e : ceilO js x with
      | none => rw [e] at h2; cases h2
      | some a =>
        have h3 : ¬ ∀ j ∈ js, x ∉ thB j.bd := fun z => by rw [ceilO_none.mpr z] at e; cases e
        have : ∃ j ∈ js, x ∈ thB j.bd := Classical.byContradiction fun z => h3 fun j hj hx => z ⟨j, hj, hx⟩
        obtain ⟨j, hj, hx⟩ := this
        exact thB_wf _ (hjs.ok j hj).wf x hx
    have := nodup_len hkn h1
    rw [List.length_map] at this
    exact this
  walk_at "up"
  refine stb_cons ?_
  refine st_set (i := 6) hX (by walk_at "lk") (by walk_at "mem") ?_
  refine evr_sortSet hX m1 (by walk_at "mem") m2 (by walk_at "mem") ?_
  walk_at "go"
  refine ev_frz ?_
  have eit : itemsK .vals (js.map jkv) = js.map jobD := by show (js.map jkv).map _ = _; rw [List.map_map]; rfl
  refine evr_lcKF .vals (ks := js.map jkv) ["_law_priority", "_law_distance", "_law_body_here"] ["_law_priority", "_law_distance", "_law_body_here"] [] [] [("_law_priority", 17), ("_law_distance", 18), ("_law_body_here", 19)] hX hC (by decide +kernel) (by decide +kernel) (fun _ => true) (fun d => match d with | .tup (a :: _) => a | d => d) (da_name (i := 2) hX (by walk_at "lk") (by walk_at "mem")) pk_vals rfl (by rw [eit, List.length_map]; omega) ?_ ?_
  · rw [eit]
    intro d hd
    obtain ⟨j, hj, rfl⟩ := List.mem_map.mp hd
    intro s H0 Cc cl fp hX' hC'
    walk_at "up"
    refine egv_tup hX' ?_
    refine egvs_name (i := 17) hX' (by walk_at "lk") (by walk_at "mem") (by decide) ?_
    refine egvs_name (i := 18) hX' (by walk_at "lk") (by walk_at "mem") (by decide) ?_
    refine egvs_name (i := 19) hX' (by walk_at "lk") (by walk_at "mem") (by decide) ?_
    refine egvs_nil ?_
    refine ⟨rfl, ?_⟩
    intro s H0 Cc cl fp hX' hC'
    refine ept_nil ⟨rfl, rfl, rfl, fun _ => ?_⟩
    intro s H0 Cc cl fp hX' hC'
    walk_at "up"
    walk_at "go"
    exact ⟨rfl, rfl, rfl⟩
  · rw [eit]
    have hls : ((js.map jobD).filter fun _ => true).map (fun d => match d with | .tup (a :: _) => a | d => d) = js.map fun j => D.int (j.pr : Nat) := by
      rw [List.filter_eq_self.mpr (fun _ _ => rfl), List.map_map]; rfl
    rw [hls]
    refine ⟨_, rfl, ?_⟩
    refine o_addL (by rw [List.length_map]; show 2 + _ ≤ _; omega) ?_
    have hli : ([D.int 0, D.int 30] ++ js.map fun j => D.int (j.pr : Nat)) = ((0 : Int) :: 30 :: js.map fun j => (j.pr : Int)).map .int := by
      rw [List.map_cons, List.map_cons, List.map_map]; rfl
    rw [hli]
    refine ⟨_, rfl, by show (js.map _).length + 1 + 1 ≤ 60; rw [List.length_map]; omega, fun ys hys hym => ?_⟩
    walk_at "up"
    refine stb_frzLX "_law_levels" 6 hX (by walk_at "lk") ?_
    walk_at "up"
    refine stb_cons ?_
    refine st_par2 (i := 7) (j := 8) hX (by walk_at "lk") (by walk_at "lk") (by decide) (by rw [e6]; rfl) (by rw [e6]; rfl) ?_ (by generalize X.env = v at e6 ⊢; cases v; cases e6; rfl)
    walk_at "go"
    refine ⟨js, t, rfl, hjs, fun sp hspl hsp => ?_⟩
    walk_at "go"
    refine ⟨js, t, rfl, hjs, fun us hun hus => ?_⟩
    walk_at "up"
    refine stb_cons ?_
    refine st_for hX ?_
    refine ei_list ?_
    walk_at "go"
    have hyl : ys.length ≤ 6 := by
      have := nodup_len (List.Pairwise.imp (fun h => Int.ne_of_lt h) hys) fun z hz => (hym z).mp hz
      rw [List.length_cons, List.length_cons, List.length_map] at this
      omega
    have hL : ((leastN ms (cfJ js) t : Nat) : Int) ∈ ys := by
      rw [hym]
      rcases least_in (js := ms) (cf := cfJ js) (t := t) with h | ⟨o, ho, h⟩
      · rw [h]; exact List.mem_cons_self
      · rw [h]
        exact List.mem_cons_of_mem _ (List.mem_cons_of_mem _ (List.mem_map.mpr ⟨o, hperm.mem_iff.mpr ho, rfl⟩))
    refine ⟨fun i n' env' => ∃ (s9 s10 s11 s12 s13 s14 s15 s16 : Sl), env' = [.pool, .dat (objD ms kz), .dat (jobsD js), .dat (.str t), .dat (lsD (leastN ms (cfJ js) t) (ys.take i)), .dat (.dct ks), .dat (.lst (ys.map .int)), .dat (.lst (sp.map spotD)), .dat (.lst (us.map .str)), s9, s10, s11, s12, s13, s14, s15, s16, .no, .no, .no] ∧ n ≤ n' + 40 * i, ⟨.no, .no, .no, .no, .no, .no, .no, .no, by rw [List.take_zero, lsD_nil], by omega⟩, ?_, ?_⟩
    · rintro i d n' env' hd ⟨s9, s10, s11, s12, s13, s14, s15, s16, rfl, hn'⟩
      rw [List.getElem?_map] at hd
      cases hx : ys[i]? with
      | none => rw [hx] at hd; cases hd
      | some y =>
        rw [hx] at hd
        obtain rfl : D.int y = d := Option.some.inj hd
        have hi := (List.getElem?_eq_some_iff.mp hx).1
        obtain ⟨c, rfl⟩ : ∃ c : Nat, y = (c : Int) := by
          have h := (hym y).mp (List.mem_of_getElem? hx)
          rcases List.mem_cons.mp h with rfl | h
          · exact ⟨0, rfl⟩
          · rcases List.mem_cons.mp h with rfl | h
            · exact ⟨30, rfl⟩
            · obtain ⟨j, _, rfl⟩ := List.mem_map.mp h; exact ⟨_, rfl⟩
        have hstep := lsD_step hys hL hx
        have hcan : canT js (setC (cfJ js) t c) t ↔ c < leastN ms (cfJ js) t := by rw [canT_perm hperm, can_least hms]
        have hck2 : CeilK js (putD ks t (.int (c : Nat))) (setC (cfJ js) t c) := ceilK_set hck t c
        refine eg_name (i := 9) hX (by walk_at "lk") (by walk_at "mem") ?_
        walk_at "up"
        refine stb_cons ?_
        refine st_set (i := 10) hX (by walk_at "lk") (by walk_at "mem") ?_
        refine evr_dict1 hX m3 (by walk_at "mem") ?_
        refine evr_of ?_
        refine ev_add ?_
        refine ev_listIt hX m4 (by walk_at "mem") ?_
        walk_at "go"
        refine o_addL (by rw [List.length_map]; show _ + 1 ≤ _; omega) ?_
        have hpk : ks.map pairD ++ [D.tup [.str t, .int (c : Nat)]] = (ks ++ [(t, D.int (c : Nat))]).map pairD := by rw [List.map_append]; rfl
        rw [hpk]
        refine ⟨_, rfl, ?_⟩
        rw [mergeD_snoc, mergeD_nil hkn]
        walk_at "up"
        refine stb_frzKX "_law_ceilings_here" 10 hX (by walk_at "lk") ?_
        walk_at "up"
        refine stb_cons ?_
        refine st_par2 (i := 11) (j := 12) hX (by walk_at "lk") (by walk_at "lk") (by decide) (by rw [e6]; rfl) (by rw [e6]; rfl) ?_ (by generalize X.env = v at e6 ⊢; cases v; cases e6; rfl)
        refine EvR.imp (Q' := fun td n1 env1 => ∃ told, ((tgP ms (cfJ js) t c = none ∧ told = .non) ∨ ∃ q o nsq, tgP ms (cfJ js) t c = some (q, o) ∧ nsq.Perm [q.nm, o.nm] ∧ told = cmD nsq (rwT q o)) ∧ td = .dat told ∧ n1 = n' ∧ env1 = [.pool, .dat (objD ms kz), .dat (jobsD js), .dat (.str t), .dat (lsD (leastN ms (cfJ js) t) (ys.take i)), .dat (.dct ks), .dat (.lst (ys.map .int)), .dat (.lst (sp.map spotD)), .dat (.lst (us.map .str)), .dat (.int (c : Nat)), .dat (.dct (putD ks t (.int (c : Nat)))), s11, s12, s13, s14, s15, s16, .no, .no, .no]) ?_ ?_
        · refine evr_of ?_
          walk_at "go"
          refine ⟨ms, kz, cfJ js, t, c, dz, rfl, hms, hcz, ht3, hgz, fun hnone => ?_, fun q o nsq hsome hpq => ?_⟩
          · exact ⟨_, .inl ⟨hnone, rfl⟩, rfl, rfl, rfl⟩
          · exact ⟨_, .inr ⟨q, o, nsq, hsome, hpq, rfl⟩, rfl, rfl, rfl⟩
        · rintro td n1 env1 ⟨told, htold, rfl, rfl, rfl⟩
          refine evr_of ?_
          walk_at "go"
          refine ⟨js, _, setC (cfJ js) t c, t, rfl, hjs, hck2, ?_⟩
          walk_at "up"
          have hdue : isN told = !decide (canT js (setC (cfJ js) t c) t) := by
            rcases htold with ⟨h1, rfl⟩ | ⟨q, o, nsq, h1, _, rfl⟩
            · have h2 := (tgP_none hms).mp h1
              rw [← canT_perm hperm] at h2
              rw [decide_eq_false h2]; rfl
            · have h2 : canT js (setC (cfJ js) t c) t := by
                rw [canT_perm hperm]
                exact Classical.byContradiction fun z => by rw [(tgP_none hms).mpr z] at h1; cases h1
              rw [decide_eq_true h2]; rfl
          refine stb_cons ?_
          refine st_if ?_
          refine EvT.imp (Q' := fun kk n2 env2 => kk = false ∧ n2 = n1 ∧ env2 = [.pool, .dat (objD ms kz), .dat (jobsD js), .dat (.str t), .dat (lsD (leastN ms (cfJ js) t) (ys.take i)), .dat (.dct ks), .dat (.lst (ys.map .int)), .dat (.lst (sp.map spotD)), .dat (.lst (us.map .str)), .dat (.int (c : Nat)), .dat (.dct (putD ks t (.int (c : Nat)))), .dat told, .dat (.bl (decide (canT js (setC (cfJ js) t c) t))), s13, s14, s15, s16, .no, .no, .no]) ?_ ?_
          · refine evt_of ?_
            refine evw_or ?_
            refine evt_ne hX ?_
            walk_at "go"
            have hb : (!decide ((!isN told) = decide (canT js (setC (cfJ js) t c) t))) = false := by rw [hdue, Bool.not_not]; simp
            rw [hb]
            refine iteF ?_
            refine evw_or1 ?_
            rcases htold with ⟨h1, rfl⟩ | ⟨q, o, nsq, h1, h2, rfl⟩
            · refine evt_ne hX ?_
              walk_at "go"
              refine ⟨ms, kz, cfJ js, t, c, dz, rfl, hms, hcz, ht3, hgz, fun hnone => ?_, fun q o nsq hsome hpq => ?_⟩
              · walk_at "go"
                refine o_neN ?_
                exact ⟨_, rfl, rfl, rfl, rfl⟩
              · rw [h1] at hsome; cases hsome
            · refine evt_cmp (op_neL (by have := hX.room.un; show X.A.units + 1 + 64 < cLine; omega)) (nomark _) ?_
              walk_at "go"
              refine ⟨ms, kz, cfJ js, t, c, dz, rfl, hms, hcz, ht3, hgz, fun hnone => ?_, fun q' o' nsq' hsome hpq => ?_⟩
              · rw [h1] at hnone; cases hnone
              · rw [h1] at hsome
                cases hsome
                walk_at "go"
                have ecm : ∀ l : List Str, cmD l (rwT q o) = .dct (l.map fun x => (x, .lst (((rwT q o x).map fun (m : Nat) => (m : Int)).map .int))) := fun l => by
                  show D.dct _ = D.dct _
                  congr 1
                  apply List.map_congr_left
                  intro x _
                  rw [List.map_map]; rfl
                rw [ecm, ecm]
                refine o_neDL (hpq.trans h2.symm) ?_
                exact ⟨_, rfl, rfl, rfl, rfl⟩
          · rintro kk n2 env2 ⟨rfl, rfl, rfl⟩
            refine iteF ?_
            refine stb_nil ?_
            have hn2 : 160 ≤ n2 := by omega
            refine stb_cons ?_
            refine StS.imp (E' := { nx := fun n3 env3 => ∃ t13 t14 t15 t16, env3 = [.pool, .dat (objD ms kz), .dat (jobsD js), .dat (.str t), .dat (lsD (leastN ms (cfJ js) t) (ys.take i)), .dat (.dct ks), .dat (.lst (ys.map .int)), .dat (.lst (sp.map spotD)), .dat (.lst (us.map .str)), .dat (.int (c : Nat)), .dat (.dct (putD ks t (.int (c : Nat)))), .dat told, .dat (.bl (decide (canT js (setC (cfJ js) t c) t))), t13, t14, t15, t16, .no, .no, .no] ∧ n2 ≤ n3 + 32, rt := p }) ?_ ?_ (fun _ _ z => z) (fun _ _ z => z.elim) (fun _ _ z => z.elim)
            · refine st_if ?_
              rcases htold with ⟨h1, rfl⟩ | ⟨q, o, nsq, h1, h2, rfl⟩
              · have hno : ¬ canT js (setC (cfJ js) t c) t := by rw [canT_perm hperm]; exact (tgP_none hms).mp h1
                walk_at "go"
                refine iteF ?_
                refine stb_one ?_
                refine st_if ?_
                have hall : (sp.map spotD).all (okD 2) = true := by
                  rw [List.all_eq_true]
                  intro d hd
                  obtain ⟨⟨x, dd⟩, hxd, rfl⟩ := List.mem_map.mp hd
                  obtain ⟨j, hj, hjx, _⟩ := (hsp x dd).mp hxd
                  show ([D.str x, D.int _].all (okD 1)) = true
                  rw [List.all_cons, List.all_cons]
                  rw [show okD 1 (D.str x) = true from nm_okT hjs (List.mem_map.mpr ⟨j, hj, hjx⟩)]
                  rfl
                walk_at "go"
                refine o_neNil hall ?_
                refine ⟨_, rfl, ?_⟩
                cases hemp : (sp.map spotD).isEmpty with
                | true =>
                  refine iteF ?_
                  refine stb_nil ?_
                  exact ⟨_, _, _, _, rfl, by omega⟩
                | false =>
                  refine iteT ?_
                  have hspn : 0 < sp.length := by
                    cases sp with
                    | nil => cases hemp
                    | cons => exact Nat.succ_pos _
                  have husn : 0 < us.length := by
                    obtain ⟨j, hj, ht⟩ := htu
                    have := (hus j.nm).mpr ⟨j, hj, rfl, ht⟩
                    exact List.length_pos_of_mem this
                  have husl : us.length ≤ 4 := by
                    have := nodup_len hun (ys := us) (xs := js.map (·.nm)) fun x hx => by obtain ⟨j, hj, h, _⟩ := (hus x).mp hx; exact List.mem_map.mpr ⟨j, hj, h⟩
                    rw [List.length_map] at this
                    omega
                  refine stb_cons ?_
                  refine st_asg ?_ (by generalize X.env = v at e6 ⊢; cases v; cases e6; rfl) (by generalize X.env = v at e6 ⊢; cases v; cases e6; rfl)
                  refine evr_of ?_
                  walk_at "go"
                  refine ⟨_, rfl, by rw [List.length_map]; exact hspn, by rw [List.length_map]; omega, by omega, fun k1 d1 hd1 => ?_⟩
                  obtain ⟨⟨x, dd⟩, hxd, rfl⟩ := List.mem_map.mp (List.mem_of_getElem? hd1)
                  obtain ⟨j, hj, hjx, hins⟩ := (hsp x dd).mp hxd
                  have okj := hjs.ok j hj
                  have hdl := (insU_mem hins).2.1
                  rw [unB_length] at hdl
                  have hcs := csB_sz j.bd
                  have hsz := okj.sz
                  refine eg_tup hX ?_
                  refine egs_name (i := 13) hX (by walk_at "lk") (by walk_at "mem") ?_
                  refine egs_name (i := 14) hX (by walk_at "lk") (by walk_at "mem") ?_
                  refine egs_nil ?_
                  walk_at "up"
                  refine stb_cons ?_
                  refine st_set (i := 15) hX (by walk_at "lk") (by walk_at "mem") ?_
                  refine evr_of ?_
                  walk_at "go"
                  refine ⟨_, rfl, by rw [List.length_map]; exact husn, by rw [List.length_map]; omega, by omega, fun k2 d2 hd2 => ?_⟩
                  obtain ⟨z, hz, rfl⟩ := List.mem_map.mp (List.mem_of_getElem? hd2)
                  obtain ⟨o, ho, hoz, hto⟩ := (hus z).mp hz
                  walk_at "up"
                  refine stb_cons ?_
                  refine st_set (i := 16) hX (by walk_at "lk") (by walk_at "mem") ?_
                  refine EvR.imp (Q' := fun td n4 env4 => ∃ (nsq : List Str) (rw : Str → List Nat), td = .dat (cmD nsq rw) ∧ nsq.Nodup ∧ (∀ x ∈ nsq, x ∈ js.map (·.nm)) ∧ (∀ x ∈ nsq, (rw x).length ≤ 4 ∧ ∀ m ∈ rw x, m ≤ 5000) ∧ n2 ≤ n4 + 32 ∧ env4 = [.pool, .dat (objD ms kz), .dat (jobsD js), .dat (.str t), .dat (lsD (leastN ms (cfJ js) t) (ys.take i)), .dat (.dct ks), .dat (.lst (ys.map .int)), .dat (.lst (sp.map spotD)), .dat (.lst (us.map .str)), .dat (.int (c : Nat)), .dat (.dct (putD ks t (.int (c : Nat)))), .dat .non, .dat (.bl (decide (canT js (setC (cfJ js) t c) t))), .dat (.str x), .dat (.int (dd : Nat)), .dat (.str z), s16, .no, .no, .no]) ?_ ?_
                  · refine evr_of ?_
                    refine ev_if ?_
                    walk_at "go"
                    by_cases hzx : z = x
                    · rw [decide_eq_true hzx]
                      refine iteF ?_
                      refine ev_callP f9 hX (by omega) (by walk_at "mem") ?_
                      walk_at "go"
                      refine ⟨js, rfl, hjs, by omega, fun nsq rw1 n5 g1 g2 g3 g4 => ?_⟩
                      exact ⟨nsq, rw1, rfl, g1, g2, g3, by omega, rfl⟩
                    · rw [decide_eq_false hzx]
                      refine iteT ?_
                      refine ev_frz ?_
                      refine evr_disp2 ?_
                      walk_at "go"
                      refine ⟨[x, z], (fun y => if y = z then [dd] else [0]), ?_, ?_, ?_, ?_, by omega, rfl⟩
                      · have hxz : x ≠ z := fun e => hzx e.symm
                        rw [mergeD_nil (by show [x, z].Nodup; simp [hxz])]
                        show TD.dat (.dct [(x, .lst [.int 0]), (z, .lst [.int (dd : Nat)])]) = TD.dat (.dct [(x, .lst ((if x = z then [dd] else [0]).map natD)), (z, .lst ((if z = z then [dd] else [0]).map natD))])
                        rw [if_neg hxz, if_pos rfl]
                        rfl
                      · have hxz : x ≠ z := fun e => hzx e.symm
                        simp [hxz]
                      · intro y hy
                        rcases List.mem_cons.mp hy with rfl | hy
                        · exact List.mem_map.mpr ⟨j, hj, hjx⟩
                        · rw [List.mem_singleton.mp hy]; exact List.mem_map.mpr ⟨o, ho, hoz⟩
                      · intro y _
                        by_cases e : y = z
                        · simp only [if_pos e]
                          exact ⟨by show 1 ≤ 4; decide, fun m hm => by rw [List.mem_singleton.mp hm]; omega⟩
                        · simp only [if_neg e]
                          exact ⟨by show 1 ≤ 4; decide, fun m hm => by rw [List.mem_singleton.mp hm]; omega⟩
                  · rintro td n4 env4 ⟨nsq, rw1, rfl, g1, g2, g3, g4, rfl⟩
                    walk_at "up"
                    refine stb_one ?_
                    refine st_if ?_
                    refine evt_val (fun _ => rfl) ?_
                    walk_at "go"
                    refine ⟨js, _, setC (cfJ js) t c, nsq, rw1, t, rfl, hjs, hck2, g1, g2, g3, fun f b hf hdone hiff => ?_⟩
                    have hbf : b = false := by
                      cases b with
                      | false => rfl
                      | true => exact absurd (hiff.mp rfl) (not_tg hjs g2 hf hno)
                    subst hbf
                    refine ⟨_, rfl, ?_⟩
                    refine iteF ?_
                    refine stb_nil ?_
                    exact ⟨_, _, _, _, rfl, g4⟩
              · obtain ⟨j, hj, ho, hjq, hins, hto, hlt⟩ := tgP_some hms h1
                have hj := hperm.mem_iff.mpr hj
                have ho := hperm.mem_iff.mpr ho
                have hne : q.nm ≠ o.nm := fun e => by
                  have : j = o := map_inj hjs.nn hj ho (hjq.trans e)
                  subst this
                  have := nowU_ge (cf := setC (cfJ js) t c) (ins := insU (usJ j) q.un) (pr := j.pr)
                  omega
                have okj := hjs.ok j hj
                have hdl := (insU_mem hins).2.1
                rw [unB_length] at hdl
                have hcs := csB_sz j.bd
                have hsz := okj.sz
                have hnd : nsq.Nodup := h2.nodup_iff.mpr (by simp [hne])
                have hnj : ∀ x ∈ nsq, x ∈ js.map (·.nm) := fun x hx => by
                  rcases List.mem_cons.mp (h2.mem_iff.mp hx) with rfl | hx
                  · exact List.mem_map.mpr ⟨j, hj, hjq⟩
                  · rw [List.mem_singleton.mp hx]; exact List.mem_map.mpr ⟨o, ho, rfl⟩
                have hr1 : ∀ x, (rwT q o x).length = 1 := fun x => by unfold rwT; split <;> rfl
                walk_at "go"
                refine iteT ?_
                refine stb_cons ?_
                refine st_if ?_
                refine EvT.imp (Q' := fun kk n3 env3 => kk = false ∧ n3 = n2 ∧ env3 = [.pool, .dat (objD ms kz), .dat (jobsD js), .dat (.str t), .dat (lsD (leastN ms (cfJ js) t) (ys.take i)), .dat (.dct ks), .dat (.lst (ys.map .int)), .dat (.lst (sp.map spotD)), .dat (.lst (us.map .str)), .dat (.int (c : Nat)), .dat (.dct (putD ks t (.int (c : Nat)))), .dat (cmD nsq (rwT q o)), .dat (.bl (decide (canT js (setC (cfJ js) t c) t))), s13, s14, s15, s16, .no, .no, .no]) ?_ ?_
                · walk_at "go"
                  refine n_isi (T := "dict") (b := true) rfl (by decide +kernel) ?_
                  walk_at "go"
                  refine iteF ?_
                  walk_at "go"
                  refine ⟨js, nsq, rwT q o, rfl, hjs, hnj, fun x _ => hr1 x, ?_⟩
                  exact ⟨_, rfl, rfl, rfl, rfl⟩
                · rintro kk n3 env3 ⟨rfl, rfl, rfl⟩
                  refine iteF ?_
                  refine stb_nil ?_
                  refine stb_one ?_
                  refine st_if ?_
                  walk_at "go"
                  refine ⟨js, _, setC (cfJ js) t c, nsq, rwT q o, t, rfl, hjs, hck2, hnd, hnj, fun x hx => ⟨by rw [hr1 x]; decide, fun m hm => ?_⟩, fun f b hf hdone hiff => ?_⟩
                  · unfold rwT at hm
                    split at hm
                    · rw [List.mem_singleton.mp hm]; omega
                    · rw [List.mem_singleton.mp hm]; omega
                  · have hbt : b = true := hiff.mpr (is_tg hjs hj ho (fun x => by rw [h2.mem_iff, hjq]; simp) (by rw [hjq]; exact if_neg hne) (if_pos rfl) hins hto hlt hf hdone)
                    subst hbt
                    refine ⟨_, rfl, ?_⟩
                    refine iteF ?_
                    refine stb_nil ?_
                    exact ⟨_, _, _, _, rfl, by omega⟩
            · rintro n3 env3 ⟨t13, t14, t15, t16, rfl, hn3⟩
              refine stb_one ?_
              refine st_set (i := 4) hX (by walk_at "lk") (by walk_at "mem") ?_
              refine evr_of ?_
              refine ev_if ?_
              refine EvT.imp (Q' := fun kk n4 env4 => kk = decide (isN (lsD (leastN ms (cfJ js) t) (ys.take i)) = true ∧ ¬ (c : Int) < (leastN ms (cfJ js) t : Nat)) ∧ n4 = n3 ∧ env4 = [.pool, .dat (objD ms kz), .dat (jobsD js), .dat (.str t), .dat (lsD (leastN ms (cfJ js) t) (ys.take i)), .dat (.dct ks), .dat (.lst (ys.map .int)), .dat (.lst (sp.map spotD)), .dat (.lst (us.map .str)), .dat (.int (c : Nat)), .dat (.dct (putD ks t (.int (c : Nat)))), .dat told, .dat (.bl (decide (canT js (setC (cfJ js) t c) t))), t13, t14, t15, t16, .no, .no, .no]) ?_ ?_
              · walk_at "go"
                by_cases hn5 : isN (lsD (leastN ms (cfJ js) t) (ys.take i)) = true
                · rw [if_pos hn5]
                  walk_at "go"
                  refine ⟨?_, rfl, rfl⟩
                  rw [← decide_not]
                  refine decide_eq_decide.mpr ⟨fun z => ⟨hn5, fun z2 => z (hcan.mpr (by omega))⟩, fun z z2 => z.2 (by have := hcan.mp z2; omega)⟩
                · rw [if_neg hn5]
                  refine ⟨?_, rfl, rfl⟩
                  rw [decide_eq_false (fun z => hn5 z.1)]
              · rintro kk n4 env4 ⟨rfl, rfl, rfl⟩
                by_cases hq : isN (lsD (leastN ms (cfJ js) t) (ys.take i)) = true ∧ ¬ (c : Int) < (leastN ms (cfJ js) t : Nat)
                · rw [decide_eq_true hq]
                  rw [if_pos hq] at hstep
                  refine iteT ?_
                  walk_at "go"
                  walk_at "up"
                  rw [← hstep]
                  exact ⟨_, _, _, _, _, _, _, _, rfl, by omega⟩
                · rw [decide_eq_false hq]
                  rw [if_neg hq] at hstep
                  refine iteF ?_
                  walk_at "go"
                  walk_at "up"
                  rw [← hstep]
                  exact ⟨_, _, _, _, _, _, _, _, rfl, by omega⟩
    · rintro n' env' ⟨s9, s10, s11, s12, s13, s14, s15, s16, rfl, hn'⟩
      rw [List.length_map] at hn' ⊢
      rw [List.take_length, lsD_end hL]
      walk_at "go"
      refine ⟨ms, kz, cfJ js, t, dz, rfl, hms, hcz, ht3, hgz, ?_⟩
      walk_at "go"
      refine ⟨_, rfl, rfl, hp n' (by omega)⟩
end
/-! ## K18 -/
/-! ### an object of one's own: fields set, their dicts changed -/
def FV.d : FV → D
  | .dat d => d
  | .own ks => .dct ks
section
variable {K : PySem.W.Frag} {C : Addr} {F H H' : Hp} {W : Addr → Option Tg} {t : Tg}
theorem RepS.frame {fvs : List (Str × V)} {fs : List (Str × FV)} {as : List Addr} (h : RepS K C F H W t fvs fs as) : (∀ a ∈ as, H' a = H a) → RepS K C F H' W t fvs fs as := by
  induction h with
  | nil => intro _; exact .nil
  | dat r _ ih => intro e; exact .dat r (ih e)
  | own w g r na _ ih => intro e; exact .own w ((e _ List.mem_cons_self).trans g) r na (ih fun a ha => e a (List.mem_cons_of_mem _ ha))
theorem RepS.keys {fvs : List (Str × V)} {fs : List (Str × FV)} {as : List Addr} (h : RepS K C F H W t fvs fs as) : fvs.map (·.1) = fs.map (·.1) := by
  induction h with
  | nil => rfl
  | dat r _ ih => rw [List.map_cons, List.map_cons, ih]
  | own w g r na _ ih => rw [List.map_cons, List.map_cons, ih]
theorem RepS.ad {fvs : List (Str × V)} {fs : List (Str × FV)} {as : List Addr} (h : RepS K C F H W t fvs fs as) : ∀ a ∈ as, W a = some t ∧ ∃ kvs, H a = some (.dK kvs) := by
  induction h with
  | nil => intro a ha; cases ha
  | dat r _ ih => exact ih
  | own w g r na _ ih => intro a ha; rcases List.mem_cons.mp ha with e | ha; exact e ▸ ⟨w, _, g⟩; exact ih a ha
theorem RepS.snocD {f : Str} {v : V} {d : D} (rv : Rep K C F v d) {fvs : List (Str × V)} {fs : List (Str × FV)} {as : List Addr} (h : RepS K C F H W t fvs fs as) : RepS K C F H W t (fvs ++ [(f, v)]) (fs ++ [(f, .dat d)]) as := by
  induction h with
  | nil => exact .dat rv .nil
  | dat r _ ih => exact .dat r ih
  | own w g r na _ ih => exact .own w g r na ih
theorem RepS.snocK {f : Str} {b : Addr} {kvs : List (Key × V)} {ks : List (Str × D)} (w : W b = some t) (g : H b = some (.dK kvs)) (rk : RepK K C F kvs ks) {fvs : List (Str × V)} {fs : List (Str × FV)} {as : List Addr} (h : RepS K C F H W t fvs fs as) : b ∉ as → RepS K C F H W t (fvs ++ [(f, .ref b)]) (fs ++ [(f, .own ks)]) (as ++ [b]) := by
  induction h with
  | nil => intro _; exact .own w g rk (fun z => nomatch z) .nil
  | dat r _ ih => intro hb; exact .dat r (ih hb)
  | @own f' b' _ _ _ _ as' w' g' r' na _ ih =>
    intro hb
    exact .own w' g' r' (fun z => by
      rcases List.mem_append.mp z with z | z
      · exact na z
      · exact hb (by rw [List.mem_singleton.mp z]; exact List.mem_cons_self)) (ih fun z => hb (List.mem_cons_of_mem _ z))
theorem RepS.atD {f : Str} {d : D} {fvs : List (Str × V)} {fs : List (Str × FV)} {as : List Addr} (h : RepS K C F H W t fvs fs as) : fs.lookup f = some (.dat d) → ∃ v, fvs.lookup f = some v ∧ Rep K C F v d := by
  induction h with
  | nil => intro z; cases z
  | @dat f' v d' _ _ _ r _ ih =>
    intro z
    rw [List.lookup_cons] at z ⊢
    split at z
    · cases z; exact ⟨v, rfl, r⟩
    · exact ih z
  | @own f' b _ _ _ _ _ w g r na _ ih =>
    intro z
    rw [List.lookup_cons] at z ⊢
    split at z
    · cases z
    · exact ih z
def setFV (fs : List (Str × FV)) (f : Str) (v : FV) : List (Str × FV) := fs.map fun p => if p.1 = f then (f, v) else p
theorem setFV_no {fs : List (Str × FV)} {f : Str} {v : FV} (h : f ∉ fs.map (·.1)) : setFV fs f v = fs := by
  induction fs with
  | nil => rfl
  | cons p r ih =>
    show (if p.1 = f then (f, v) else p) :: setFV r f v = p :: r
    rw [ih (fun z => h (by simp at z ⊢; exact .inr z)), if_neg (fun e => h (by simp [e]))]
theorem RepS.atK {f : Str} {fvs : List (Str × V)} {fs : List (Str × FV)} {as : List Addr} (h : RepS K C F H W t fvs fs as) : ∀ {ks : List (Str × D)}, (fs.map (·.1)).Nodup → fs.lookup f = some (.own ks) → ∃ b kvs, fvs.lookup f = some (.ref b) ∧ b ∈ as ∧ W b = some t ∧ H b = some (.dK kvs) ∧ RepK K C F kvs ks ∧
    ∀ kvs' ks', RepK K C F kvs' ks' → RepS K C F (upd H b (.dK kvs')) W t fvs (setFV fs f (.own ks')) as := by
  induction h with
  | nil => intro ks _ z; cases z
  | @dat f' v d' r r' as' rp q ih =>
    intro ks hn z
    rw [List.map_cons, List.nodup_cons] at hn
    rw [List.lookup_cons] at z
    by_cases e : f = f'
    · subst e; simp at z
    · have e1 : (f == f') = false := by simpa using e
      rw [e1] at z
      obtain ⟨b, kvs, h1, h2, h3, h4, h5, h6⟩ := ih hn.2 z
      refine ⟨b, kvs, by rw [List.lookup_cons, e1]; exact h1, h2, h3, h4, h5, fun kvs' ks' rk => ?_⟩
      show RepS K C F _ W t _ ((if f' = f then (f, FV.own ks') else (f', .dat d')) :: setFV r' f (.own ks')) _
      rw [if_neg (fun z => e z.symm)]
      exact .dat rp (h6 kvs' ks' rk)
  | @own f' b' kvs0 ks0 r r' as' w g rk na q ih =>
    intro ks hn z
    rw [List.map_cons, List.nodup_cons] at hn
    rw [List.lookup_cons] at z
    by_cases e : f = f'
    · subst e
      simp at z
      subst z
      refine ⟨b', kvs0, by rw [List.lookup_cons]; simp, List.mem_cons_self, w, g, rk, fun kvs' ks' rk' => ?_⟩
      show RepS K C F _ W t _ ((if f = f then (f, FV.own ks') else (f, .own ks0)) :: setFV r' f (.own ks')) _
      rw [if_pos rfl, setFV_no hn.1]
      exact .own w upd_same rk' na (q.frame fun a ha => upd_ne fun z => na (by rw [← z]; exact ha))
    · have e1 : (f == f') = false := by simpa using e
      rw [e1] at z
      obtain ⟨b, kvs, h1, h2, h3, h4, h5, h6⟩ := ih hn.2 z
      refine ⟨b, kvs, by rw [List.lookup_cons, e1]; exact h1, List.mem_cons_of_mem _ h2, h3, h4, h5, fun kvs' ks' rk' => ?_⟩
      show RepS K C F _ W t _ ((if f' = f then (f, FV.own ks') else (f', .own ks0)) :: setFV r' f (.own ks')) _
      rw [if_neg (fun z => e z.symm)]
      exact .own w ((upd_ne fun z => na (by rw [z]; exact h2)).trans g) rk na (h6 kvs' ks' rk')
theorem RepS.obj {F1 : Hp} (l : LeR K F F1) (hh : ∀ a o, W a = some t → H a = some o → F1 a = some o) {fvs : List (Str × V)} {fs : List (Str × FV)} {as : List Addr} (h : RepS K C F H W t fvs fs as) : RepF K C F1 fvs (fs.map fun p => (p.1, p.2.d)) := by
  induction h with
  | nil => exact .nil
  | dat r _ ih => exact .cons (r.mono l) ih
  | own w g r na _ ih => exact .cons (.dct (.inl (hh _ _ w g)) (RepK.mono l r)) ih
theorem putF_new {f : Str} {v : V} : ∀ {fs : List (Str × V)}, f ∉ fs.map (·.1) → putF f v fs = fs ++ [(f, v)]
  | [], _ => rfl
  | (g, w) :: r, h => by
    have hg : ¬ f = g := fun e => h (by simp [e])
    have ih := putF_new (v := v) (fs := r) fun z => h (by simp at z ⊢; exact .inr z)
    unfold putF
    first
      | (rw [if_neg hg, ih]; rfl)
      | (rw [if_neg (fun e => hg e.symm), ih]; rfl)
      | (simp [hg, ih])
      | (simp [Ne.symm hg, ih])
end
section
variable {K : PySem.W.Frag} {C : Addr} {F H : Hp} {W : Addr → Option Tg} {B : Bs} {us ts : List (V × TD)} {n : Nat} {env : En} {σ : St}
/-- the last temp, a new dict, belongs to slot i now -/
theorem Stt.giveK {i : Nat} {v : V} {ks : List (Str × D)} (S : Stt K C B F W ((v, .fd ks) :: ts) n env σ H) : ∃ b kvs W', v = .ref b ∧ W b = some (.tp ts.length) ∧ W' b = some (.sl i) ∧ (∀ a, a ≠ b → W' a = W a) ∧ H b = some (.dK kvs) ∧ RepK K C F kvs ks ∧ Stt K C B F W' ts n env σ H := by
  have t := S.temps.1
  generalize hv : v = v' at t
  cases t with
  | @fd b kvs _ w g r =>
    refine ⟨b, kvs, Stt.retag W b (some (.sl i)), rfl, w, Stt.retag_same, fun a h => Stt.retag_ne h, g, r, S.ex1, S.ex2, S.base, S.new, fun a u h => ?_, S.pool, S.len, fun j sl h => ?_, ?_⟩
    · by_cases e : a = b
      · subst e; exact S.own a _ w
      · rw [Stt.retag_ne e] at h; exact S.own a u h
    · refine (S.slots j sl h).mono LeR.refl (fun _ _ _ h => h) fun a ha => ?_
      have : a ≠ b := fun z => by subst z; rw [w] at ha; cases ha
      rw [Stt.retag_ne this]; exact ha
    · refine TsOk.mono LeR.refl (fun _ _ _ _ _ h => h) (fun a j hj ha => ?_) S.temps.2
      have : a ≠ b := fun z => by subst z; rw [w] at ha; cases ha; exact absurd hj (Nat.lt_irrefl _)
      rw [Stt.retag_ne this]; exact ha
/-- self.f = data -/
theorem Stt.slfD {i : Nat} {v : V} {d : D} {f : Str} {A : Addr} {fs : List (Str × FV)} (S : Stt K C B F W ((v, .dat d) :: ts) n env σ H) (he : env[i]? = some (.slf A fs)) (hf : f ∉ fs.map (·.1)) :
    ∃ dx fvs, σ[i]? = some (some (.ref A)) ∧ H A = some (.ins C dx fvs) ∧ fvs.map (·.1) = fs.map (·.1) ∧ Stt K C B F W ts n (env.set i (.slf A (fs ++ [(f, .dat d)]))) σ (upd H A (.ins C dx (putF f v fvs))) := by
  have t := S.temps.1
  cases t with
  | dat rv =>
    have sl := S.slots i _ he
    generalize hx : σ[i]? = o at sl
    cases sl with
    | @slf _ dx fvs _ as w w2 g g2 q =>
      have hk := q.keys
      refine ⟨dx, fvs, rfl, g, hk, S.pop.change w ?_⟩
      rw [hx, putF_new (by rw [hk]; exact hf)]
      have hax : dx ≠ A := fun z => by rw [z, g] at g2; cases g2
      refine .slf w w2 upd_same ((upd_ne hax).trans g2) ((q.snocD rv).frame (as := as) fun x hx' => upd_ne fun z => ?_)
      obtain ⟨_, kvs, e⟩ := q.ad x hx'
      rw [z, g] at e; cases e
/-- self.f = a new dict -/
theorem Stt.slfK {i : Nat} {v : V} {ks : List (Str × D)} {f : Str} {A : Addr} {fs : List (Str × FV)} (S : Stt K C B F W ((v, .fd ks) :: ts) n env σ H) (he : env[i]? = some (.slf A fs)) (hf : f ∉ fs.map (·.1)) :
    ∃ dx fvs W', σ[i]? = some (some (.ref A)) ∧ H A = some (.ins C dx fvs) ∧ fvs.map (·.1) = fs.map (·.1) ∧ Stt K C B F W' ts n (env.set i (.slf A (fs ++ [(f, .own ks)]))) σ (upd H A (.ins C dx (putF f v fvs))) := by
  obtain ⟨b, kvs, W', ev, wb, wb', wo, g0, r, S'⟩ := S.giveK (i := i)
  subst ev
  have sl := S'.slots i _ he
  have slO := S.slots i _ he
  generalize hx : σ[i]? = o at sl slO
  cases slO with
  | @slf _ dx fvs _ as w w2 g g2 q =>
    have hk := q.keys
    have hab : A ≠ b := fun z => by subst z; rw [g] at g0; cases g0
    have hdb : dx ≠ b := fun z => by subst z; rw [g2] at g0; cases g0
    have hax : dx ≠ A := fun z => by rw [z, g] at g2; cases g2
    have hb : b ∉ as := fun z => by have := (q.ad b z).1; rw [wb] at this; cases this
    have q' : RepS K C F H W' (.sl i) fvs fs as := q.mono LeR.refl (fun _ _ _ h => h) fun x hx => by
      have : x ≠ b := fun z => by subst z; rw [wb] at hx; cases hx
      rw [wo x this]; exact hx
    have w' : W' A = some (.sl i) := (wo A hab).trans w
    refine ⟨dx, fvs, W', rfl, g, hk, S'.change w' ?_⟩
    rw [hx, putF_new (by rw [hk]; exact hf)]
    refine .slf w' ((wo dx hdb).trans w2) upd_same ((upd_ne hax).trans g2) ((q'.snocK wb' g0 r hb).frame fun x hx' => upd_ne fun z => ?_)
    rcases List.mem_append.mp hx' with h | h
    · obtain ⟨_, kvs, e⟩ := q.ad x h
      rw [z, g] at e; cases e
    · rw [List.mem_singleton.mp h] at z; exact hab z.symm
/-- the dict in self.f: it is changed -/
theorem Stt.slfAt {i : Nat} {f : Str} {ks : List (Str × D)} {A : Addr} {fs : List (Str × FV)} (S : Stt K C B F W ts n env σ H) (he : env[i]? = some (.slf A fs)) (hn : (fs.map (·.1)).Nodup) (hf : fs.lookup f = some (.own ks)) :
    ∃ dx fvs b kvs, σ[i]? = some (some (.ref A)) ∧ H A = some (.ins C dx fvs) ∧ fvs.lookup f = some (.ref b) ∧ H b = some (.dK kvs) ∧ RepK K C F kvs ks ∧
      ∀ kvs' ks', RepK K C F kvs' ks' → Stt K C B F W ts n (env.set i (.slf A (setFV fs f (.own ks')))) σ (upd H b (.dK kvs')) := by
  have sl := S.slots i _ he
  generalize hx : σ[i]? = o at sl
  cases sl with
  | @slf _ dx fvs _ as w w2 g g2 q =>
    obtain ⟨b, kvs, h1, h2, h3, h4, h5, h6⟩ := q.atK hn hf
    refine ⟨dx, fvs, b, kvs, rfl, g, h1, h4, h5, fun kvs' ks' rk => S.change h3 ?_⟩
    rw [hx]
    have hab : A ≠ b := fun z => by subst z; rw [g] at h4; cases h4
    have hdb : dx ≠ b := fun z => by subst z; rw [g2] at h4; cases h4
    exact .slf w w2 ((upd_ne hab).trans g) ((upd_ne hdb).trans g2) (h6 kvs' ks' rk)
/-- the object is data from now on -/
theorem Stt.frzS {i : Nat} {A : Addr} {fs : List (Str × FV)} (S : Stt K C B F W ts n env σ H) (he : env[i]? = some (.slf A fs)) : ∃ F' W', σ[i]? = some (some (.ref A)) ∧ Stt K C B F' W' ((.ref A, .dat (.obj (fs.map fun p => (p.1, p.2.d)))) :: ts) n (env.set i (.dat (.obj (fs.map fun p => (p.1, p.2.d))))) σ H := by
  have hi := (List.getElem?_eq_some_iff.mp he).1
  have s := S.slots i _ he
  generalize hx : σ[i]? = x at s
  cases s with
  | @slf _ dx fvs _ as w w2 g g2 q =>
    have fi : ∀ b, W b = some (.sl i) → Stt.Fi W F H i b = H b := fun b h => by unfold Stt.Fi; rw [if_pos h]
    have fo : ∀ b, W b ≠ some (.sl i) → Stt.Fi W F H i b = F b := fun b h => by unfold Stt.Fi; rw [if_neg h]
    have eF : Ex F (Stt.Fi W F H i) := fun b o h => by
      rw [fo b fun z => by rw [(S.own b _ z).1] at h; cases h]
      exact h
    have l : LeR K F (Stt.Fi W F H i) := LeR.of eF
    let W' : Addr → Option Tg := fun b => if W b = some (.sl i) then none else W b
    have wn : ∀ b t, W b = some t → t ≠ .sl i → W' b = some t := fun b t hb ht => by
      show (if W b = some (.sl i) then none else W b) = _
      rw [if_neg (fun z => ht (Option.some.inj (hb.symm.trans z)))]; exact hb
    have wo : ∀ b t, W' b = some t → W b = some t ∧ t ≠ .sl i := fun b t hb => by
      have hb : (if W b = some (.sl i) then none else W b) = some t := hb
      by_cases z : W b = some (.sl i)
      · rw [if_pos z] at hb; cases hb
      · rw [if_neg z] at hb; exact ⟨hb, fun y => z (by rw [hb, y])⟩
    have rep : Rep K C (Stt.Fi W F H i) (.ref A) (.obj (fs.map fun p => (p.1, p.2.d))) := .obj ((fi _ w).trans g) (q.obj l fun b o h1 h2 => (fi b h1).trans h2)
    refine ⟨Stt.Fi W F H i, W', rfl, S.ex1.trans eF, fun b o h => ?_, S.base, fun b o h => ?_, fun b t hb => ?_, fun hp => ?_, by simpa using S.len, fun j sl hj => ?_, ⟨.dat rep, ?_⟩⟩
    · by_cases z : W b = some (.sl i)
      · rw [fi b z] at h; exact h
      · rw [fo b z] at h; exact S.ex2 b o h
    · by_cases z : W b = some (.sl i)
      · exact .inr (S.own b _ z).2.1
      · rw [fo b z] at h; exact S.new b o h
    · obtain ⟨h1, h2⟩ := wo b t hb
      obtain ⟨h3, h4⟩ := S.own b t h1
      exact ⟨by rw [fo b fun z => h2 (Option.some.inj (h1.symm.trans z))]; exact h3, h4⟩
    · obtain ⟨h1, ⟨u, h2⟩, h3⟩ := S.pool hp
      refine ⟨?_, ⟨u, h2⟩, h3⟩
      rw [fo B.p fun z => by rw [(S.own _ _ z).2.1] at h2; cases h2]
      exact h1
    · by_cases e : i = j
      · subst e
        rw [List.getElem?_set_self hi] at hj
        cases hj
        rw [hx]
        exact .dat rep
      · rw [List.getElem?_set_ne e] at hj
        exact (S.slots j sl hj).mono l (fun _ _ _ h => h) fun b hb => wn b _ hb fun z => by cases z; exact e rfl
    · exact TsOk.mono l (fun _ _ _ _ _ h => h) (fun b j _ hb => wn b _ hb fun z => by cases z) S.temps
end
/-! ## K19 -/
section
variable {X : Cx} {pos : Pos}
/-- e.f = .. -/
def gFld (K : PySem.W.Frag) (to : TE) (f : Str) : TG := fun v σ H Q => to σ H fun x H1 => ∃ a C dx fs, x = .ref a ∧ H1 a = some (.ins C dx fs) ∧ Cls K C ∧ NoAttr K C f ∧ fs.length < 1000 ∧ Q σ (upd H1 a (.ins C dx (putF f v fs)))
theorem pg_fld {o : Expr} {f : Str} {to : TE} (ho : PE X o to)
    (ha : ∀ v, assign (.Attribute o f pos) X.env v = (do
      let ov ← holding [v] (eval o X.env)
      standAt pos.atName
      holding [v, ov] (setAttr ov f v)
      release [v, ov] []) := by intro _; rfl) : PG X (.Attribute o f pos) (gFld X.K to f) := by
  refine ⟨fun pins s σ H v u Q I r h => ?_⟩
  rw [ha]
  refine wpAny_bind (wpAny_holding (thn (ho.run pins s σ H _ I h) fun ov s1 ⟨x, H1, I1, r1, a, C, dx, fs, ex, ea, c, n, l, q1⟩ => ?_))
  subst ex
  obtain rfl : ov = Value.ref a := r1
  refine wpAny_bind (wpAny_standAt (wpAny_bind (wpAny_holding (setattr_ok I1 ea c n l r fun s3 I3 => ?_))))
  exact wpAny_release ⟨σ, _, I3, q1⟩
end
section
variable {K : PySem.W.Frag} {C : Addr} {F H : Hp} {W : Addr → Option Tg} {B : Bs} {us ts : List (V × TD)} {n : Nat} {env : En} {σ : St}
theorem TsOk.map {W W' : Addr → Option Tg} : ∀ {ts : List (V × TD)}, (∀ b j, j < ts.length → W b = some (.tp j) → W' b = some (.tp j)) → TsOk K C F H W B ts → TsOk K C F H W' B ts := fun h x => TsOk.mono LeR.refl (fun _ _ _ _ _ h => h) h x
/-- two temps change places -/
def swapW (W : Addr → Option Tg) (n : Nat) : Addr → Option Tg := fun b => if W b = some (.tp n) then some (.tp (n + 1)) else if W b = some (.tp (n + 1)) then some (.tp n) else W b
theorem swapW_0 {n : Nat} {b : Addr} (h : W b = some (.tp n)) : swapW W n b = some (.tp (n + 1)) := if_pos h
theorem swapW_1 {n : Nat} {b : Addr} (h : W b = some (.tp (n + 1))) : swapW W n b = some (.tp n) := by
  unfold swapW
  rw [if_neg (by rw [h]; intro z; injection z with z; injection z with z; omega), if_pos h]
theorem swapW_o {n : Nat} {b : Addr} {t : Tg} (h : W b = some t) (h0 : t ≠ .tp n) (h1 : t ≠ .tp (n + 1)) : swapW W n b = some t := by
  unfold swapW
  rw [if_neg (by rw [h]; intro z; injection z with z; exact h0 z), if_neg (by rw [h]; intro z; injection z with z; exact h1 z), h]
theorem swapW_some {n : Nat} {b : Addr} {t : Tg} (h : swapW W n b = some t) : ∃ t', W b = some t' := by
  unfold swapW at h
  split at h
  · exact ⟨_, by assumption⟩
  · split at h
    · exact ⟨_, by assumption⟩
    · exact ⟨t, h⟩
theorem TdOk.to0 {v : V} {td : TD} {n : Nat} (h : TdOk K C F H W B n v td) : TdOk K C F H (swapW W n) B (n + 1) v td := by
  cases h with
  | dat r => exact .dat r
  | pool h => exact .pool h
  | fl w h r => exact .fl (swapW_0 w) h r
  | fd w h r => exact .fd (swapW_0 w) h r
theorem TdOk.to1 {v : V} {td : TD} {n : Nat} (h : TdOk K C F H W B (n + 1) v td) : TdOk K C F H (swapW W n) B n v td := by
  cases h with
  | dat r => exact .dat r
  | pool h => exact .pool h
  | fl w h r => exact .fl (swapW_1 w) h r
  | fd w h r => exact .fd (swapW_1 w) h r
theorem TsOk.swap {x y : V × TD} : ∀ {us : List (V × TD)}, TsOk K C F H W B (us ++ x :: y :: ts) → TsOk K C F H (swapW W ts.length) B (us ++ y :: x :: ts)
  | [], ⟨h1, h2, h3⟩ => ⟨h2.to0, h1.to1, TsOk.map (fun b j hj hb => swapW_o hb (by intro z; injection z with z; omega) (by intro z; injection z with z; omega)) h3⟩
  | u :: us, ⟨h1, h2⟩ => by
    refine ⟨?_, TsOk.swap h2⟩
    have hl : (us ++ y :: x :: ts).length = (us ++ x :: y :: ts).length := by simp
    show TdOk K C F H (swapW W ts.length) B (us ++ y :: x :: ts).length u.1 u.2
    rw [hl]
    refine TdOk.mono LeR.refl (fun _ _ _ h => h) (fun b hb => swapW_o hb ?_ ?_) h1
    · intro z
      injection z with z
      have : (us ++ x :: y :: ts).length = us.length + (ts.length + 2) := by simp
      have z : (us ++ x :: y :: ts).length = ts.length := z
      omega
    · intro z
      injection z with z
      have : (us ++ x :: y :: ts).length = us.length + (ts.length + 2) := by simp
      have z : (us ++ x :: y :: ts).length = ts.length + 1 := z
      omega
theorem Stt.swapAt {x y : V × TD} (us : List (V × TD)) (S : Stt K C B F W (us ++ x :: y :: ts) n env σ H) : ∃ W', Stt K C B F W' (us ++ y :: x :: ts) n env σ H := by
  refine ⟨swapW W ts.length, S.ex1, S.ex2, S.base, S.new, fun b t h => ?_, S.pool, S.len, fun j sl h => ?_, S.temps.swap⟩
  · obtain ⟨t', h'⟩ := swapW_some h
    exact S.own b t' h'
  · exact (S.slots j sl h).mono LeR.refl (fun _ _ _ h => h) fun b hb => swapW_o hb (fun z => nomatch z) (fun z => nomatch z)
end
section
variable {X : Cx} {C : Addr} {k : Nat} {N Vn Ln Gn : List Str} {n : Nat} {env : En} {Q : QE} {QG : QN} {QR' : QR} {x f : Str} {p p2 pos apos cpos : Pos} {a b c e : Expr} {es : List Expr} {E : EnD} {d : D}
theorem EvG.imp {tg : Expr} {td : TD} {Q1 Q2 : QN} (h : EvG X C tg td n env Q1) (hq : ∀ n env, Q1 n env → Q2 n env) : EvG X C tg td n env Q2 := fun B ts v σ H R S r => h B ts v σ H R S fun n' env' σ' H' q S' => r n' env' σ' H' (hq _ _ q) S'
theorem egs_consG {ds : List D} (h : EvG X C e (.dat d) n env fun n1 env1 => EvGs X C es ds n1 env1 QG) (hs : (assignEach (e :: es) X.env).map (·.2) = assign e X.env :: (assignEach es X.env).map (·.2) := by rfl) : EvGs X C (e :: es) (d :: ds) n env QG :=
  egs_cons (fun _ _ hq _ _ g => EvG.imp g hq) h hs
/-- self.f = data, self.f = a new dict -/
theorem eg_slfD {i : Nat} {A : Addr} {fs : List (Str × FV)} (hX : XOk X k N Vn Ln Gn) (hc : Cls X.K C) (hna : NoAttr X.K C f) (hl : Lk N env x i (.slf A fs)) (hv : x ∈ Vn) (hf : f ∉ fs.map (·.1)) (hz : fs.length < 1000) (q : QG n (env.set i (.slf A (fs ++ [(f, .dat d)]))))
    (ha : ∀ v, assign (.Attribute (.Name x p) f pos) X.env v = (do
      let ov ← holding [v] (eval (.Name x p) X.env)
      standAt pos.atName
      holding [v, ov] (setAttr ov f v)
      release [v, ov] []) := by intro _; rfl) : EvG X C (.Attribute (.Name x p) f pos) (.dat d) n env QG := fun B ts v σ H R S r => by
  obtain ⟨h1, h2⟩ := hl.ix
  obtain ⟨v1, v2, v3⟩ := hX.vis x hv
  obtain ⟨F, W, S⟩ := S
  obtain ⟨dx, fvs, e1, e2, e3, S'⟩ := S.slfD h2 hf
  refine of_pg (pg_fld (pe_var (hX.get h1) v1 v2 v3) ha) ⟨.ref A, e1, A, C, dx, fvs, rfl, e2, hc, hna, ?_, r n _ σ _ q ⟨F, W, S'⟩⟩
  have := congrArg List.length e3
  rw [List.length_map, List.length_map] at this
  omega
theorem eg_slfK {i : Nat} {ks : List (Str × D)} {A : Addr} {fs : List (Str × FV)} (hX : XOk X k N Vn Ln Gn) (hc : Cls X.K C) (hna : NoAttr X.K C f) (hl : Lk N env x i (.slf A fs)) (hv : x ∈ Vn) (hf : f ∉ fs.map (·.1)) (hz : fs.length < 1000) (q : QG n (env.set i (.slf A (fs ++ [(f, .own ks)]))))
    (ha : ∀ v, assign (.Attribute (.Name x p) f pos) X.env v = (do
      let ov ← holding [v] (eval (.Name x p) X.env)
      standAt pos.atName
      holding [v, ov] (setAttr ov f v)
      release [v, ov] []) := by intro _; rfl) : EvG X C (.Attribute (.Name x p) f pos) (.fd ks) n env QG := fun B ts v σ H R S r => by
  obtain ⟨h1, h2⟩ := hl.ix
  obtain ⟨v1, v2, v3⟩ := hX.vis x hv
  obtain ⟨F, W, S⟩ := S
  obtain ⟨dx, fvs, W', e1, e2, e3, S'⟩ := S.slfK h2 hf
  refine of_pg (pg_fld (pe_var (hX.get h1) v1 v2 v3) ha) ⟨.ref A, e1, A, C, dx, fvs, rfl, e2, hc, hna, ?_, r n _ σ _ q ⟨F, W', S'⟩⟩
  have := congrArg List.length e3
  rw [List.length_map, List.length_map] at this
  omega
/-- self.f[z] = data -/
theorem eg_slfPut {i iz : Nat} {z s : Str} {pz : Pos} {ks : List (Str × D)} {A : Addr} {fs : List (Str × FV)} (hX : XOk X k N Vn Ln Gn) (hc : Cls X.K C) (hna : NoAttr X.K C f) (hl : Lk N env x i (.slf A fs)) (hv : x ∈ Vn) (hz : Lk N env z iz (.dat (.str s))) (hzv : z ∈ Vn) (hn : (fs.map (·.1)).Nodup) (hf : fs.lookup f = some (.own ks)) (hk : ks.length < 100000)
    (hq : QG n (env.set i (.slf A (setFV fs f (.own (putD ks s d))))))
    (hb : attributeBase (.Name x p) f X.env (eval (.Name x p) X.env) = eval (.Name x p) X.env := by rfl)
    (ha : ∀ v, assign (.Subscript (.Attribute (.Name x p) f p2) (.Name z pz) pos) X.env v = (do
      let ov ← holding [v] (eval (.Attribute (.Name x p) f p2) X.env)
      let iv ← holding [v, ov] (eval (.Name z pz) X.env)
      standAt pos
      holding [v, ov, iv] (setItem ov iv v)
      release [v, ov, iv] []) := by intro _; rfl) : EvG X C (.Subscript (.Attribute (.Name x p) f p2) (.Name z pz) pos) (.dat d) n env QG := fun B ts v σ H R S q => by
  obtain ⟨h1, h2⟩ := hl.ix
  obtain ⟨v1, v2, v3⟩ := hX.vis x hv
  obtain ⟨z1, z2⟩ := hz.ix
  obtain ⟨y1, y2, y3⟩ := hX.vis z hzv
  refine of_pg (pg_sub (pe_fld (pe_var (hX.get h1) v1 v2 v3) hb) (pe_var (hX.get z1) y1 y2 y3) (set_dict hX.hu) ha) ?_
  obtain ⟨F, W, S⟩ := S
  have sz := S.slots iz _ z2
  generalize hxz : σ[iz]? = oz at sz
  cases sz with
  | @dat vz _ rz =>
    cases rz
    have t := S.temps.1
    cases t with
    | dat rv =>
      obtain ⟨dx, fvs, b, kvs, e1, e2, e3, e4, e5, e6⟩ := S.pop.slfAt h2 hn hf
      refine ⟨.ref A, e1, A, C, dx, fvs, .ref b, rfl, e2, hc, hna, e3, .str s, hxz, b, _, rfl, .inl ⟨kvs, .inr s, e4, rfl, Nat.lt_of_lt_of_le (by rw [e5.length]; exact hk) (by decide), rfl⟩, ?_⟩
      exact q n _ σ _ hq ⟨F, W, e6 _ _ (e5.put rv)⟩
/-- self.f[z] -/
theorem ev_slfIx {i iz : Nat} {z s : Str} {pz : Pos} {ks : List (Str × D)} {A : Addr} {fs : List (Str × FV)} (hX : XOk X k N Vn Ln Gn) (hc : Cls X.K C) (hna : NoAttr X.K C f) (hl : Lk N env x i (.slf A fs)) (hv : x ∈ Vn) (hz : Lk N env z iz (.dat (.str s))) (hzv : z ∈ Vn) (hn : (fs.map (·.1)).Nodup) (hf : fs.lookup f = some (.own ks)) (hg : getK s ks = some d)
    (hq : Q d n env) (hb : attributeBase (.Name x p) f X.env (eval (.Name x p) X.env) = eval (.Name x p) X.env := by rfl) (hs : PlainIx (.Name z pz) := by intro _ _; rfl) : Ev X C (.Subscript (.Attribute (.Name x p) f p2) (.Name z pz) pos) n env Q := fun B ts σ H R S q => by
  obtain ⟨h1, h2⟩ := hl.ix
  obtain ⟨v1, v2, v3⟩ := hX.vis x hv
  obtain ⟨z1, z2⟩ := hz.ix
  obtain ⟨y1, y2, y3⟩ := hX.vis z hzv
  refine of_pe (pe_ix (ix_dict hX.hu) (pe_fld (pe_var (hX.get h1) v1 v2 v3) hb) (pe_var (hX.get z1) y1 y2 y3) hs) ?_
  obtain ⟨F, W, S⟩ := S
  have sz := S.slots iz _ z2
  generalize hxz : σ[iz]? = oz at sz
  cases sz with
  | @dat vz _ rz =>
    cases rz
    obtain ⟨dx, fvs, b, kvs, e1, e2, e3, e4, e5, e6⟩ := S.slfAt h2 hn hf
    rcases e5.get s with ⟨w1, w2⟩ | ⟨d', v, w1, w2, w3⟩
    · rw [hg] at w1; cases w1
    · rw [hg] at w1
      cases w1
      refine ⟨.ref A, e1, A, C, dx, fvs, .ref b, rfl, e2, hc, hna, e3, .str s, hxz, b, v, rfl, .inl ⟨kvs, .inr s, .inl e4, rfl, w2.symm⟩, ?_⟩
      exact q v H _ n env hq ⟨F, W, S.push w3⟩
/-- self.f.get(z, int) -/
theorem ev_slfGet {i iz : Nat} {z s : Str} {pz pj : Pos} {jj : Nat} {v0 : Int} {ks : List (Str × D)} {A : Addr} {fs : List (Str × FV)} (hX : XOk X k N Vn Ln Gn) (hc : Cls X.K C) (hna : NoAttr X.K C f) (hl : Lk N env x i (.slf A fs)) (hv : x ∈ Vn) (hz : Lk N env z iz (.dat (.str s))) (hzv : z ∈ Vn) (hn : (fs.map (·.1)).Nodup) (hf : fs.lookup f = some (.own ks))
    (m : M2 X (.Attribute (.Name x p) f p2) "get" apos (.Name z pz) (.Constant (.int v0) jj pj) cpos) (hq : Q ((getK s ks).getD (.int v0)) n env)
    (hb : attributeBase (.Name x p) f X.env (eval (.Name x p) X.env) = eval (.Name x p) X.env := by rfl) : Ev X C (.Call (.Attribute (.Attribute (.Name x p) f p2) "get" apos) [.Name z pz, .Constant (.int v0) jj pj] [] cpos) n env Q := fun B ts σ H R S q => by
  obtain ⟨h1, h2⟩ := hl.ix
  obtain ⟨v1, v2, v3⟩ := hX.vis x hv
  obtain ⟨z1, z2⟩ := hz.ix
  obtain ⟨y1, y2, y3⟩ := hX.vis z hzv
  refine of_pe (pe_dget2 hX.hu (pe_fld (pe_var (hX.get h1) v1 v2 v3) hb) (pe_var (hX.get z1) y1 y2 y3) pe_int m) ?_
  obtain ⟨F, W, S⟩ := S
  have sz := S.slots iz _ z2
  generalize hxz : σ[iz]? = oz at sz
  cases sz with
  | @dat vz _ rz =>
    cases rz
    obtain ⟨dx, fvs, b, kvs, e1, e2, e3, e4, e5, e6⟩ := S.slfAt h2 hn hf
    refine ⟨.ref A, e1, A, C, dx, fvs, .ref b, rfl, e2, hc, hna, e3, b, rfl, .inl ⟨kvs, .inl e4⟩, .str s, hxz, valV kvs (.inr s), .inl ⟨kvs, .inr s, .inl e4, rfl, rfl⟩, ?_⟩
    rcases e5.get s with ⟨w1, w2⟩ | ⟨d', v, w1, w2, w3⟩
    · rw [w2]
      rw [w1] at hq
      exact q (.int v0) H _ n env hq ⟨F, W, S.push (.int v0)⟩
    · rw [w2]
      rw [w1] at hq
      exact q v H _ n env hq ⟨F, W, S.push w3⟩
/-- a dict in a field that is data: to be walked -/
theorem da_slf {i : Nat} {ks : List (Str × D)} {A : Addr} {fs : List (Str × FV)} (hX : XOk X k N Vn Ln Gn) (hc : Cls X.K C) (hna : NoAttr X.K C f) (hl : Lk N env x i (.slf A fs)) (hv : x ∈ Vn) (hf : fs.lookup f = some (.dat (.dct ks)))
    (hb : attributeBase (.Name x p) f X.env (eval (.Name x p) X.env) = eval (.Name x p) X.env := by rfl) : DAt X C (.Attribute (.Name x p) f pos) env ks := fun B F W ts n σ H S => by
  obtain ⟨h1, h2⟩ := hl.ix
  obtain ⟨v1, v2, v3⟩ := hX.vis x hv
  have s := S.slots i _ h2
  generalize hx : σ[i]? = o at s
  cases s with
  | @slf _ dx fvs _ as w w2 g g2 r =>
    obtain ⟨v, e1, rv⟩ := r.atD hf
    cases rv with
    | @dct b kvs _ g3 g4 =>
      refine ⟨b, kvs, g3, g4, fun F1 H1 Q l e2 hw q => ?_⟩
      exact of_pe (pe_fld (pe_var (hX.get h1) v1 v2 v3) hb) ⟨.ref A, hx, A, C, dx, fvs, .ref b, rfl, (hw A _ w).trans g, hc, hna, e1, q⟩
/-- t1, t2, t3 = three new dicts -/
theorem st_par3F {t1 t2 t3 : Expr} {k1 k2 k3 : List (Str × D)} {pt pt2 : Pos} {kt kk : Nat} (hX : XOk X k N Vn Ln Gn)
    (h : EvR X C a n env fun td1 n1 env1 => td1 = .fd k1 ∧ EvR X C b n1 env1 fun td2 n2 env2 => td2 = .fd k2 ∧ EvR X C c n2 env2 fun td3 n3 env3 => td3 = .fd k3 ∧ EvG X C t1 (.fd k1) n3 env3 fun n4 env4 => EvG X C t2 (.fd k2) n4 env4 fun n5 env5 => EvG X C t3 (.fd k3) n5 env5 E.nx)
    (hw : swappedStores [.Tuple [t1, t2, t3] kt pt] (.Tuple [a, b, c] kk pt2) X.env = pure none := by rfl)
    (hs : swapsWithSole [.Tuple [t1, t2, t3] kt pt] (.Tuple [a, b, c] kk pt2) pos.line X.env = pure false := by rfl)
    (hs1 : starEach [a, b, c] X.env = (false, eval a X.env) :: starEach [b, c] X.env := by rfl) (hs2 : starEach [b, c] X.env = (false, eval b X.env) :: starEach [c] X.env := by rfl) (hs3 : starEach [c] X.env = (false, eval c X.env) :: starEach [] X.env := by rfl)
    (hh : (assignEach [.Tuple [t1, t2, t3] kt pt] X.env).map (·.2) = [assign (.Tuple [t1, t2, t3] kt pt) X.env] := by rfl)
    (ht1 : (assignEach [t1, t2, t3] X.env).map (·.2) = assign t1 X.env :: (assignEach [t2, t3] X.env).map (·.2) := by rfl) (ht2 : (assignEach [t2, t3] X.env).map (·.2) = assign t2 X.env :: (assignEach [t3] X.env).map (·.2) := by rfl) (ht3 : (assignEach [t3] X.env).map (·.2) = assign t3 X.env :: (assignEach [] X.env).map (·.2) := by rfl)
    (hn : (assignEach [t1, t2, t3] X.env).length = 3 := by rfl) (hst : (assignEach [t1, t2, t3] X.env).findIdx? (·.1) = none := by rfl) :
    StS X C (.Assign [.Tuple [t1, t2, t3] kt pt] (.Tuple [a, b, c] kk pt2) pos) n env E := fun B ts σ H Z S q1 _ _ _ => by
  refine of_ps (ps_asg (pe_tup (pa_cons pe_t (pa_cons pe_t (pa_cons pe_t pa_nil hs3) hs2) hs1)) (pg_tup (n := 3) hX.calm (pgs_cons pg_t (pgs_cons pg_t (pgs_cons pg_t pgs_nil ht3) ht2) ht1) hn hst) hs hw hh) ?_
  refine h B ts σ H _ S fun v1 H1 td1 n1 env1 ⟨ed1, h2⟩ S1 => h2 B _ σ H1 _ S1 fun v2 H2 td2 n2 env2 ⟨ed2, h3⟩ S2 => h3 B _ σ H2 _ S2 fun v3 H3 td3 n3 env3 ⟨ed3, g1⟩ S3 => ?_
  subst ed1 ed2 ed3
  refine ⟨by show 3 ≤ _; decide, fun p hp => ⟨p, [v1, v2, v3], rfl, SqT.of upd_same, rfl, v1, [v2, v3], rfl, ?_⟩⟩
  obtain ⟨F, W, S3⟩ := S3
  have S4 := S3.fresh (o := .tup [v1, v2, v3]) hp
  -- [3, 2, 1] to [1, 2, 3]
  obtain ⟨W1, S5⟩ := S4.swapAt []
  obtain ⟨W2, S6⟩ := Stt.swapAt [(v2, .fd k2)] S5
  obtain ⟨W3, S7⟩ := Stt.swapAt [] S6
  refine g1 B _ v1 σ _ _ ⟨_, W3, S7⟩ fun n4 env4 σ4 H4 g2 S8 => ⟨v2, [v3], rfl, ?_⟩
  refine g2 B _ v2 σ4 H4 _ S8 fun n5 env5 σ5 H5 g3 S9 => ⟨v3, [], rfl, ?_⟩
  exact g3 B ts v3 σ5 H5 _ S9 fun n6 env6 σ6 H6 q S10 => ⟨rfl, q1 n6 env6 σ6 H6 q S10⟩
end
/-! ## K20 -/
section
variable {P : Program} {w : World} {K : PySem.W.Frag} {mg : Str → Option Value} {base : Heap} {C : Addr}
/-- what __init__ promises: of a new object x it makes the data d -/
def spI (K : PySem.W.Frag) (C : Addr) (R : List D → Nat → (D → Nat → Prop) → Prop) : Sp := fun vs H Q _ => ∃ (B : Bs) (n : Nat) (x dx : Addr) (vs' : List V) (ds : List D), B.pl = false ∧ vs = .ref x :: vs' ∧ B.H x = none ∧ B.H dx = none ∧ dx ≠ x ∧ H = upd (upd B.H dx (.own x)) x (.ins C dx []) ∧
  Ex B.F B.H ∧ Reps K C B.F vs' ds ∧ R ds n fun d n' => ∀ H', Sta K C B [(.ref x, .dat d)] n' [] [] H' → Q .non H'
structure FnK (P : Program) (w : World) (K : PySem.W.Frag) (mg : Str → Option Value) (base : Heap) (C : Addr) (x : Str) (k : Nat) (R : List D → Nat → (D → Nat → Prop) → Prop) : Prop where
  ex : ∃ (f : Addr) (fd : FuncData) (ps : List Str) (CX : CXT), mg x = some (.ref C) ∧ L2.Mk K C f ∧ Binds K fd ps [] ∧ FnOk P w K mg base CX k f fd ps (spI K C R) ∧ ∀ X : Cx, X.prog = P → X.w = w → Passes CX X E0
  mono : ∀ ds n (p q : D → Nat → Prop), (∀ d m, p d m → q d m) → R ds n p → R ds n q
theorem sta_startI {B : Bs} {n : Nat} {x dx : Addr} {vs' : List V} {ds : List D} {N ps : List Str} (hpl : B.pl = false) (hx : B.H x = none) (hdx : B.H dx = none) (hne : dx ≠ x) (hex : Ex B.F B.H) (hr : Reps K C B.F vs' ds) (hlen : (V.ref x :: vs').length = ps.length) (hN : ps.length ≤ N.length) :
    Sta K C B [] n (.slf x [] :: (ds.map .dat ++ List.replicate (N.length - ps.length) .no)) (L2.start N (.ref x :: vs')) (upd (upd B.H dx (.own x)) x (.ins C dx [])) := by
  have hl := hr.length
  have fx : B.F x = none := by
    cases e : B.F x with
    | none => rfl
    | some o => rw [hex x o e] at hx; cases hx
  have fdx : B.F dx = none := by
    cases e : B.F dx with
    | none => rfl
    | some o => rw [hex dx o e] at hdx; cases hdx
  let W : Addr → Option Tg := fun b => if b = x ∨ b = dx then some (.sl 0) else none
  have up : ∀ b o, B.H b = some o → upd (upd B.H dx (.own x)) x (.ins C dx []) b = some o := fun b o h => by
    rw [upd_ne (fun z => by rw [z, hx] at h; cases h), upd_ne (fun z => by rw [z, hdx] at h; cases h)]; exact h
  have ws : ∀ b t, W b = some t → b = x ∨ b = dx := fun b t h => by
    have h : (if b = x ∨ b = dx then some (Tg.sl 0) else none) = some t := h
    split at h
    · assumption
    · cases h
  refine ⟨B.F, W, Ex.refl _, fun b o h => up b o (hex b o h), fun a o h _ => up a o h, fun a o h => .inl h, fun a i h => ?_, (fun hp => by rw [hpl] at hp; cases hp), ?_, fun i sl h => ?_, trivial⟩
  · rcases ws a i h with rfl | rfl
    · exact ⟨fx, hx, _, upd_same⟩
    · exact ⟨fdx, hdx, _, (upd_ne hne).trans upd_same⟩
  · unfold L2.start
    rw [List.length_append, List.length_map, List.length_replicate, List.length_cons, List.length_cons, List.length_append, List.length_map, List.length_replicate, ← hlen, List.length_cons]
    omega
  · cases i with
    | zero =>
      cases h
      refine .slf (a := x) (dx := dx) (fvs := []) (as := []) (if_pos (.inl rfl)) (if_pos (.inr rfl)) upd_same ((upd_ne hne).trans upd_same) .nil
    | succ i =>
      have h : (ds.map Sl.dat ++ List.replicate (N.length - ps.length) Sl.no)[i]? = some sl := h
      have e0 : (L2.start N (V.ref x :: vs'))[i + 1]? = ((vs'.map some) ++ List.replicate (N.length - (V.ref x :: vs').length) none)[i]? := by
        unfold L2.start
        rfl
      rw [e0]
      by_cases hi : i < ds.length
      · rw [List.getElem?_append_left (by simpa using hi), List.getElem?_map] at h
        rw [List.getElem?_append_left (by rw [List.length_map]; omega), List.getElem?_map]
        cases hd : ds[i]? with
        | none => rw [hd] at h; cases h
        | some d =>
          rw [hd] at h
          cases h
          obtain ⟨v, hv, rv⟩ := hr.get hd
          rw [hv]
          exact .dat rv
      · rw [List.getElem?_append_right (by simpa using hi)] at h
        have := List.mem_of_getElem? h
        rw [(List.mem_replicate.mp this).2]
        exact .no _
theorem fnK_of2 (no : En) {x qual : Str} {st : Stmt} {f : Addr} {fd : FuncData} {N ps : List Str} {k : Nat} {R : List D → Nat → (D → Nat → Prop) → Prop} (Vn Gn Cn : List Str) (F : Fun K "__init__" qual st f fd) (hm : mg x = some (.ref C)) (M : L2.Mk K C f) (S : FnScope N ps (defScope st)) (hb : Binds K fd ps [])
    (hsc : defB Vn Gn Cn (defScope st) = true) (mono : ∀ ds n (p q : D → Nat → Prop), (∀ d m, p d m → q d m) → R ds n p → R ds n q) (len : ∀ ds n p, R ds n p → ds.length + 1 = ps.length) (hN0 : 0 < N.length)
    (body : ∀ X : Cx, X.prog = P → X.w = w → X.K = K → X.mg = mg → X.base = base → X.env.scope = defScope st → XOk X k N Vn Vn Gn → XCap X Cn → ∀ (A : Addr) ds n (p : D → Nat → Prop), R ds n p →
      StB X C (defBody st) n (.slf A [] :: (ds.map .dat ++ no)) { nx := fun n env => ∃ fs, env[0]? = some (.slf A fs) ∧ p (.obj (fs.map fun q => (q.1, q.2.d))) n, rt := fun _ _ => False }) (hno : List.replicate (N.length - ps.length) Sl.no = no := by rfl) : FnK P w K mg base C x (k + 1) R := by
  subst hno
  have lenV : ∀ vs H Q E, spI K C R vs H Q E → vs.length = ps.length := by
    rintro vs H Q E ⟨B, n, x, dx, vs', ds, h1, h2, h3, h4, h5, h6, h7, h8, h9⟩
    rw [← len ds n _ h9, h2, List.length_cons, h8.length]
  have hN : ps.length ≤ N.length := by
    have := congrArg List.length S.pre
    rw [List.length_take] at this
    omega
  refine ⟨⟨f, fd, ps, CX0, hm, M, hb, F.ok S lenV (fun cdv A outer s H vs Q E hr h => ?_), fun X _ _ => pass0⟩, mono⟩
  have lv := lenV _ _ _ _ h
  obtain ⟨B, n, x, dx, vs', ds, h1, h2, h3, h4, h5, h6, h7, h8, h9⟩ := h
  subst h2
  subst h6
  refine ⟨_, pss_t, ?_⟩
  obtain ⟨x1, x2⟩ := xok_def2 (X := (cxOf CX0 P w K mg base N qual (defScope st) f cdv A outer s (upd (upd B.H dx (.own x)) x (.ins C dx [])) E).nox) (k := k) (N := N) (Vn := Vn) (Gn := Gn) (Cn := Cn) hsc rfl S.nd (fun _ => rfl) rfl hr PassesOwn.never
  refine body _ rfl rfl rfl rfl rfl rfl x1 x2 x ds n _ h9 B [] _ _ _ (sta_startI h1 h3 h4 h5 h7 h8 lv hN) (fun n' env' σ' H' q S' => ?_) (fun d n' v H' q S' => q.elim) (fun _ _ _ _ q _ => q.elim) (fun _ _ _ _ q _ => q.elim)
  obtain ⟨fs, he, q⟩ := q
  obtain ⟨F', W', S'⟩ := S'
  obtain ⟨F2, W2, _, S2⟩ := S'.frzS he
  exact q H' (Sta.ret (ts := []) ⟨F2, W2, S2⟩)
end
section
variable {X : Cx} {C : Addr} {k : Nat} {N Vn Ln Gn Cn : List Str} {n : Nat} {env : En} {Q : QE} {x : Str} {p pos : Pos} {e : Expr} {es : List Expr}
/-- C(e, ..) -/
theorem ev_make {k0 : Nat} {R : List D → Nat → (D → Nat → Prop) → Prop} (hf : FnK X.prog X.w X.K X.mg X.base C x k0 R) (hX : XOk X k N Vn Ln Gn) (hk : k0 + 1 ≤ k) (hg : x ∈ Gn)
    (ha : EvA X C (e :: es) n env fun tds n' env' => ∃ ds, tds = ds.map .dat ∧ R ds n' fun d _ => Q d n' env')
    (he : starEach (e :: es) X.env = (false, eval e X.env) :: starEach es X.env := by rfl) (hpl : (backTo pos (starEach es X.env)).any (·.1) = false := by rfl) : Ev X C (.Call (.Name x p) (e :: es) [] pos) n env Q := fun B ts σ H R' S q => by
  obtain ⟨f, fd, ps, CX, hm, M, hb, F, hx⟩ := hf.ex
  refine of_pe (pe_make (dvs := []) M F (hX.room.mono hk) (hX.gl x hg).1 hm hb .nil (hx X rfl rfl) pa_t (hX.gl x hg).2.1 he hpl) ?_
  refine ha B ts σ H _ S fun vs H1 tds n1 env1 ⟨ds, hd, hR⟩ hl S1 => ?_
  subst hd
  obtain ⟨F1, W1, S1⟩ := S1
  obtain ⟨r, S1⟩ := S1.unstk (by simpa using hl)
  intro x0 dx hx0 hdx hne
  show spI X.K C R (.ref x0 :: (vs ++ [])) _ (fun v H2 => v = .non ∧ R' (.ref x0) H2) E0
  rw [List.append_nil]
  refine ⟨⟨F1, H1, 0, false⟩, n1, x0, dx, vs, ds, rfl, rfl, hx0, hdx, hne, rfl, S1.ex2, r, hf.mono _ _ _ _ (fun d m hq H' Z => ⟨rfl, ?_⟩) hR⟩
  obtain ⟨F2, W2, Z⟩ := Z
  have t := Z.temps.1
  cases t with
  | dat rp => exact q (.ref x0) H' d n1 env1 hq ⟨F2, W1, (S1.grow Z.ex1 Z.ex2 (fun a o h => Z.base a o h fun z => nomatch z) Z.new).push rp⟩
end
/-! ## F20 -/
section
variable {P : Program} {w : World} {K : PySem.W.Frag} {mg : Str → Option Value} {base : Heap} {C : Addr}
/-! ### Jobs.__init__ -/
abbrev sInit : Stmt := clsB 19 0
theorem scInit : FnScope ["self", "jobs", "met", "job", "priority", "distance", "body", "path", "thing", "begin", "end"] ["self", "jobs"] (defScope sInit) := ⟨rfl, rfl, rfl, by decide +kernel, rfl, by decide +kernel, by decide +kernel⟩
def RInit : List D → Nat → (D → Nat → Prop) → Prop := fun ds n p => ∃ (js : List Jb) (hs : List (Str × D)), ds = [.dct hs] ∧ OkJs js ∧ (hs.map (·.1)).Perm (js.map (·.nm)) ∧ (∀ q ∈ hs, HJ q.2 (jF js q.1)) ∧ ∀ (ms : List Jb) (kz : List (Str × D)), js.Perm ms → (∀ x, getK x kz = oI (ceilO ms x)) → p (objD ms kz) n
/-- what stands in the object when i jobs are done -/
abbrev slfI (ms : List Jb) (i : Nat) (kz : List (Str × D)) : List (Str × FV) := [("kept_jobs", .dat (jobsD ms)), ("kept_spans", .own ((ms.take i).map fun j => (j.nm, .lst ((spJ j).map spnD)))), ("kept_costs", .own ((ms.take i).map fun j => (j.nm, .int (csB j.bd : Nat)))), ("kept_ceilings", .own kz)]
theorem setFV_sp {a b c d v : FV} : setFV ([("kept_jobs", a), ("kept_spans", b), ("kept_costs", c), ("kept_ceilings", d)] : List (Str × FV)) "kept_spans" v = ([("kept_jobs", a), ("kept_spans", v), ("kept_costs", c), ("kept_ceilings", d)] : List (Str × FV)) := by
  unfold setFV
  rw [List.map_cons, List.map_cons, List.map_cons, List.map_cons, List.map_nil, if_neg (show ¬("kept_jobs" : Str) = "kept_spans" by decide +kernel), if_pos rfl, if_neg (show ¬("kept_costs" : Str) = "kept_spans" by decide +kernel), if_neg (show ¬("kept_ceilings" : Str) = "kept_spans" by decide +kernel)]
theorem setFV_co {a b c d v : FV} : setFV ([("kept_jobs", a), ("kept_spans", b), ("kept_costs", c), ("kept_ceilings", d)] : List (Str × FV)) "kept_costs" v = ([("kept_jobs", a), ("kept_spans", b), ("kept_costs", v), ("kept_ceilings", d)] : List (Str × FV)) := by
  unfold setFV
  rw [List.map_cons, List.map_cons, List.map_cons, List.map_cons, List.map_nil, if_neg (show ¬("kept_jobs" : Str) = "kept_costs" by decide +kernel), if_neg (show ¬("kept_spans" : Str) = "kept_costs" by decide +kernel), if_pos rfl, if_neg (show ¬("kept_ceilings" : Str) = "kept_costs" by decide +kernel)]
theorem setFV_ce {a b c d v : FV} : setFV ([("kept_jobs", a), ("kept_spans", b), ("kept_costs", c), ("kept_ceilings", d)] : List (Str × FV)) "kept_ceilings" v = ([("kept_jobs", a), ("kept_spans", b), ("kept_costs", c), ("kept_ceilings", v)] : List (Str × FV)) := by
  unfold setFV
  rw [List.map_cons, List.map_cons, List.map_cons, List.map_cons, List.map_nil, if_neg (show ¬("kept_jobs" : Str) = "kept_ceilings" by decide +kernel), if_neg (show ¬("kept_spans" : Str) = "kept_ceilings" by decide +kernel), if_neg (show ¬("kept_costs" : Str) = "kept_ceilings" by decide +kernel), if_pos rfl]
theorem ok_init {f : Addr} {fd : FuncData} (F : Fun K "__init__" "Jobs.__init__" sInit f fd) (hm : mg "Jobs" = some (.ref C)) (M : L2.Mk K C f) (hb : Binds K fd ["self", "jobs"] []) (hc : Cls K C) (a1 : NoAttr K C "kept_jobs") (a2 : NoAttr K C "kept_spans") (a3 : NoAttr K C "kept_costs") (a4 : NoAttr K C "kept_ceilings") (m1 : mg "isinstance" = none) (m2 : mg "dict" = none) (m3 : mg "len" = none) (m4 : mg "sorted" = none) (m5 : mg "max" = none)
    (f1 : FnD P w K mg base C "is_word" 1 false RWord) (f2 : FnD P w K mg base C "is_job" 6 false RIsJob) (f3 : FnD P w K mg base C "body_kept" 5 false (RKept 2)) (f4 : FnD P w K mg base C "spans_of" 5 false (RSpans 2)) : FnK P w K mg base C "Jobs" 7 RInit := by
  refine fnK_of2 (k := 6) [.no, .no, .no, .no, .no, .no, .no, .no, .no] ["self", "jobs", "met", "job", "priority", "distance", "body", "path", "thing", "begin", "end"] ["isinstance", "dict", "len", "is_word", "is_job", "sorted", "spans_of", "max"] ["jobs"] F hm M scInit hb (by decide +kernel) (fun ds n p q h ⟨js, hs, e, z1, z2, z3, z⟩ => ⟨js, hs, e, z1, z2, z3, fun ms kz y1 y2 => h _ _ (z ms kz y1 y2)⟩) (fun ds n p ⟨js, hs, e, _⟩ => by subst e; rfl) (by decide) ?_
  intro X e1 e2 e3 e4 e5 e6 hX hC A ds n p ⟨js, hs, e, hjs, hpm, hhs, hp⟩
  subst e e1 e2 e3 e4 e5
  have hhn : (hs.map (·.1)).Nodup := hpm.nodup_iff.mpr hjs.nn
  have hj4 := hjs.l2
  have hj2 := hjs.l1
  have hhl : hs.length = js.length := by have := hpm.length_eq; rw [List.length_map, List.length_map] at this; exact this
  have hget : ∀ x ∈ js.map (·.nm), ∃ e, (x, e) ∈ hs ∧ getK x hs = some e ∧ HJ e (jF js x) := fun x hx => by
    obtain ⟨q, hq, rfl⟩ := List.mem_map.mp (hpm.mem_iff.mpr hx)
    refine ⟨q.2, hq, ?_, hhs q hq⟩
    have h1 := getK_isSome (t := q.1) (ks := hs)
    rw [decide_eq_true (List.mem_map.mpr ⟨q, hq, rfl⟩)] at h1
    obtain ⟨e, he⟩ := Option.isSome_iff_exists.mp h1
    rw [he]
    congr 1
    have hmem : (q.1, e) ∈ hs := by
      unfold getK at he
      cases hf : hs.find? fun p => decide (p.1 = q.1) with
      | none => rw [hf] at he; cases he
      | some r =>
        rw [hf] at he
        cases he
        have h2 := List.find?_some hf
        have h3 := List.mem_of_find?_eq_some hf
        have : r.1 = q.1 := by simpa using h2
        rw [← this]
        exact h3
    have := map_inj hhn hmem hq rfl
    exact congrArg Prod.snd this
  walk_at "up"
  refine stb_cons ?_
  refine st_if ?_
  refine EvT.imp (Q' := fun kk n1 env1 => kk = false ∧ n1 = n ∧ env1 = [.slf A [], .dat (.dct hs), .no, .no, .no, .no, .no, .no, .no, .no, .no]) ?_ ?_
  · walk_at "go"
    refine n_isi (T := "dict") (b := true) rfl (by decide +kernel) ?_
    walk_at "go"
    refine iteF ?_
    walk_at "go"
    refine ⟨?_, rfl, rfl⟩
    exact decide_eq_false (by omega)
  · rintro kk n1 env1 ⟨rfl, rfl, rfl⟩
    refine iteF ?_
    refine stb_nil ?_
    refine stb_cons ?_
    walk_at "go"
    walk_at "up"
    refine st_forK .keys (ks := hs) hX (da_name (i := 1) hX (by walk_at "lk") (by walk_at "mem")) pk_keys ?_
    refine ⟨fun i n' env' => ∃ (s3 : Sl), env' = [.slf A [], .dat (.dct hs), .lst (((hs.take i).map fun q => ((jF js q.1).pr : Int)).map .int), s3, .no, .no, .no, .no, .no, .no, .no] ∧ n' = n1, ⟨.no, rfl, rfl⟩, ?_, ?_⟩
    · rintro i d n' env' hd ⟨s3, rfl, rfl⟩
      have hd : (hs.map fun p => D.str p.1)[i]? = some d := hd
      rw [List.getElem?_map] at hd
      cases hx : hs[i]? with
      | none => rw [hx] at hd; cases hd
      | some q =>
        rw [hx] at hd
        obtain rfl : D.str q.1 = d := Option.some.inj hd
        have tk : hs.take (i + 1) = hs.take i ++ [q] := take_snoc hx
        have hq := List.mem_of_getElem? hx
        have hi := (List.getElem?_eq_some_iff.mp hx).1
        have hqj : q.1 ∈ js.map (·.nm) := hpm.mem_iff.mp (List.mem_map.mpr ⟨q, hq, rfl⟩)
        obtain ⟨hj, hjx⟩ := jF_mem hjs.nn hqj
        have okj := hjs.ok _ hj
        obtain ⟨e, he1, he2, he3⟩ := hget q.1 hqj
        have hwd : isWordD (.str q.1) = true ∧ q.1.length ≤ 1000 := by
          have := okj.wd
          rw [hjx] at this
          exact (by decide +kernel : ∀ x ∈ words7, isWordD (.str x) = true ∧ x.length ≤ 1000) _ this
        have hnew : ((jF js q.1).pr : Int) ∉ (hs.take i).map fun q => ((jF js q.1).pr : Int) := fun z => by
          obtain ⟨r, hr, er⟩ := List.mem_map.mp z
          have hr2 := List.mem_of_mem_take hr
          obtain ⟨hrj, hrx⟩ := jF_mem hjs.nn (hpm.mem_iff.mp (List.mem_map.mpr ⟨r, hr2, rfl⟩))
          have : jF js r.1 = jF js q.1 := map_inj hjs.pn hrj hj (by show (jF js r.1).pr = (jF js q.1).pr; omega)
          have e1 : r.1 = q.1 := by rw [← hrx, this, hjx]
          have hrq : r = q := map_inj hhn hr2 hq e1
          subst hrq
          have hn2 : hs.Nodup := (List.pairwise_map.mp hhn).imp fun h e => h (congrArg _ e)
          rw [← List.take_append_drop (i + 1) hs, tk, List.append_assoc] at hn2
          exact (List.nodup_append.mp hn2).2.2 r hr r (List.mem_append_left _ (List.mem_singleton.mpr rfl)) rfl
        refine eg_name (i := 3) hX (by walk_at "lk") (by walk_at "mem") ?_
        walk_at "up"
        refine stb_cons ?_
        refine st_if ?_
        refine EvT.imp (Q' := fun kk n2 env2 => kk = false ∧ n2 = n' ∧ env2 = [.slf A [], .dat (.dct hs), .lst (((hs.take i).map fun q => ((jF js q.1).pr : Int)).map .int), .dat (.str q.1), .no, .no, .no, .no, .no, .no, .no]) ?_ ?_
        · refine evt_lookX "met" 2 hX (by walk_at "lk") rfl ?_
          walk_at "up"
          refine evt_of ?_
          refine evw_or ?_
          refine evt_not ?_
          refine evt_val (fun _ => rfl) ?_
          walk_at "go"
          refine ⟨_, rfl, rfl, fun z hz => by cases hz; exact hwd.2, true, by rw [hwd.1], ?_⟩
          rw [if_neg (by decide)]
          refine evw_or1 ?_
          refine evt_not ?_
          refine evt_val (fun _ => rfl) ?_
          walk_at "go"
          refine o_ixK he2 ?_
          walk_at "go"
          refine ⟨e, jF js q.1, _, rfl, he3, okj, hnew, ?_⟩
          exact ⟨_, rfl, rfl, rfl, rfl⟩
        · rintro kk n2 env2 ⟨rfl, rfl, rfl⟩
          refine iteF ?_
          refine stb_nil ?_
          refine stb_one ?_
          refine st_expr ?_
          refine ev_append (i := 2) hX (by walk_at "lk") (by walk_at "mem") ?_
          walk_at "go"
          refine o_ixK he2 ?_
          have hfin : (((hs.take (i + 1)).map fun q => ((jF js q.1).pr : Int)).map D.int) = (((hs.take i).map fun q => ((jF js q.1).pr : Int)).map D.int) ++ [D.int ((jF js q.1).pr : Nat)] := by
            rw [tk, List.map_append, List.map_append]; rfl
          obtain ⟨e2', hee, hb2⟩ := he3
          rcases hee with rfl | rfl
          · walk_at "go"
            refine ⟨_, rfl, by rw [List.length_map, List.length_map, List.length_take]; omega, ?_⟩
            walk_at "up"
            rw [← hfin]
            exact ⟨_, rfl, rfl⟩
          · walk_at "go"
            refine ⟨_, rfl, by rw [List.length_map, List.length_map, List.length_take]; omega, ?_⟩
            walk_at "up"
            rw [← hfin]
            exact ⟨_, rfl, rfl⟩
    · rintro n' env' ⟨s3, rfl, rfl⟩
      refine stb_cons ?_
      refine sts_forget 3 ?_
      walk_at "up"
      refine st_asg ?_ (by generalize X.env = v at e6 ⊢; cases v; cases e6; rfl) (by generalize X.env = v at e6 ⊢; cases v; cases e6; rfl)
      refine evr_of ?_
      refine ev_frz ?_
      refine evr_dcF ["job", "jobs"] ["job"] ["body_kept"] ["jobs"] [("job", 3)] hX hC (by decide +kernel) (by decide +kernel) (fun d => match d with | .str x => x | _ => "") (fun d => match d with | .str x => jobD (jF js x) | d => d) ?_
      refine ei_list ?_
      refine ev_frz (evr_sorted hX m4 (by walk_at "mem") ?_)
      walk_at "go"
      refine f_sortK (by omega) fun ord ho1 ho2 => ?_
      have ho : ord.Perm (js.map (·.nm)) := ho1.trans hpm
      have hon : ord.Nodup := ho.nodup_iff.mpr hjs.nn
      have hol : ord.length = js.length := by rw [ho.length_eq, List.length_map]
      refine ⟨_, rfl, _, rfl, ?_⟩
      refine ⟨by rw [List.length_map]; omega, rfl, fun d hd => ?_, ?_⟩
      · obtain ⟨x, hx, rfl⟩ := List.mem_map.mp hd
        have hxj := ho.mem_iff.mp hx
        obtain ⟨hj, hjx⟩ := jF_mem hjs.nn hxj
        have okj := hjs.ok _ hj
        have hsz := okj.sz
        obtain ⟨e, he1, he2, e2', hee, hb2⟩ := hget x hxj
        intro s H0 Cc cl fp hX' hC'
        refine egv_name (i := 3) hX' (by walk_at "lk") (by walk_at "mem") (by decide) ?_
        refine ⟨rfl, rfl, ?_, ?_, ?_⟩
        · intro s H0 Cc cl fp hX' hC'
          exact ept_nil ⟨rfl, rfl, rfl⟩
        · intro s H0 Cc cl fp hX' hC'
          walk_at "up"
          walk_at "go"
          exact ⟨rfl, rfl, rfl⟩
        · intro s H0 Cc cl fp hX' hC'
          walk_at "up"
          walk_at "go"
          refine o_ixK he2 ?_
          rcases hee with rfl | rfl
          · walk_at "go"
            refine o_ixK he2 ?_
            walk_at "go"
            refine o_ixK he2 ?_
            walk_at "go"
            refine ⟨e2', (jF js x).bd, rfl, hb2, ⟨_, _, okj.wf⟩, wfB_dp _ okj.wf, by omega, ?_⟩
            walk_at "go"
            exact ⟨rfl, rfl, rfl⟩
          · walk_at "go"
            refine o_ixK he2 ?_
            walk_at "go"
            refine o_ixK he2 ?_
            walk_at "go"
            refine ⟨e2', (jF js x).bd, rfl, hb2, ⟨_, _, okj.wf⟩, wfB_dp _ okj.wf, by omega, ?_⟩
            walk_at "go"
            exact ⟨rfl, rfl, rfl⟩
      · refine ⟨_, rfl, ?_⟩
        obtain ⟨ms, hms⟩ : ∃ ms, ms = ord.map (jF js) := ⟨_, rfl⟩
        have hmp : js.Perm ms := by
          have h1 : (js.map (·.nm)).map (jF js) = js := by
            rw [List.map_map]
            conv => rhs; rw [← List.map_id js]
            apply List.map_congr_left
            intro j hj
            exact jF_eq hjs.nn hj
          rw [hms]
          have h2 := ho.map (jF js)
          rw [h1] at h2
          exact h2.symm
        have okm := okJs_perm hmp hjs
        have hml : ms.length ≤ 4 := okm.l2
        have em : ((ord.map D.str).map fun d => ((match d with | .str x => x | _ => "" : Str), (match d with | .str x => jobD (jF js x) | d => d))) = ms.map jkv := by
          rw [hms, List.map_map, List.map_map]
          apply List.map_congr_left
          intro x hx
          show (x, jobD (jF js x)) = ((jF js x).nm, jobD (jF js x))
          rw [(jF_mem hjs.nn (ho.mem_iff.mp hx)).2]
        rw [em, mergeD_nil (by rw [keys_jobs]; exact okm.nn)]
        refine eg_slfD (i := 0) hX hc a1 (by walk_at "lk") (by walk_at "mem") (by show _ ∉ ([] : List Str); simp) (by show 0 < 1000; decide) ?_
        walk_at "up"
        refine stb_cons ?_
        refine st_par3F (k1 := []) (k2 := []) (k3 := []) hX ?_ (by generalize X.env = v at e6 ⊢; cases v; cases e6; rfl) (by generalize X.env = v at e6 ⊢; cases v; cases e6; rfl)
        refine evr_dict0 ⟨rfl, evr_dict0 ⟨rfl, evr_dict0 ⟨rfl, ?_⟩⟩⟩
        refine eg_slfK (i := 0) hX hc a2 (by walk_at "lk") (by walk_at "mem") (by show ("kept_spans" : Str) ∉ (["kept_jobs"] : List Str); decide +kernel) (by show 1 < 1000; decide) ?_
        walk_at "up"
        refine eg_slfK (i := 0) hX hc a3 (by walk_at "lk") (by walk_at "mem") (by show ("kept_costs" : Str) ∉ (["kept_jobs", "kept_spans"] : List Str); decide +kernel) (by show 2 < 1000; decide) ?_
        walk_at "up"
        refine eg_slfK (i := 0) hX hc a4 (by walk_at "lk") (by walk_at "mem") (by show ("kept_ceilings" : Str) ∉ (["kept_jobs", "kept_spans", "kept_costs"] : List Str); decide +kernel) (by show 3 < 1000; decide) ?_
        walk_at "up"
        refine stb_one ?_
        refine st_forK .items (ks := ms.map jkv) hX (da_slf (i := 0) hX hc a1 (by walk_at "lk") (by walk_at "mem") rfl) pk_items ?_
        refine ⟨fun i n2 env2 => ∃ (kz : List (Str × D)) (s2 s3 s4 s5 s6 s7 s8 s9 s10 : Sl), env2 = [.slf A (slfI ms i kz), .dat (.dct hs), s2, s3, s4, s5, s6, s7, s8, s9, s10] ∧ n2 = n' ∧ (∀ x, getK x kz = oI (ceilO (ms.take i) x)) ∧ kz.length ≤ 40 * i, ⟨[], _, _, _, _, _, _, _, _, _, rfl, rfl, fun x => rfl, Nat.zero_le _⟩, ?_, ?_⟩
        · rintro i d n2 env2 hd ⟨kz, s2, s3, s4, s5, s6, s7, s8, s9, s10, rfl, rfl, hkz, hkl⟩
          have hd : ((ms.map jkv).map fun p => D.tup [.str p.1, p.2])[i]? = some d := hd
          rw [List.map_map, List.getElem?_map] at hd
          cases hx : ms[i]? with
          | none => rw [hx] at hd; cases hd
          | some j =>
            rw [hx] at hd
            obtain rfl : D.tup [.str j.nm, jobD j] = d := Option.some.inj hd
            have tk : ms.take (i + 1) = ms.take i ++ [j] := take_snoc hx
            have hj := List.mem_of_getElem? hx
            have hi := (List.getElem?_eq_some_iff.mp hx).1
            have okj := okm.ok j hj
            have hsz := okj.sz
            have hjn : j.nm ∉ (ms.take i).map (·.nm) := fun z => by
              have hn2 := okm.nn
              rw [← List.take_append_drop (i + 1) ms, tk, List.append_assoc, List.map_append] at hn2
              exact (List.nodup_append.mp hn2).2.2 j.nm z j.nm (by simp) rfl
            have hil : (ms.take i).length ≤ 4 := by rw [List.length_take]; omega
            refine eg_tup hX ?_
            refine egs_name (i := 3) hX (by walk_at "lk") (by walk_at "mem") ?_
            refine egs_consG ?_
            refine eg_tup hX ?_
            refine egs_name (i := 4) hX (by walk_at "lk") (by walk_at "mem") ?_
            refine egs_name (i := 5) hX (by walk_at "lk") (by walk_at "mem") ?_
            refine egs_name (i := 6) hX (by walk_at "lk") (by walk_at "mem") ?_
            refine egs_nil ?_
            refine egs_nil ?_
            walk_at "up"
            refine stb_cons ?_
            refine st_asg ?_ (by generalize X.env = v at e6 ⊢; cases v; cases e6; rfl) (by generalize X.env = v at e6 ⊢; cases v; cases e6; rfl)
            refine evr_of ?_
            walk_at "go"
            refine ⟨j.bd, [], 0, rfl, ⟨_, _, okj.wf⟩, wfB_dp _ okj.wf, by omega, by decide, ?_⟩
            refine eg_tup hX ?_
            refine egs_consG ?_
            refine eg_slfPut (i := 0) (iz := 3) (s := j.nm) (ks := (ms.take i).map fun j => (j.nm, D.lst ((spJ j).map spnD))) hX hc a2 (by walk_at "lk") (by walk_at "mem") (by walk_at "lk") (by walk_at "mem") (by show (["kept_jobs", "kept_spans", "kept_costs", "kept_ceilings"] : List Str).Nodup; decide +kernel) rfl (by rw [List.length_map]; omega) ?_
            have ep1 : putD ((ms.take i).map fun j => (j.nm, D.lst ((spJ j).map spnD))) j.nm (.lst ((spB j.bd [] 0 0).map spnD)) = (ms.take (i + 1)).map fun j => (j.nm, D.lst ((spJ j).map spnD)) := by
              rw [putD_new (by rw [List.map_map]; exact hjn), tk, List.map_append]; rfl
            rw [ep1, setFV_sp]
            walk_at "up"
            refine egs_consG ?_
            refine eg_slfPut (i := 0) (iz := 3) (s := j.nm) (ks := (ms.take i).map fun j => (j.nm, D.int (csB j.bd : Nat))) hX hc a3 (by walk_at "lk") (by walk_at "mem") (by walk_at "lk") (by walk_at "mem") (by show (["kept_jobs", "kept_spans", "kept_costs", "kept_ceilings"] : List Str).Nodup; decide +kernel) rfl (by rw [List.length_map]; omega) ?_
            have ep2 : putD ((ms.take i).map fun j => (j.nm, D.int (csB j.bd : Nat))) j.nm (.int ((0 + csB j.bd : Nat) : Int)) = (ms.take (i + 1)).map fun j => (j.nm, D.int (csB j.bd : Nat)) := by
              rw [putD_new (by rw [List.map_map]; exact hjn), tk, List.map_append, Nat.zero_add]; rfl
            rw [ep2, setFV_co]
            walk_at "up"
            refine egs_nil ?_
            refine stb_one ?_
            refine st_for hX ?_
            refine ei_list ?_
            have hgs : getK j.nm ((ms.take (i + 1)).map fun j => (j.nm, D.lst ((spJ j).map spnD))) = some (.lst ((spJ j).map spnD)) :=
              getK_of (f := fun j => .lst ((spJ j).map spnD)) ((okm.nn).sublist ((List.take_sublist _ _).map _)) (by rw [tk]; simp)
            refine ev_slfIx (i := 0) (iz := 3) (s := j.nm) hX hc a2 (by walk_at "lk") (by walk_at "mem") (by walk_at "lk") (by walk_at "mem") (by show (["kept_jobs", "kept_spans", "kept_costs", "kept_ceilings"] : List Str).Nodup; decide +kernel) rfl hgs ?_
            refine ⟨_, rfl, ?_⟩
            have hspl : (spJ j).length ≤ 33 := Nat.le_trans (spB_len j.bd [] 0 0) hsz
            refine ⟨fun q n3 env3 => ∃ (kw : List (Str × D)) (t7 t8 t9 t10 : Sl), env3 = [.slf A (slfI ms (i + 1) kw), .dat (.dct hs), s2, .dat (.str j.nm), .dat (.int (j.pr : Nat)), .dat (.int (j.ds : Nat)), .dat (.tup (bdD j.bd)), t7, t8, t9, t10] ∧ n3 = n2 ∧ (∀ x, getK x kw = if x ∈ ((spJ j).take q).map (·.th) then some (.int (max j.pr ((ceilO (ms.take i) x).getD 0) : Nat)) else oI (ceilO (ms.take i) x)) ∧ kw.length ≤ 40 * i + q, ⟨kz, s7, s8, s9, s10, rfl, rfl, fun x => by rw [hkz]; rfl, hkl⟩, ?_, ?_⟩
            · rintro q d3 n3 env3 hd3 ⟨kw, t7, t8, t9, t10, rfl, rfl, hkw, hkwl⟩
              rw [List.getElem?_map] at hd3
              cases hx3 : (spJ j)[q]? with
              | none => rw [hx3] at hd3; cases hd3
              | some sp =>
                rw [hx3] at hd3
                obtain rfl : spnD sp = d3 := Option.some.inj hd3
                have tk3 : (spJ j).take (q + 1) = (spJ j).take q ++ [sp] := take_snoc hx3
                have hq := (List.getElem?_eq_some_iff.mp hx3).1
                refine eg_tup hX ?_
                refine egs_name (i := 7) hX (by walk_at "lk") (by walk_at "mem") ?_
                refine egs_name (i := 8) hX (by walk_at "lk") (by walk_at "mem") ?_
                refine egs_name (i := 9) hX (by walk_at "lk") (by walk_at "mem") ?_
                refine egs_name (i := 10) hX (by walk_at "lk") (by walk_at "mem") ?_
                refine egs_nil ?_
                walk_at "up"
                refine stb_one ?_
                refine st_asg ?_ (by generalize X.env = v at e6 ⊢; cases v; cases e6; rfl) (by generalize X.env = v at e6 ⊢; cases v; cases e6; rfl)
                refine evr_of ?_
                refine ev_max hX m5 (by walk_at "mem") rfl rfl ?_
                refine ea_cons ?_
                refine ev_var hX (by walk_at "lk") (by walk_at "mem") ?_
                refine ea_cons ?_
                refine ev_slfGet (i := 0) (iz := 8) (s := sp.th) (ks := kw) hX hc a4 (by walk_at "lk") (by walk_at "mem") (by walk_at "lk") (by walk_at "mem") (by show (["kept_jobs", "kept_spans", "kept_costs", "kept_ceilings"] : List Str).Nodup; decide +kernel) rfl ⟨rfl, rfl, rfl, rfl⟩ ?_
                have hval : (getK sp.th kw).getD (.int 0) = .int ((if sp.th ∈ ((spJ j).take q).map (·.th) then max j.pr ((ceilO (ms.take i) sp.th).getD 0) else (ceilO (ms.take i) sp.th).getD 0 : Nat) : Int) := by
                  rw [hkw]
                  split
                  · rfl
                  · cases ceilO (ms.take i) sp.th <;> rfl
                rw [hval]
                walk_at "go"
                have hmx : max ((j.pr : Nat) : Int) ((if sp.th ∈ ((spJ j).take q).map (·.th) then max j.pr ((ceilO (ms.take i) sp.th).getD 0) else (ceilO (ms.take i) sp.th).getD 0 : Nat) : Int) = ((max j.pr ((ceilO (ms.take i) sp.th).getD 0) : Nat) : Int) := by
                  split <;> omega
                rw [hmx]
                refine eg_slfPut (i := 0) (iz := 8) (s := sp.th) (ks := kw) hX hc a4 (by walk_at "lk") (by walk_at "mem") (by walk_at "lk") (by walk_at "mem") (by show (["kept_jobs", "kept_spans", "kept_costs", "kept_ceilings"] : List Str).Nodup; decide +kernel) rfl (by omega) ?_
                rw [setFV_ce]
                walk_at "up"
                refine ⟨_, _, _, _, _, rfl, rfl, fun x => ?_, Nat.le_trans (length_putD _ _ _) (by omega)⟩
                rw [getK_put, hkw, tk3, List.map_append]
                by_cases e : x = sp.th
                · subst e
                  rw [if_pos rfl, if_pos (by simp)]
                · rw [if_neg e]
                  by_cases h1 : x ∈ ((spJ j).take q).map (·.th)
                  · rw [if_pos h1, if_pos (List.mem_append_left _ h1)]
                  · rw [if_neg h1, if_neg (fun z => by
                      rcases List.mem_append.mp z with z | z
                      · exact h1 z
                      · exact e (by simpa using z))]
            · rintro n3 env3 ⟨kw, t7, t8, t9, t10, rfl, rfl, hkw, hkwl⟩
              have hl3 : ((spJ j).map spnD).length = (spJ j).length := List.length_map _
              rw [hl3] at hkw hkwl
              rw [List.take_length] at hkw
              refine ⟨kw, _, _, _, _, _, _, _, _, _, rfl, rfl, fun x => ?_, by omega⟩
              rw [hkw, tk, ceilO_snoc]
              have hth : x ∈ (spJ j).map (·.th) ↔ x ∈ thB j.bd := by
                rw [List.mem_map]
                exact spB_th j.bd [] 0 0 x
              by_cases h1 : x ∈ thB j.bd
              · rw [if_pos h1, if_pos (hth.mpr h1)]; rfl
              · rw [if_neg h1, if_neg (fun z => h1 (hth.mp z))]
        · rintro n2 env2 ⟨kz, s2, s3, s4, s5, s6, s7, s8, s9, s10, rfl, rfl, hkz, hkl⟩
          have hit : (itemsK .items (ms.map jkv)).length = ms.length := by show (List.map _ (List.map _ ms)).length = _; rw [List.length_map, List.length_map]
          rw [hit, List.take_length] at hkz
          rw [hit]
          refine ⟨slfI ms ms.length kz, rfl, ?_⟩
          have := hp ms kz hmp hkz
          show p (.obj [("kept_jobs", _), ("kept_spans", .dct ((ms.take ms.length).map fun j => (j.nm, .lst ((spJ j).map spnD)))), ("kept_costs", .dct ((ms.take ms.length).map fun j => (j.nm, .int (csB j.bd : Nat)))), ("kept_ceilings", .dct kz)]) _
          rw [List.take_length]
          exact this
end
/-! ## F21 -/
theorem okH_job {j : Jb} (h : OkJ j) : okH 6 (jobD j) = true := by
  have hb := bdD_sz j.bd
  have hs := h.sz
  have hd := wfB_dp _ h.wf
  show (([D.int (j.pr : Nat), .int (j.ds : Nat), .tup (bdD j.bd)].all (okH 5)) && _) = true
  rw [List.all_cons, List.all_cons, List.all_cons]
  show ((true && (true && (((bdD j.bd).all (okH 4) && decide ((bdD j.bd).length ≤ 1000)) && true))) && true) = true
  rw [okH_body j.bd (by omega) (by omega) (by omega), decide_eq_true (by omega)]
  rfl
theorem cstH_job {j : Jb} (h : OkJ j) : cstH 6 (jobD j) ≤ 68 := by
  have hs := h.sz
  have := cstH_body j.bd (m := 4)
  show 1 + (0 + (0 + ((1 + ((bdD j.bd).map (cstH 4)).sum) + 0))) ≤ 68
  omega
theorem HJ_of {j : Jb} {e : D} (h : Hn (jobD j) e) : HJ e j := by
  have go : ∀ {l : List D}, Hns [.int (j.pr : Nat), .int (j.ds : Nat), .tup (bdD j.bd)] l → ∃ e2, l = [.int (j.pr : Nat), .int (j.ds : Nat), e2] ∧ HB (HP j.bd) e2 := by
    intro l h
    cases h with
    | cons a1 q1 =>
      cases a1
      cases q1 with
      | cons a2 q2 =>
        cases a2
        cases q2 with
        | @cons _ e2 _ _ a3 q3 =>
          cases q3
          refine ⟨e2, rfl, ?_⟩
          cases a3 with
          | lst z => exact ⟨_, .inl rfl, Hns_body _ z⟩
          | tup z => exact ⟨_, .inr rfl, Hns_body _ z⟩
  cases h with
  | lst z => obtain ⟨e2, rfl, h2⟩ := go z; exact ⟨e2, .inl rfl, h2⟩
  | tup z => obtain ⟨e2, rfl, h2⟩ := go z; exact ⟨e2, .inr rfl, h2⟩
section
variable {P : Program} {w : World} {K : PySem.W.Frag} {mg : Str → Option Value} {base : Heap} {C : Addr}
/-! ### _law_made -/
abbrev sMade : Stmt := topS 36
theorem scMade : FnScope ["_law_pool_here", "_law_jobs_here", "_law_job"] ["_law_pool_here", "_law_jobs_here"] (defScope sMade) := ⟨rfl, rfl, rfl, by decide +kernel, rfl, by decide +kernel, by decide +kernel⟩
def RMade : List D → Nat → (D → Nat → Prop) → Prop := fun ds n p => ∃ (js : List Jb), ds = [jobsD js] ∧ OkJs js ∧ 300 ≤ n ∧ ∀ (ms : List Jb) (kz : List (Str × D)) n', js.Perm ms → (∀ x, getK x kz = oI (ceilO ms x)) → n ≤ n' + 300 → p (objD ms kz) n'
theorem ok_made {f : Addr} {fd : FuncData} (F : Fun K "_law_made" "_law_made" sMade f fd) (hm : mg "_law_made" = some (.ref f)) (hb : Binds K fd ["_law_pool_here", "_law_jobs_here"] []) (m1 : mg "dict" = none) (m2 : mg "sorted" = none) (f1 : FnD P w K mg base C "_law_mixed" 2 true RMixed) (f2 : FnD P w K mg base C "_law_handed" 8 true (RHd 6)) (f3 : FnK P w K mg base C "Jobs" 7 RInit) : FnD P w K mg base C "_law_made" 9 true RMade := by
  refine fnD_of2 (k := 8) [.no] ["_law_pool_here", "_law_jobs_here"] ["Jobs", "dict", "_law_mixed", "sorted"] ["_law_pool_here", "_law_jobs_here"] F hm scMade hb (by decide +kernel) (fun ds n p q h ⟨js, e, z1, z2, z⟩ => ⟨js, e, z1, z2, fun ms kz n' a b c => h _ _ (z ms kz n' a b c)⟩) (fun ds n p ⟨js, e, _⟩ => by subst e; rfl) ?_
  intro X e1 e2 e3 e4 e5 e6 hX hC ds n p ⟨js, e, hjs, hn, hp⟩
  subst e e1 e2 e3 e4 e5
  have hj4 := hjs.l2
  have hgj : ∀ x ∈ js.map (·.nm), getK x (js.map jkv) = some (jobD (jF js x)) := fun x hx => by
    obtain ⟨hj, hjx⟩ := jF_mem hjs.nn hx
    have := getK_jobs hjs.nn hj; rw [hjx] at this; exact this
  walk_at "up"
  refine stb_one ?_
  refine st_ret ?_
  refine ev_make f3 hX (by omega) (by walk_at "mem") ?_
  refine ea_cons ?_
  refine ev_frz ?_
  refine evr_dict1 hX m1 (by walk_at "mem") ?_
  refine evr_lc ["_law_pool_here", "_law_jobs_here", "_law_job"] ["_law_job"] ["_law_handed"] ["_law_pool_here", "_law_jobs_here"] [("_law_job", 2)] hX hC (by decide +kernel) (by decide +kernel) ?_
  refine ei_list ?_
  refine ev_callP f1 hX (by omega) (by walk_at "mem") ?_
  walk_at "go"
  refine ev_frz (evr_sorted hX m2 (by walk_at "mem") ?_)
  walk_at "go"
  refine f_sortK (by rw [List.length_map]; omega) fun ord ho1 ho2 => ?_
  rw [keys_jobs] at ho1
  have hol : ord.length = js.length := by rw [ho1.length_eq, List.length_map]
  refine ⟨_, rfl, ?_⟩
  walk_at "go"
  refine ⟨ord.map .str, rfl, ?_, by rw [List.length_map]; omega, by rw [List.length_map]; omega, fun ys hys => ?_⟩
  · rw [List.all_eq_true]
    intro d hd
    obtain ⟨y, hy, rfl⟩ := List.mem_map.mp hd
    exact nm_okT hjs (ho1.mem_iff.mp hy)
  obtain ⟨ws, hws, hpm⟩ := perm_map_inv hys ord rfl
  subst hws
  have hwp : ws.Perm (js.map (·.nm)) := hpm.trans ho1
  have hwl : ws.length = js.length := by rw [hwp.length_eq, List.length_map]
  refine ⟨_, rfl, ?_⟩
  rw [List.length_map, hol]
  refine ⟨fun i acc n' env' => (∃ hs : List (Str × D), acc = hs.map pairD ∧ hs.map (·.1) = ws.take i ∧ ∀ q ∈ hs, HJ q.2 (jF js q.1)) ∧ n - js.length ≤ n' + 68 * i ∧ env' = [.pool, .dat (jobsD js), .no], ⟨⟨[], rfl, rfl, fun _ h => nomatch h⟩, by omega, rfl⟩, ?_, ?_⟩
  · rintro i d acc n' env' hd ⟨⟨hs, rfl, hh1, hh2⟩, hn', rfl⟩
    rw [List.getElem?_map] at hd
    cases hx : ws[i]? with
    | none => rw [hx] at hd; cases hd
    | some x =>
      rw [hx] at hd
      cases hd
      have tk : ws.take (i + 1) = ws.take i ++ [x] := take_snoc hx
      have hxj := hwp.mem_iff.mp (List.mem_of_getElem? hx)
      have hi := (List.getElem?_eq_some_iff.mp hx).1
      have okj := hjs.ok _ (jF_mem hjs.nn hxj).1
      have hcs := cstH_job okj
      intro s H0 Cc cl fp hX' hC'
      walk_at "up"
      refine egv_name (i := 2) hX' (by walk_at "lk") (by walk_at "mem") (by decide) ?_
      intro s H0 Cc cl fp hX' hC'
      refine ept_nil ?_
      refine iteT ?_
      intro s H0 Cc cl fp hX' hC'
      walk_at "up"
      walk_at "go"
      refine o_ixK (hgj x hxj) ?_
      walk_at "go"
      refine ⟨_, rfl, okH_job okj, by omega, fun e he => ?_⟩
      walk_at "go"
      have hh0 := congrArg List.length hh1
      rw [List.length_map, List.length_take] at hh0
      refine ⟨by rw [List.length_map]; omega, ⟨hs ++ [(x, e)], by rw [List.map_append]; rfl, by rw [List.map_append, hh1, tk]; rfl, fun q hq => ?_⟩, by omega, rfl⟩
      rcases List.mem_append.mp hq with hq | hq
      · exact hh2 q hq
      · obtain rfl := List.mem_singleton.mp hq
        exact HJ_of he
  · rintro acc n' env' ⟨⟨hs, rfl, hh1, hh2⟩, hn', rfl⟩
    rw [List.length_map] at hh1 hn'
    rw [List.take_length] at hh1
    refine ⟨rfl, hs, rfl, ?_⟩
    rw [mergeD_nil (by rw [hh1]; exact hwp.nodup_iff.mpr hjs.nn)]
    refine ⟨_, rfl, ?_⟩
    refine ea_nil ?_
    refine ⟨_, rfl, js, hs, rfl, hjs, by rw [hh1]; exact hwp, hh2, fun ms kz h1 h2 => ?_⟩
    exact hp ms kz _ h1 h2 (by omega)
end
/-! ## K21 -/
/-! ### several except clauses that bind the error to one name -/
section
open PySem.HandSPX
/-- what the clauses wish, one behind the other; no error is left over -/
def wAsM (K : PySem.W.Frag) (i : Nat) (D : Ends) : List (Value × (Addr → Value → Option Addr → TS)) → WX
  | [] => fun _ _ _ _ => False
  | p :: more => fun cls d σ H => ∃ b, PySem.W.exmOne K cls p.1 = some b ∧
      (b = true → ∀ a, H a = none → p.2 a cls d { nx := fun σ1 H1 => D.nx (σ1.set i none) H1, rt := D.rt, bk := fun σ1 H1 => D.bk (σ1.set i none) H1, ct := fun σ1 H1 => D.ct (σ1.set i none) H1 } (σ.set i (some (.ref a))) H) ∧
      (b = false → wAsM K i D more cls d σ H)
/-- each clause keeps what is told of it -/
inductive AsOk (X : Cx) (nm : Str) : List ExceptHandler → List (Value × (Addr → Value → Option Addr → TS)) → Prop
  | nil : AsOk X nm [] []
  | cons {x : Str} {c : Value} {ts : Addr → Value → Option Addr → TS} {st : Stmt} {sts : List Stmt} {p1 p2 : Pos} {hds : List ExceptHandler} {l : List (Value × (Addr → Value → Option Addr → TS))} (hc : Names X x c)
      (run : ∀ (a : Addr) (oe : Obj) (cls : Value) (d : Option Addr) (pn : List (Addr × Obj)), Zc cls d oe → (∃ vs, oe.data = .fields vs) → PSs (X.suite a ((a, oe) :: pn)) (st :: sts) (ts a cls d)) (more : AsOk X nm hds l) :
      AsOk X nm (.ExceptHandler (some (.Name x p1)) (some nm) (st :: sts) p2 :: hds) ((c, ts) :: l)
variable {X : Cx} {nm : Str} {i : Nat} {body : List Stmt} {hd : ExceptHandler} {hds : List ExceptHandler} {l : List (Value × (Addr → Value → Option Addr → TS))} {pos : Pos} {tb : WX → TS}
/-- the clauses, one behind the other, with the error in hand -/
theorem as_go {pins : List (Addr × Obj)} {s : Shared} {σ : L2.St} {H : Hp} {D : Ends} {a : Addr} {cls : Value} {d : Option Addr} {B : Heap} (ok : X.Ok) (hN : X.N.Nodup) (hi : X.N[i]? = some nm) (hln : X.env.kindOf nm = some .local) (na : H a = none) (nL : a ≠ X.env.locals) (nF : a ∉ X.fs)
    (fl : FlyingZ B (X.env :: X.outer) a (Zc cls d) s.heap) (J : ∀ h', B.StaysIn h' → s.heap.UpToSlots h' → Inv X pins σ H { s with heap := h' }) :
    ∀ {hds : List ExceptHandler} {l : List (Value × (Addr → Value → Option Addr → TS))}, AsOk X nm hds l → wAsM X.K i D l cls d σ H → wpAny (model X.prog X.w) X.A (handleBy (.ref a) X.env hds) (SP X pins D) X.xe s := by
  intro hds l A
  have hloc : Loc X.env.scope nm := .inl hln
  induction A with
  | nil => intro w; exact w.elim
  | @cons x c ts st sts p1 p2 hds2 l2 hc run more ih =>
    rintro ⟨b, e1, yes, no⟩
    obtain ⟨oe, vs, ge, ze, de⟩ := fl.there
    have J0 : Inv X pins σ H s := J s.heap fl.1 (fun b o e _ => ⟨o.slots, e⟩)
    have S0 := J0.suite ge de na nL nF
    refine wpAny_handleBy_cons (codeAny_handlers_test ?_) (by intro q; cases q)
    have looks : PySem.W.Looks (model X.prog X.w) s.heap (typeOf (.ref a)) cls := fun A Q E s1 k q => wpAny_typeOf_ref (k _ _ ge) (by rw [ze.1]; exact q)
    have LM := PySem.W.exm_one (M := model X.prog X.w) J0.kIn looks e1
    have named : ∀ {Q : Value → Shared → Prop} {E : Value → Shared → Prop}, Q c s → wpAny (model X.prog X.w) (X.A.mark (some (.ref a))) (eval (.Name x p1) X.env) Q E s := fun {Q E} q => by
      obtain ⟨g1, g2, g3⟩ := hc
      rcases g3 with g3 | ⟨g3, g4, g5⟩
      · exact ld_glob (X := X.suite a ((a, oe) :: (X.pn ++ pins))) S0 g1 g3 q g2
      · exact ld_blt (X := X.suite a ((a, oe) :: (X.pn ++ pins))) S0 g1 g3 g4 q g5 g2
    refine named (LM.here ?_)
    cases b with
    | false =>
      show wpAny _ X.A (handleBy (.ref a) X.env hds2) _ _ _
      exact ih (no rfl)
    | true =>
      refine codeAny_handlers_suite_as ?_
      refine lands_againZ fl fun h4 fl4 up4 => ?_
      have J4 : Inv X pins σ H { s with heap := h4 } := J h4 fl4.1 up4
      obtain ⟨oe4, vs4, ge4, ze4, de4⟩ := fl4.there
      have S4 := J4.suite ge4 de4 na nL nF
      refine store_ok (X := X.suite a ((a, oe4) :: (X.pn ++ pins))) (v := .ref a) S4 hN hi hloc rfl (fun s5 S5 => ?_) (.inr hln)
      refine wpAny_mono ((run a oe4 cls d (X.pn ++ pins) ze4 ⟨_, de4⟩).run [] s5 _ H _ S5 (yes rfl a na)) (fun f s6 hsp => ?_) (fun _ _ z => z.elim)
      have over : ∀ {σ6 : L2.St} {H6 : Hp} {Q : Shared → Prop}, Inv (X.suite a ((a, oe4) :: (X.pn ++ pins))) [] σ6 H6 s6 → (∀ s7, Inv X pins (σ6.set i none) H6 s7 → Q s7) →
          wpAny (model X.prog X.w) X.A (do bindName X.env nm .none; unbindBehindTheSuite X.env nm p2) (fun _ s7 => Q s7) X.xe s6 := fun {σ6 H6 Q} S6 hq => gone_ok (S6.unsuite ok) hN hi hln hq
      cases f with
      | next => obtain ⟨σ6, H6, S6, q6⟩ := hsp; exact over S6 fun s7 J7 => ⟨_, _, J7, q6⟩
      | brk => obtain ⟨σ6, H6, S6, q6⟩ := hsp; exact over S6 fun s7 J7 => ⟨_, _, J7, q6⟩
      | cont => obtain ⟨σ6, H6, S6, q6⟩ := hsp; exact over S6 fun s7 J7 => ⟨_, _, J7, q6⟩
      | ret u => obtain ⟨v6, σ6, H6, S6, r6, q6⟩ := hsp; exact over S6 fun s7 J7 => ⟨_, _, _, J7, r6, q6⟩
theorem ps_try_asM (hs : X.stack = X.env :: X.outer) (hf : X.env.frame = some X.env.locals) (hN : X.N.Nodup) (hi : X.N[i]? = some nm) (hln : X.env.kindOf nm = some .local)
    (hb : ∀ (W : WX) (pn : List (Addr × Obj)) (xe : Value → Shared → Prop), Takes (X.tr pn xe) W → PassesOwn (model X.prog X.w) X.A X.env xe → PSs (X.tr pn xe) body (tb W))
    (hh : AsOk X nm (hd :: hds) l) : PS X (.Try body (hd :: hds) [] [] pos) (fun D σ H => tb (wAsM X.K i D l) D σ H) := by
  refine ⟨fun pins s σ H D I h => ?_⟩
  have ok := I.ok
  have hfr : X.A.frames = some (X.env :: X.outer) := by rw [ok.frames, hs]
  refine wpAny_Try_except ?_
  refine wpAny_mono ((hb (wAsM X.K i D l) (X.pn ++ pins) (fun e s₁ => wpAny (model X.prog X.w) X.A (noteFrame e X.env) (fun _ s₂ => wpAny (model X.prog X.w) X.A (setFlight e none) (fun _ s₃ =>
    wpAny (model X.prog X.w) X.A (handleBy e X.env (hd :: hds)) (SP X pins D) X.xe s₃) X.xe s₂) X.xe s₁) (fun u s' out => ?_) PassesOwn.looking).run [] s σ H D (I.toTry _) h) (fun f s1 hsp => ?_) (fun e s1 he => he)
  · obtain ⟨a, B, sI, pins', σ1, H1, cls, d, rfl, J', nb, up, sky, na, os, ag, w⟩ := out
    have J : Inv X pins σ1 H1 sI := J'.ofTry ok
    have sky : Sky B (X.env :: X.outer) a (Zc cls d) X.env.locals s'.heap := by rw [← hs]; exact sky
    show wpAny (model X.prog X.w) X.A (noteFrame (.ref a) X.env) _ _ _
    refine Sky.land Zc.steady hfr hf sky fun h3 fl3 up3 => ?_
    obtain ⟨oe3, vs3, he3, hz3, hd3⟩ := fl3.there
    have nfr : a ∉ frs (X.env :: X.outer) := fun hm => by
      obtain ⟨_, o1, g1, g2⟩ := fl3.2.2.1.mem hm
      rw [he3] at g1; cases g1
      exact g2 _ hd3
    have nL : a ≠ X.env.locals := fun z => nfr (List.mem_filterMap.mpr ⟨X.env, List.mem_cons_self, by rw [hf, z]⟩)
    have nF : a ∉ X.fs := fun hm => by
      obtain ⟨e, he, q⟩ := List.mem_filterMap.mp hm
      exact nfr (List.mem_filterMap.mpr ⟨e, List.mem_cons_of_mem _ he, q⟩)
    exact as_go (s := { s' with heap := h3 }) ok hN hi hln na nL nF fl3 (fun h4 st4 up4 => J.landed (s' := { s' with heap := h4 }) nb st4 ((up.trans up3).trans up4) os ag) hh w
  · cases f with
    | next => obtain ⟨σ1, H1, J, q⟩ := hsp; exact wpAny_execs_nil ⟨σ1, H1, J.ofTry ok, q⟩
    | brk => obtain ⟨σ1, H1, J, q⟩ := hsp; exact ⟨σ1, H1, J.ofTry ok, q⟩
    | cont => obtain ⟨σ1, H1, J, q⟩ := hsp; exact ⟨σ1, H1, J.ofTry ok, q⟩
    | ret u => obtain ⟨v, σ1, H1, J, r, q⟩ := hsp; exact ⟨v, σ1, H1, J.ofTry ok, r, q⟩
end
/-! ## K22 -/
namespace NTx
open PySem.W PySem.Calls PyProof.Rows PySem.HandSPX
/-! ### the text of __init__ -/
def iA (p1 p2 : Pos) : Arguments := { posonlyargs := [], args := [{ arg := "self", annotation := none, pos := p1 }, { arg := "thing", annotation := none, pos := p2 }], vararg := none, kwonlyargs := [], kw_defaults := [], kwarg := none, defaults := [] }
def iB (q1 q2 q3 q4 : Pos) : List Stmt := [.Assign [.Attribute (.Name "self" q1) "thing" q2] (.Name "thing" q3) q4]
def iS : Scope := { kind := .function, names := [(PySem.Str.ofString "self", .local), (PySem.Str.ofString "thing", .local)], isGenerator := false, isCoroutine := false, more := [] }
/-- the class at C, its __init__ at fI -/
structure NoThingTxt (K : Frag) (mg : Str → Option Value) (C fI : Addr) : Prop where
  gC : mg "NoThing" = some (.ref C)
  cls : ∃ nm q N bs bm sn sub ab col dd k0 k1 k2 k3 k5, K.lookup C = some (excClassObj nm q C N bs bm true sn sub ab col dd k0 k1 k2 k3 k5 "ValueError.__new__") ∧ refsVE bm = true
  sa : findIn K (.ref C) "__setattr__" = some (some (.builtin "object.__setattr__"))
  ga : findIn K (.ref C) "__getattribute__" = some (some (.builtin "BaseException.__getattribute__"))
  gg : findIn K (.ref C) "__getattr__" = some none
  noN : findIn K (.ref C) "thing" = some none
  iC : findIn K (.ref C) "__init__" = some (some (.ref fI))
  tC : typeIn K (.ref fI) = some (.type "function")
  kC : keepIn K (.ref C) = true
  exC : subIn K (.ref C) (.type "BaseException") = some true
  tyC : typeIn K (.ref C) = some (.type "type")
  hdC : hasDictIn K C = true
  te : exmOne K (.ref C) (.ref C) = some true
  fn : ∃ (oc : Value) (od : Option Addr) (kV doc pm : Value) (an : Option Addr) (cdv ct : Value) (osl : Array (Option Value)) (p1 p2 q1 q2 q3 q4 : Pos),
    K.lookup fI = some ⟨oc, od, .func (fnOf "__init__" "NoThing.__init__" (iA p1 p2) (iB q1 q2 q3 q4) iS .none kV doc pm an cdv ct), osl⟩ ∧ codeIn K cdv "NoThing.__init__" = true
theorem one_size (v : Value) : [v].length ≤ sizeLine := by
  rw [sizeLine_eq]
  exact (by decide : 1 ≤ 16777216)
theorem kept_but {K : Frag} {h h' : Heap} {x : Addr} (X : K.In h) (hx : K.lookup x = none) (k : ∀ b o, b ≠ x → h.get? b = some o → h'.get? b = some o) : K.In h' := fun a o e =>
  k a o (fun z => by rw [z, hx] at e; cases e) (X a o e)
theorem ldC {M : Model} {s : Shared} {name : Str} {scope : Scope} {L a : Addr} {cd : Value} {m : Str → Option Value} {x : Str} {pos : Pos} {v : Value} {Q : Value → Shared → Prop} {A : Around} {E : Value → Shared → Prop} (hn : s.heap.Ns L m) (hv : m x = some v) (h : Q v s)
    (hk : scope.kind = .function := by rfl) (hl : (envOfC name scope L a cd).kindOf x = some .local := by rfl) (hd : (x == ("__debug__" : Str)) = false := by decide) :
    wpAny M A (eval (.Name x pos) (envOfC name scope L a cd)) Q E s := wpAny_Name (wpAny_loadName_local hk hl hn hv h) hd
/-- behind __init__ -/
structure InitEnd (h h' : Heap) (x C dx t1 : Addr) (v : Value) : Prop where
  keep : ∀ b o, b ≠ x → h.get? b = some o → h'.get? b = some o
  obj : h'.get? x = some { cls := .ref C, dict := some dx, data := .fields #[.ref t1, .none, .none, .none, .bool false, .none] }
  dbig : h.objs.size ≤ dx
  dne : dx ≠ x
  ns : h'.Ns1 dx (fun y => if y = "thing" then some v else none)
/-- made -/
structure OwnMade (h h' : Heap) (e C d : Addr) (v : Value) : Prop where
  keep : ∀ b o, h.get? b = some o → h'.get? b = some o
  new : h.objs.size ≤ e
  obj : ∃ oe vs, h'.get? e = some oe ∧ oe.cls = .ref C ∧ oe.dict = some d ∧ oe.data = .fields vs ∧ vs[1]? = some .none
  dbig : h.objs.size ≤ d
  dne : d ≠ e
  ns : h'.Ns1 d (fun y => if y = "thing" then some v else none)
section
variable {prog : Program} {w : World} {A : Around} {E : Value → Shared → Prop} {R : Result → Shared → Prop} {s : Shared} {K : Frag} {mg : Str → Option Value} {C fI : Addr}
theorem ntx_init (T : NoThingTxt K mg C fI) {x t0 : Addr} {v : Value} (X : K.In s.heap) (hlim : s.heap.NoLimit) (hx : s.heap.get? x = some (excO C t0)) (hnx : K.lookup x = none) (hroom : A.depth < recursionLimit)
    (hq : ∀ h' tk dx, InitEnd s.heap h' x C dx t0 v → R (.ok (.ret .none)) { s with heap := h', toks := tk }) :
    codeAny (model prog w) A (.call (.ref fI) ⟨[.ref x, v], []⟩) R s := by
  obtain ⟨oc, od, kV, doc, pm, an, cdv, ct, osl, p1, p2, q1, q2, q3, q4, ho, hcd⟩ := T.fn
  obtain ⟨nm, q, N, bs, bm, sn, sub, ab, col, dd, k0, k1, k2, k3, k5, hC, hbm⟩ := T.cls
  have hcl : clsIn K C = some { name := nm, bases := bs, mro := .ref C :: bm, ns := N, qualname := q, hasDict := true, slotNames := sn, subclasses := sub, abstract := ab, collection := col, hasDel := false } := by unfold clsIn; rw [hC] <;> rfl
  refine Att.call_fn (binds := [("self", .ref x), ("thing", v)]) X hlim ho hcd hroom (BindsTo.of_eq (by first | rfl | with_unfolding_all rfl)) (by first | rfl | decide | with_unfolding_all rfl) (fun s₁ IC => ?_) rfl rfl rfl
  obtain ⟨h₁, tk₁, rfl⟩ := IC.toInCall.same
  have k : ∀ b o, s.heap.get? b = some o → h₁.get? b = some o := IC.toInCall.keep
  have hn := IC.toInCall.ns
  have hxL : s.heap.objs.size ≠ x := Nat.ne_of_gt (Heap.lt_size hx)
  have X₁ : K.In h₁ := X.keeps k
  have hx₁ := k _ _ hx
  -- the field
  show wpAny _ _ (execs _ _) _ _ _
  refine wpAny_execs_cons (plainObj_wpAny_Assign_Attribute ?_)
  refine ldC (v := v) hn (by first | rfl | with_unfolding_all rfl | kernel_rfl) (ldC (v := .ref x) hn (by first | rfl | with_unfolding_all rfl | kernel_rfl) ?_)
  refine set_plain X₁ (ox := excO C t0) (od := none) ⟨hx₁, rfl, rfl, trivial⟩ T.sa ?_
  refine exc_osa X₁ hx₁ hcl (show refsVE (.ref C :: bm) = true from hbm) rfl T.noN (fun h₃ tk₃ dx k₃ dn dne hx₃ hn₃ => ?_)
  show wpAny _ _ (execs _ _) _ _ _
  have z : s.heap.objs.size < h₁.objs.size := hn.lt
  exact wpAny_execs_nil (hq h₃ tk₃ dx ⟨fun b o hb e => k₃ b o hb (k b o e), hx₃, Nat.le_of_lt (Nat.lt_of_lt_of_le z dn), dne, hn₃⟩)
theorem ntx_made (T : NoThingTxt K mg C fI) {v : Value} (X : K.In s.heap) (hlim : s.heap.NoLimit) (hroom : A.depth + 1 < recursionLimit)
    (hq : ∀ h' tk e d, OwnMade s.heap h' e C d v → R (.ok (.ret (.ref e))) { s with heap := h', toks := tk }) :
    codeAny (model prog w) A (.call (.ref C) ⟨[v], []⟩) R s := by
  obtain ⟨nm, q, N, bs, bm, sn, sub, ab, col, dd, k0, k1, k2, k3, k5, hC, hbm⟩ := T.cls
  obtain ⟨hp, g, dr, tk, os⟩ := s
  have k : ∀ b o, hp.get? b = some o → ((hp.push (kdv_tup [v])).push (excO C hp.objs.size)).get? b = some o := fun b o e => Heap.get?_push_of_some _ (Heap.get?_push_of_some _ e)
  have hget : ((hp.push (kdv_tup [v])).push (excO C hp.objs.size)).get? (hp.objs.size + 1) = some (excO C hp.objs.size) := by heap_get
  have hnx : K.lookup (hp.objs.size + 1) = none := by
    cases e : K.lookup (hp.objs.size + 1) with
    | none => rfl
    | some o =>
      have z : hp.get? (hp.objs.size + 1) = some o := X _ _ e
      exact absurd (Nat.lt_of_succ_lt (Heap.lt_size z)) (Nat.lt_irrefl _)
  refine call_own F.excBase_ValueError (fun X => refsVE_contains X bm hbm) (X _ _ hC) (looks_findIn X T.iC) (fun self => bind_fn X self T.tC) (one_size v) ?_
  refine ntx_init (s := ⟨(hp.push (kdv_tup [v])).push (excO C hp.objs.size), g, dr, tk, os⟩) T (X.keeps k) (hlim.keeps k) hget hnx ?_ fun h' tk' dx ⟨k', hx, dn, dne, hns⟩ => ?_
  · show A.depth + 1 < recursionLimit
    exact hroom
  · have old : ∀ b o, hp.get? b = some o → h'.get? b = some o := fun b o e => k' b o (Nat.ne_of_lt (Nat.lt_succ_of_lt (Heap.lt_size e))) (k b o e)
    have z : hp.objs.size + 1 + 1 ≤ dx := by
      first
        | (simpa only [Heap.size_push] using dn)
        | exact dn
        | (have q := dn; rw [Heap.size_push, Heap.size_push] at q; exact q)
    exact ⟨rfl, hq h' tk' (hp.objs.size + 1) dx ⟨old, Nat.le_succ _, ⟨_, _, hx, rfl, rfl, rfl, rfl⟩, Nat.le_trans (Nat.le_trans (Nat.le_succ _) (Nat.le_succ _)) z, dne, hns⟩⟩
end
end NTx
theorem relO_NTx {v : V} {v' : Value} (r : RelV v v') (f : Str) : RelO (List.lookup f [(("thing" : Str), v)]) (if f = "thing" then some v' else none) := by
  by_cases hw : f = "thing"
  · subst hw
    rw [if_pos rfl]
    have q : List.lookup ("thing" : Str) [(("thing" : Str), v)] = some v := by simp [List.lookup]
    rw [q]
    exact r
  · rw [if_neg hw]
    have qw : (f == ("thing" : Str)) = false := by simpa using hw
    have q2 : List.lookup f [(("thing" : Str), v)] = none := by simp [List.lookup, qw]
    rw [q2]
    trivial
section
variable {X : Cx} {C fI : Addr}
/-- the error made -/
def tMkNTx (C : Addr) (ta : TA) : St → Hp → XK → Prop := fun σ H Q => ta σ H fun vs H1 => ∃ v, vs = [v] ∧ ∀ d, H1 d = none → Q (.ref C) (some d) (upd H1 d (.xd [(("thing" : Str), v)]))
theorem pmk_NTx {a : Expr} {ta : TA} {p pos : Pos} {k : Nat} (T : NTx.NoThingTxt X.K X.mg C fI) (hr : Room k X.A) (ha : PA X [a] ta) (hg : Gl X "NoThing" := by rfl)
    (he : starEach (a :: []) X.env = (false, eval a X.env) :: starEach [] X.env := by rfl) (hpl : (backTo pos (starEach [] X.env)).any (·.1) = false := by rfl) :
    PMk X (.Call (.Name "NoThing" p) [a] [] pos) (tMkNTx C ta) := by
  intro pins s σ H Q I h
  refine wpAny_Call_Name_kw (ld_glob I hg T.gC ?_)
  refine PySem.W.callWith_K (h₀ := X.base) I.ok.mod.kin T.kC (thn (ha.run pos pins s σ H _ I h) fun us s1 hh => ?_) he hpl
  obtain ⟨vs, H1, I1, r1, v, ev, q1⟩ := hh
  subst ev
  refine ⟨I1.kIn, ?_⟩
  cases r1 with
  | cons rv rn =>
    rename_i v' us'
    cases rn
    show wpAny _ _ (call (.ref C) [v']) _ _ _
    have hlim := I1.nolimit
    obtain ⟨hp, g, dr, tk, os⟩ := s1
    refine wpAny_call (NTx.ntx_made T I1.kIn hlim (by have := hr.dp; omega) fun h' tk' e d M => ?_)
    show MkP X pins σ Q (.ref e) ⟨h', g, dr, tk', os⟩
    obtain ⟨oe, fv, hoe, hc, hd, hdat, h1⟩ := M.obj
    have hns := M.ns
    obtain ⟨G', g1, g2⟩ := restrict h' fun b => decide (b ≠ e)
    have gk : ∀ b, b ≠ e → G'.get? b = h'.get? b := fun b hb => g1 b (decide_eq_true hb)
    have ge : G'.get? e = none := g2 e (by simp)
    have old : ∀ b o, hp.get? b = some o → G'.get? b = some o := fun b o q => (gk b (Nat.ne_of_lt (Nat.lt_of_lt_of_le (Heap.lt_size q) M.new))).trans (M.keep b o q)
    have ob : ObjOk X.prog X.w (upd H1 d (.xd [(("thing" : Str), v)])) G' d (.xd [(("thing" : Str), v)]) :=
      ⟨_, hns.at (fun o q => (gk d M.dne).trans q), fun f => relO_NTx rv f⟩
    have J : Inv X pins σ (upd H1 d (.xd [(("thing" : Str), v)])) ⟨G', g, dr, tk', os⟩ := I1.laid (t' := tk') old M.dbig ob
    refine ⟨e, oe, fv, ⟨G', g, dr, tk', os⟩, _, .ref C, some d, rfl, J, fun b o q => ?_, ge, hoe, ⟨hc, hd⟩, hdat, h1, ?_, rfl, I1.bare, raises_own T.exC T.tyC, q1 d (I1.hok.fresh M.dbig)⟩
    · by_cases hb : b = e
      · have q' : G'.get? b = some o := q
        rw [hb, ge] at q'; cases q'
      · exact (gk b hb).symm.trans q
    · rw [upd_ne (Ne.symm M.dne)]
      exact I1.hok.fresh M.new
/-- raise the error made -/
def tRaiseNTx (C : Addr) (W : WX) (ta : TA) : TS := fun _ σ H => tMkNTx C ta σ H fun cls d H' => W cls d σ H'
theorem ps_raiseNTx {a : Expr} {ta : TA} {W : WX} {p pos pos2 : Pos} {k : Nat} (hc : X.calm = true) (T : NTx.NoThingTxt X.K X.mg C fI) (hr : Room k X.A) (tk : Takes X W) (ha : PA X [a] ta) (hg : Gl X "NoThing" := by rfl)
    (he : starEach (a :: []) X.env = (false, eval a X.env) :: starEach [] X.env := by rfl) (hpl : (backTo pos (starEach [] X.env)).any (·.1) = false := by rfl) :
    PS X (.Raise (some (.Call (.Name "NoThing" p) [a] [] pos)) none pos2) (tRaiseNTx C W ta) := ps_raise hc tk (pmk_NTx T hr ha hg he hpl)
/-- the field, of the exception that the suite holds (at a; its class cls, its dict d) -/
def tFldNTx (C : Addr) (a : Addr) (cls : Value) (d : Option Addr) (te : TE) : TE := fun σ H Q => te σ H fun x H1 => x = .ref a ∧ cls = .ref C ∧ ∃ (dd : Addr) (v : V), d = some dd ∧ H1 dd = some (.xd [(("thing" : Str), v)]) ∧ Q v H1
theorem pe_fldNTx {a : Addr} {oe : Obj} {cls : Value} {d : Option Addr} {pn : List (Addr × Obj)} {e : Expr} {te : TE} {pos : Pos} (T : NTx.NoThingTxt X.K X.mg C fI) (hz : Zc cls d oe) (hf : ∃ vs, oe.data = .fields vs) (he : PE (X.suite a ((a, oe) :: pn)) e te)
    (hb : attributeBase e "thing" X.env (eval e X.env) = eval e X.env := by rfl) :
    PE (X.suite a ((a, oe) :: pn)) (.Attribute e "thing" pos) (tFldNTx C a cls d te) := by
  refine ⟨fun pins s σ H Q I h => ?_⟩
  refine attr_of hb (thn (he.run pins s σ H _ I h) fun u s1 hh => ?_)
  obtain ⟨x, H1, I1, rx, ex, ec, dd, v, ed, ea, q⟩ := hh
  subst ex
  obtain rfl : u = Value.ref a := rx
  subst ec
  subst ed
  obtain ⟨ha, _⟩ := I1.pin (a, oe) (List.mem_append_left _ List.mem_cons_self)
  obtain ⟨vs, hd⟩ := hf
  have hx : ObjOk X.prog X.w H1 s1.heap dd (.xd [(("thing" : Str), v)]) := I1.hok dd _ ea
  obtain ⟨mA, hns, hr⟩ := hx
  obtain ⟨od, ho, hl⟩ := lookIn_ns hns
  have l : List.lookup ("thing" : Str) [(("thing" : Str), v)] = some v := by simp [List.lookup]
  obtain ⟨u, hu, ru⟩ := RelO.some_of (v := v) (o := mA "thing") (by rw [← l]; exact hr "thing")
  have J : PySem.W.InstAt s1.heap a oe C (some od) := ⟨ha, hz.1, by unfold PySem.W.notCls; rw [hd] <;> rfl, by rw [hz.2]; exact ho⟩
  exact HandSPX.exc_get I1.kIn J T.ga T.gg T.exC (PySem.W.findObj_own T.hdC T.noN rfl (by rw [hl, hu])) (handed_of ru) ⟨v, H1, I1.tok _, ru, q⟩
end
namespace BCx
open PySem.W PySem.Calls PyProof.Rows PySem.HandSPX
/-! ### the text of __init__ -/
def iA (p1 p2 : Pos) : Arguments := { posonlyargs := [], args := [{ arg := "self", annotation := none, pos := p1 }, { arg := "ceiling", annotation := none, pos := p2 }], vararg := none, kwonlyargs := [], kw_defaults := [], kwarg := none, defaults := [] }
def iB (q1 q2 q3 q4 : Pos) : List Stmt := [.Assign [.Attribute (.Name "self" q1) "ceiling" q2] (.Name "ceiling" q3) q4]
def iS : Scope := { kind := .function, names := [(PySem.Str.ofString "self", .local), (PySem.Str.ofString "ceiling", .local)], isGenerator := false, isCoroutine := false, more := [] }
/-- the class at C, its __init__ at fI -/
structure BadCeilingTxt (K : Frag) (mg : Str → Option Value) (C fI : Addr) : Prop where
  gC : mg "BadCeiling" = some (.ref C)
  cls : ∃ nm q N bs bm sn sub ab col dd k0 k1 k2 k3 k5, K.lookup C = some (excClassObj nm q C N bs bm true sn sub ab col dd k0 k1 k2 k3 k5 "ValueError.__new__") ∧ refsVE bm = true
  sa : findIn K (.ref C) "__setattr__" = some (some (.builtin "object.__setattr__"))
  ga : findIn K (.ref C) "__getattribute__" = some (some (.builtin "BaseException.__getattribute__"))
  gg : findIn K (.ref C) "__getattr__" = some none
  noN : findIn K (.ref C) "ceiling" = some none
  iC : findIn K (.ref C) "__init__" = some (some (.ref fI))
  tC : typeIn K (.ref fI) = some (.type "function")
  kC : keepIn K (.ref C) = true
  exC : subIn K (.ref C) (.type "BaseException") = some true
  tyC : typeIn K (.ref C) = some (.type "type")
  hdC : hasDictIn K C = true
  te : exmOne K (.ref C) (.ref C) = some true
  fn : ∃ (oc : Value) (od : Option Addr) (kV doc pm : Value) (an : Option Addr) (cdv ct : Value) (osl : Array (Option Value)) (p1 p2 q1 q2 q3 q4 : Pos),
    K.lookup fI = some ⟨oc, od, .func (fnOf "__init__" "BadCeiling.__init__" (iA p1 p2) (iB q1 q2 q3 q4) iS .none kV doc pm an cdv ct), osl⟩ ∧ codeIn K cdv "BadCeiling.__init__" = true
theorem one_size (v : Value) : [v].length ≤ sizeLine := by
  rw [sizeLine_eq]
  exact (by decide : 1 ≤ 16777216)
theorem kept_but {K : Frag} {h h' : Heap} {x : Addr} (X : K.In h) (hx : K.lookup x = none) (k : ∀ b o, b ≠ x → h.get? b = some o → h'.get? b = some o) : K.In h' := fun a o e =>
  k a o (fun z => by rw [z, hx] at e; cases e) (X a o e)
theorem ldC {M : Model} {s : Shared} {name : Str} {scope : Scope} {L a : Addr} {cd : Value} {m : Str → Option Value} {x : Str} {pos : Pos} {v : Value} {Q : Value → Shared → Prop} {A : Around} {E : Value → Shared → Prop} (hn : s.heap.Ns L m) (hv : m x = some v) (h : Q v s)
    (hk : scope.kind = .function := by rfl) (hl : (envOfC name scope L a cd).kindOf x = some .local := by rfl) (hd : (x == ("__debug__" : Str)) = false := by decide) :
    wpAny M A (eval (.Name x pos) (envOfC name scope L a cd)) Q E s := wpAny_Name (wpAny_loadName_local hk hl hn hv h) hd
/-- behind __init__ -/
structure InitEnd (h h' : Heap) (x C dx t1 : Addr) (v : Value) : Prop where
  keep : ∀ b o, b ≠ x → h.get? b = some o → h'.get? b = some o
  obj : h'.get? x = some { cls := .ref C, dict := some dx, data := .fields #[.ref t1, .none, .none, .none, .bool false, .none] }
  dbig : h.objs.size ≤ dx
  dne : dx ≠ x
  ns : h'.Ns1 dx (fun y => if y = "ceiling" then some v else none)
/-- made -/
structure OwnMade (h h' : Heap) (e C d : Addr) (v : Value) : Prop where
  keep : ∀ b o, h.get? b = some o → h'.get? b = some o
  new : h.objs.size ≤ e
  obj : ∃ oe vs, h'.get? e = some oe ∧ oe.cls = .ref C ∧ oe.dict = some d ∧ oe.data = .fields vs ∧ vs[1]? = some .none
  dbig : h.objs.size ≤ d
  dne : d ≠ e
  ns : h'.Ns1 d (fun y => if y = "ceiling" then some v else none)
section
variable {prog : Program} {w : World} {A : Around} {E : Value → Shared → Prop} {R : Result → Shared → Prop} {s : Shared} {K : Frag} {mg : Str → Option Value} {C fI : Addr}
theorem bcx_init (T : BadCeilingTxt K mg C fI) {x t0 : Addr} {v : Value} (X : K.In s.heap) (hlim : s.heap.NoLimit) (hx : s.heap.get? x = some (excO C t0)) (hnx : K.lookup x = none) (hroom : A.depth < recursionLimit)
    (hq : ∀ h' tk dx, InitEnd s.heap h' x C dx t0 v → R (.ok (.ret .none)) { s with heap := h', toks := tk }) :
    codeAny (model prog w) A (.call (.ref fI) ⟨[.ref x, v], []⟩) R s := by
  obtain ⟨oc, od, kV, doc, pm, an, cdv, ct, osl, p1, p2, q1, q2, q3, q4, ho, hcd⟩ := T.fn
  obtain ⟨nm, q, N, bs, bm, sn, sub, ab, col, dd, k0, k1, k2, k3, k5, hC, hbm⟩ := T.cls
  have hcl : clsIn K C = some { name := nm, bases := bs, mro := .ref C :: bm, ns := N, qualname := q, hasDict := true, slotNames := sn, subclasses := sub, abstract := ab, collection := col, hasDel := false } := by unfold clsIn; rw [hC] <;> rfl
  refine Att.call_fn (binds := [("self", .ref x), ("ceiling", v)]) X hlim ho hcd hroom (BindsTo.of_eq (by first | rfl | with_unfolding_all rfl)) (by first | rfl | decide | with_unfolding_all rfl) (fun s₁ IC => ?_) rfl rfl rfl
  obtain ⟨h₁, tk₁, rfl⟩ := IC.toInCall.same
  have k : ∀ b o, s.heap.get? b = some o → h₁.get? b = some o := IC.toInCall.keep
  have hn := IC.toInCall.ns
  have hxL : s.heap.objs.size ≠ x := Nat.ne_of_gt (Heap.lt_size hx)
  have X₁ : K.In h₁ := X.keeps k
  have hx₁ := k _ _ hx
  -- the field
  show wpAny _ _ (execs _ _) _ _ _
  refine wpAny_execs_cons (plainObj_wpAny_Assign_Attribute ?_)
  refine ldC (v := v) hn (by first | rfl | with_unfolding_all rfl | kernel_rfl) (ldC (v := .ref x) hn (by first | rfl | with_unfolding_all rfl | kernel_rfl) ?_)
  refine set_plain X₁ (ox := excO C t0) (od := none) ⟨hx₁, rfl, rfl, trivial⟩ T.sa ?_
  refine exc_osa X₁ hx₁ hcl (show refsVE (.ref C :: bm) = true from hbm) rfl T.noN (fun h₃ tk₃ dx k₃ dn dne hx₃ hn₃ => ?_)
  show wpAny _ _ (execs _ _) _ _ _
  have z : s.heap.objs.size < h₁.objs.size := hn.lt
  exact wpAny_execs_nil (hq h₃ tk₃ dx ⟨fun b o hb e => k₃ b o hb (k b o e), hx₃, Nat.le_of_lt (Nat.lt_of_lt_of_le z dn), dne, hn₃⟩)
theorem bcx_made (T : BadCeilingTxt K mg C fI) {v : Value} (X : K.In s.heap) (hlim : s.heap.NoLimit) (hroom : A.depth + 1 < recursionLimit)
    (hq : ∀ h' tk e d, OwnMade s.heap h' e C d v → R (.ok (.ret (.ref e))) { s with heap := h', toks := tk }) :
    codeAny (model prog w) A (.call (.ref C) ⟨[v], []⟩) R s := by
  obtain ⟨nm, q, N, bs, bm, sn, sub, ab, col, dd, k0, k1, k2, k3, k5, hC, hbm⟩ := T.cls
  obtain ⟨hp, g, dr, tk, os⟩ := s
  have k : ∀ b o, hp.get? b = some o → ((hp.push (kdv_tup [v])).push (excO C hp.objs.size)).get? b = some o := fun b o e => Heap.get?_push_of_some _ (Heap.get?_push_of_some _ e)
  have hget : ((hp.push (kdv_tup [v])).push (excO C hp.objs.size)).get? (hp.objs.size + 1) = some (excO C hp.objs.size) := by heap_get
  have hnx : K.lookup (hp.objs.size + 1) = none := by
    cases e : K.lookup (hp.objs.size + 1) with
    | none => rfl
    | some o =>
      have z : hp.get? (hp.objs.size + 1) = some o := X _ _ e
      exact absurd (Nat.lt_of_succ_lt (Heap.lt_size z)) (Nat.lt_irrefl _)
  refine call_own F.excBase_ValueError (fun X => refsVE_contains X bm hbm) (X _ _ hC) (looks_findIn X T.iC) (fun self => bind_fn X self T.tC) (one_size v) ?_
  refine bcx_init (s := ⟨(hp.push (kdv_tup [v])).push (excO C hp.objs.size), g, dr, tk, os⟩) T (X.keeps k) (hlim.keeps k) hget hnx ?_ fun h' tk' dx ⟨k', hx, dn, dne, hns⟩ => ?_
  · show A.depth + 1 < recursionLimit
    exact hroom
  · have old : ∀ b o, hp.get? b = some o → h'.get? b = some o := fun b o e => k' b o (Nat.ne_of_lt (Nat.lt_succ_of_lt (Heap.lt_size e))) (k b o e)
    have z : hp.objs.size + 1 + 1 ≤ dx := by
      first
        | (simpa only [Heap.size_push] using dn)
        | exact dn
        | (have q := dn; rw [Heap.size_push, Heap.size_push] at q; exact q)
    exact ⟨rfl, hq h' tk' (hp.objs.size + 1) dx ⟨old, Nat.le_succ _, ⟨_, _, hx, rfl, rfl, rfl, rfl⟩, Nat.le_trans (Nat.le_trans (Nat.le_succ _) (Nat.le_succ _)) z, dne, hns⟩⟩
end
end BCx
theorem relO_BCx {v : V} {v' : Value} (r : RelV v v') (f : Str) : RelO (List.lookup f [(("ceiling" : Str), v)]) (if f = "ceiling" then some v' else none) := by
  by_cases hw : f = "ceiling"
  · subst hw
    rw [if_pos rfl]
    have q : List.lookup ("ceiling" : Str) [(("ceiling" : Str), v)] = some v := by simp [List.lookup]
    rw [q]
    exact r
  · rw [if_neg hw]
    have qw : (f == ("ceiling" : Str)) = false := by simpa using hw
    have q2 : List.lookup f [(("ceiling" : Str), v)] = none := by simp [List.lookup, qw]
    rw [q2]
    trivial
section
variable {X : Cx} {C fI : Addr}
/-- the error made -/
def tMkBCx (C : Addr) (ta : TA) : St → Hp → XK → Prop := fun σ H Q => ta σ H fun vs H1 => ∃ v, vs = [v] ∧ ∀ d, H1 d = none → Q (.ref C) (some d) (upd H1 d (.xd [(("ceiling" : Str), v)]))
theorem pmk_BCx {a : Expr} {ta : TA} {p pos : Pos} {k : Nat} (T : BCx.BadCeilingTxt X.K X.mg C fI) (hr : Room k X.A) (ha : PA X [a] ta) (hg : Gl X "BadCeiling" := by rfl)
    (he : starEach (a :: []) X.env = (false, eval a X.env) :: starEach [] X.env := by rfl) (hpl : (backTo pos (starEach [] X.env)).any (·.1) = false := by rfl) :
    PMk X (.Call (.Name "BadCeiling" p) [a] [] pos) (tMkBCx C ta) := by
  intro pins s σ H Q I h
  refine wpAny_Call_Name_kw (ld_glob I hg T.gC ?_)
  refine PySem.W.callWith_K (h₀ := X.base) I.ok.mod.kin T.kC (thn (ha.run pos pins s σ H _ I h) fun us s1 hh => ?_) he hpl
  obtain ⟨vs, H1, I1, r1, v, ev, q1⟩ := hh
  subst ev
  refine ⟨I1.kIn, ?_⟩
  cases r1 with
  | cons rv rn =>
    rename_i v' us'
    cases rn
    show wpAny _ _ (call (.ref C) [v']) _ _ _
    have hlim := I1.nolimit
    obtain ⟨hp, g, dr, tk, os⟩ := s1
    refine wpAny_call (BCx.bcx_made T I1.kIn hlim (by have := hr.dp; omega) fun h' tk' e d M => ?_)
    show MkP X pins σ Q (.ref e) ⟨h', g, dr, tk', os⟩
    obtain ⟨oe, fv, hoe, hc, hd, hdat, h1⟩ := M.obj
    have hns := M.ns
    obtain ⟨G', g1, g2⟩ := restrict h' fun b => decide (b ≠ e)
    have gk : ∀ b, b ≠ e → G'.get? b = h'.get? b := fun b hb => g1 b (decide_eq_true hb)
    have ge : G'.get? e = none := g2 e (by simp)
    have old : ∀ b o, hp.get? b = some o → G'.get? b = some o := fun b o q => (gk b (Nat.ne_of_lt (Nat.lt_of_lt_of_le (Heap.lt_size q) M.new))).trans (M.keep b o q)
    have ob : ObjOk X.prog X.w (upd H1 d (.xd [(("ceiling" : Str), v)])) G' d (.xd [(("ceiling" : Str), v)]) :=
      ⟨_, hns.at (fun o q => (gk d M.dne).trans q), fun f => relO_BCx rv f⟩
    have J : Inv X pins σ (upd H1 d (.xd [(("ceiling" : Str), v)])) ⟨G', g, dr, tk', os⟩ := I1.laid (t' := tk') old M.dbig ob
    refine ⟨e, oe, fv, ⟨G', g, dr, tk', os⟩, _, .ref C, some d, rfl, J, fun b o q => ?_, ge, hoe, ⟨hc, hd⟩, hdat, h1, ?_, rfl, I1.bare, raises_own T.exC T.tyC, q1 d (I1.hok.fresh M.dbig)⟩
    · by_cases hb : b = e
      · have q' : G'.get? b = some o := q
        rw [hb, ge] at q'; cases q'
      · exact (gk b hb).symm.trans q
    · rw [upd_ne (Ne.symm M.dne)]
      exact I1.hok.fresh M.new
/-- raise the error made -/
def tRaiseBCx (C : Addr) (W : WX) (ta : TA) : TS := fun _ σ H => tMkBCx C ta σ H fun cls d H' => W cls d σ H'
theorem ps_raiseBCx {a : Expr} {ta : TA} {W : WX} {p pos pos2 : Pos} {k : Nat} (hc : X.calm = true) (T : BCx.BadCeilingTxt X.K X.mg C fI) (hr : Room k X.A) (tk : Takes X W) (ha : PA X [a] ta) (hg : Gl X "BadCeiling" := by rfl)
    (he : starEach (a :: []) X.env = (false, eval a X.env) :: starEach [] X.env := by rfl) (hpl : (backTo pos (starEach [] X.env)).any (·.1) = false := by rfl) :
    PS X (.Raise (some (.Call (.Name "BadCeiling" p) [a] [] pos)) none pos2) (tRaiseBCx C W ta) := ps_raise hc tk (pmk_BCx T hr ha hg he hpl)
/-- the field, of the exception that the suite holds (at a; its class cls, its dict d) -/
def tFldBCx (C : Addr) (a : Addr) (cls : Value) (d : Option Addr) (te : TE) : TE := fun σ H Q => te σ H fun x H1 => x = .ref a ∧ cls = .ref C ∧ ∃ (dd : Addr) (v : V), d = some dd ∧ H1 dd = some (.xd [(("ceiling" : Str), v)]) ∧ Q v H1
theorem pe_fldBCx {a : Addr} {oe : Obj} {cls : Value} {d : Option Addr} {pn : List (Addr × Obj)} {e : Expr} {te : TE} {pos : Pos} (T : BCx.BadCeilingTxt X.K X.mg C fI) (hz : Zc cls d oe) (hf : ∃ vs, oe.data = .fields vs) (he : PE (X.suite a ((a, oe) :: pn)) e te)
    (hb : attributeBase e "ceiling" X.env (eval e X.env) = eval e X.env := by rfl) :
    PE (X.suite a ((a, oe) :: pn)) (.Attribute e "ceiling" pos) (tFldBCx C a cls d te) := by
  refine ⟨fun pins s σ H Q I h => ?_⟩
  refine attr_of hb (thn (he.run pins s σ H _ I h) fun u s1 hh => ?_)
  obtain ⟨x, H1, I1, rx, ex, ec, dd, v, ed, ea, q⟩ := hh
  subst ex
  obtain rfl : u = Value.ref a := rx
  subst ec
  subst ed
  obtain ⟨ha, _⟩ := I1.pin (a, oe) (List.mem_append_left _ List.mem_cons_self)
  obtain ⟨vs, hd⟩ := hf
  have hx : ObjOk X.prog X.w H1 s1.heap dd (.xd [(("ceiling" : Str), v)]) := I1.hok dd _ ea
  obtain ⟨mA, hns, hr⟩ := hx
  obtain ⟨od, ho, hl⟩ := lookIn_ns hns
  have l : List.lookup ("ceiling" : Str) [(("ceiling" : Str), v)] = some v := by simp [List.lookup]
  obtain ⟨u, hu, ru⟩ := RelO.some_of (v := v) (o := mA "ceiling") (by rw [← l]; exact hr "ceiling")
  have J : PySem.W.InstAt s1.heap a oe C (some od) := ⟨ha, hz.1, by unfold PySem.W.notCls; rw [hd] <;> rfl, by rw [hz.2]; exact ho⟩
  exact HandSPX.exc_get I1.kIn J T.ga T.gg T.exC (PySem.W.findObj_own T.hdC T.noN rfl (by rw [hl, hu])) (handed_of ru) ⟨v, H1, I1.tok _, ru, q⟩
end
/-! ## F22 -/
/-! ### defs that raise: an error of the class at CS whose field fld holds the argument i -/
def spX (K : PySem.W.Frag) (C CS : Addr) (fld : Str) (i : Nat) (R : List D → Prop) : Sp := fun vs H _ E => ∃ (F : Hp) (ds : List D), Ex F H ∧ Reps K C F vs ds ∧ R ds ∧ ∀ (H' : Hp) (d : Addr) (v : V), Ex H H' → vs[i]? = some v → H' d = some (.xd [(fld, v)]) → E (.ref CS) (some d) H'
structure FnX (P : Program) (w : World) (K : PySem.W.Frag) (mg : Str → Option Value) (base : Heap) (C CS : Addr) (fld : Str) (i : Nat) (x : Str) (k : Nat) (R : List D → Prop) : Prop where
  ex : ∃ (f : Addr) (fd : FuncData) (ps : List Str), mg x = some (.ref f) ∧ PySem.W.keepIn K (.ref f) = true ∧ Binds K fd ps [] ∧ FnOk P w K mg base (L2.CX P w) k f fd ps (spX K C CS fld i R)
structure FnXM (P : Program) (w : World) (K : PySem.W.Frag) (mg : Str → Option Value) (base : Heap) (C CS : Addr) (fld : Str) (i : Nat) (m : Str) (k : Nat) (R : List D → Prop) : Prop where
  ex : ∃ (f : Addr) (fd : FuncData) (ps : List Str), Meth K C m f ∧ Binds K fd ps [] ∧ FnOk P w K mg base (L2.CX P w) k f fd ps (spX K C CS fld i R)
section
variable {P : Program} {w : World} {K : PySem.W.Frag} {mg : Str → Option Value} {base : Heap} {C CS fI : Addr}
theorem sta_startX {F H : Hp} {vs : List V} {ds : List D} {N ps : List Str} (hex : Ex F H) (hr : Reps K C F vs ds) (hlen : vs.length = ps.length) (hN : ps.length ≤ N.length) : Sta K C ⟨F, H, 0, false⟩ [] 0 (argE false ds ++ List.replicate (N.length - ps.length) .no) (L2.start N vs) H :=
  sta_start (pl := false) rfl rfl rfl hex hr (fun z => nomatch z) hlen hN
theorem Sta.exH {F H H' : Hp} {ts : List (V × TD)} {n : Nat} {env : En} {σ : L2.St} (S : Sta K C ⟨F, H, 0, false⟩ ts n env σ H') : Ex H H' := by
  obtain ⟨F1, W1, S⟩ := S
  exact fun a o h => S.base a o h fun z => nomatch z
/-! Jobs.ceiling raises -/
/-- no word, or no word of the table -/
def oddT (z : D) (kz : List (Str × D)) : Prop := (tyD z).isSome = true ∧ (∀ s, z = .str s → s.length ≤ 1000) ∧ (isWordD z = false ∨ ∃ s, z = .str s ∧ isWordD z = true ∧ getK s kz = none)
def RCeilX : List D → Prop := fun ds => ∃ (js : List Jb) (kz : List (Str × D)) (z : D), ds = [objD js kz, z] ∧ oddT z kz
def bodyAt (st : Stmt) (i : Nat) : Stmt := (defBody st).getD i (.Pass ⟨0, 0, 0, 0⟩)
def ifC : Stmt → Expr
  | .If c _ _ _ => c
  | _ => .Constant .none 0 ⟨0, 0, 0, 0⟩
def exprE : Stmt → Expr
  | .Expr e _ => e
  | _ => .Constant .none 0 ⟨0, 0, 0, 0⟩
theorem xok_X {k : Nat} {N Vn Gn Cn : List Str} {qual : Str} {sc : Scope} {f : Addr} {cdv : Value} {A : Around} {outer : List Env} {s : Shared} {H : Hp} {E : XK} (h : defB Vn Gn Cn sc = true) (nd : N.Nodup) (hr : Room k (A.deeper (envOfC qual sc s.heap.objs.size f cdv))) :
    XOk (cxOf (L2.CX P w) P w K mg base N qual sc f cdv A outer s H E).nox k N Vn Vn Gn :=
  (xok_def2 (X := (cxOf (L2.CX P w) P w K mg base N qual sc f cdv A outer s H E).nox) (k := k) (N := N) (Vn := Vn) (Gn := Gn) (Cn := Cn) h rfl nd (fun _ => rfl) rfl hr PassesOwn.never).1
theorem ceilX_test {X : Cx} {js : List Jb} {kz : List (Str × D)} {z : D} (hX : XOk X 1 ["self", "thing"] ["self", "thing"] ["self", "thing"] ["is_word"]) (hc : Cls X.K C) (a1 : NoAttr X.K C "kept_ceilings") (f1 : FnD X.prog X.w X.K X.mg X.base C "is_word" 1 false RWord) (h : oddT z kz) :
    EvT X C (ifC (bodyAt sCeil 0)) 0 [.dat (objD js kz), .dat z] fun kk n1 env1 => kk = true := by
  obtain ⟨hty, hzl, hod⟩ := h
  refine evt_of ?_
  refine evw_or ?_
  refine evt_not ?_
  refine evt_val (fun _ => rfl) ?_
  walk_at "go"
  refine ⟨_, rfl, hty, hzl, isWordD z, rfl, ?_⟩
  rcases hod with hw | ⟨s, rfl, hw, hg⟩
  · rw [hw, if_pos (by decide)]
  · rw [hw, if_neg (by decide)]
    refine evw_or1 ?_
    refine evt_notin hX rfl ?_
    walk_at "go"
    refine ev_fld hc a1 ?_
    walk_at "go"
    refine ⟨_, _, rfl, rfl, ?_⟩
    walk_at "go"
    rw [hg]
    rfl
theorem ok_ceilX {f : Addr} {fd : FuncData} (F : Fun K "ceiling" "Jobs.ceiling" sCeil f fd) (hm : Meth K C "ceiling" f) (hb : Binds K fd ["self", "thing"] []) (hc : Cls K C) (a1 : NoAttr K C "kept_ceilings") (T : NTx.NoThingTxt K mg CS fI) (f1 : FnD P w K mg base C "is_word" 1 false RWord) : FnXM P w K mg base C CS "thing" 1 "ceiling" 2 RCeilX := by
  refine ⟨f, fd, ["self", "thing"], hm, hb, F.okX (k := 1) scCeil (fun vs H Q E h => ?_) (fun cdv A outer s H vs Q E hr h => ?_)⟩
  · obtain ⟨F0, ds, h1, h2, ⟨js, kz, z, rfl, _⟩, _⟩ := h
    exact h2.length
  obtain ⟨F0, ds, hex, hre, ⟨js, kz, z, rfl, hod⟩, hp⟩ := h
  have lv : vs.length = (["self", "thing"] : List Str).length := hre.length
  have S := sta_startX (N := ["self", "thing"]) (ps := ["self", "thing"]) hex hre lv (by decide)
  obtain ⟨v1, v2, rfl, r1, r2⟩ := reps2 hre
  refine ⟨_, pss_cons (ps_if (PT.nox pt_t) (pss_one (ps_raiseNTx rfl T hr (takes_of rfl rfl rfl rfl) (by exact (pa_cons (pv 1) pa_nil)))) pss_nil) (PSs.nox pss_t), ?_⟩
  refine ceilX_test (xok_X (Cn := []) (by decide +kernel) scCeil.nd hr) hc a1 f1 hod _ _ _ _ _ S fun b H1 n1 env1 hb S1 => ?_
  subst hb
  rw [if_pos rfl]
  exact ⟨v2, rfl, v2, rfl, fun d hd => hp _ d v2 (fun a o h => (Ex.new hd) a o (S1.exH a o h)) rfl upd_same⟩
end
/-! ## F23 -/
section
variable {P : Program} {w : World} {K : PySem.W.Frag} {mg : Str → Option Value} {base : Heap} {C CS CB fI : Addr}
/-! ### least_ceiling, tangle raise -/
theorem ok_leastX {f : Addr} {fd : FuncData} (F : Fun K "least_ceiling" "least_ceiling" sLeast f fd) (hm : mg "least_ceiling" = some (.ref f)) (hb : Binds K fd ["jobs", "thing"] []) (hc : Cls K C) (f1 : FnXM P w K mg base C CS "thing" 1 "ceiling" 2 RCeilX) : FnX P w K mg base C CS "thing" 1 "least_ceiling" 3 RCeilX := by
  obtain ⟨g, gd, ps, m1, m2, m3⟩ := f1.ex
  refine ⟨f, fd, ["jobs", "thing"], hm, F.kp, hb, F.okX (k := 2) scLeast (fun vs H Q E h => ?_) (fun cdv A outer s H vs Q E hr h => ?_)⟩
  · obtain ⟨F0, ds, h1, h2, ⟨js, kz, z, rfl, _⟩, _⟩ := h
    exact h2.length
  obtain ⟨F0, ds, hex, hre, ⟨js, kz, z, rfl, hod⟩, hp⟩ := h
  obtain ⟨v1, v2, rfl, r1, r2⟩ := reps2 hre
  refine ⟨_, pss_cons (ps_expr (pe_meth (dvs := []) (E := E) (pv 0) hc m1 m3 hr m2 .nil (passes_call (takes_of rfl rfl rfl rfl) (fun _ _ _ _ h => h)) (by exact (pa_cons (pv 1) pa_nil)))) (PSs.nox pss_t), ?_⟩
  cases r1 with
  | @obj a dx gs _ g1 g2 =>
    refine ⟨_, rfl, a, dx, gs, rfl, hex _ _ g1, g2.lookN rfl, v2, rfl, F0, _, hex, hre, ⟨js, kz, z, rfl, hod⟩, fun H' d v ex hv hd => hp H' d v ex hv hd⟩
def RTanX : List D → Prop := fun ds => ∃ (js : List Jb) (kz : List (Str × D)) (z c : D), ds = [objD js kz, z, c] ∧ oddT z kz
theorem ok_tanX {f : Addr} {fd : FuncData} (F : Fun K "tangle" "tangle" sTan f fd) (hm : mg "tangle" = some (.ref f)) (hb : Binds K fd ["jobs", "thing", "ceiling"] []) (hc : Cls K C) (f1 : FnXM P w K mg base C CS "thing" 1 "ceiling" 2 RCeilX) : FnX P w K mg base C CS "thing" 1 "tangle" 3 RTanX := by
  obtain ⟨g, gd, ps, m1, m2, m3⟩ := f1.ex
  refine ⟨f, fd, ["jobs", "thing", "ceiling"], hm, F.kp, hb, F.okX (k := 2) scTan (fun vs H Q E h => ?_) (fun cdv A outer s H vs Q E hr h => ?_)⟩
  · obtain ⟨F0, ds, h1, h2, ⟨js, kz, z, c, rfl, _⟩, _⟩ := h
    exact h2.length
  obtain ⟨F0, ds, hex, hre, ⟨js, kz, z, c, rfl, hod⟩, hp⟩ := h
  cases hre with
  | @cons v1 _ _ _ r1 hr2 =>
    cases hr2 with
    | @cons v2 _ _ _ r2 hr3 =>
      refine ⟨_, pss_cons (ps_expr (pe_meth (dvs := []) (E := E) (pv 0) hc m1 m3 hr m2 .nil (passes_call (takes_of rfl rfl rfl rfl) (fun _ _ _ _ h => h)) (by exact (pa_cons (pv 1) pa_nil)))) (PSs.nox pss_t), ?_⟩
      cases r1 with
      | @obj a dx gs _ g1 g2 =>
        refine ⟨_, rfl, a, dx, gs, rfl, hex _ _ g1, g2.lookN rfl, v2, rfl, F0, _, hex, .cons (.obj g1 g2) (.cons r2 .nil), ⟨js, kz, z, rfl, hod⟩, fun H' d v ex hv hd => hp H' d v ex hv hd⟩
def RTanY : List D → Prop := fun ds => ∃ (js : List Jb) (kz : List (Str × D)) (t : Str) (c d : D), ds = [objD js kz, .str t, c] ∧ t ∈ things3 ∧ getK t kz = some d ∧ (tyD c).isSome = true ∧ isNatD c = false
theorem tanY_call {X : Cx} {js : List Jb} {kz : List (Str × D)} {t : Str} {c d : D} {no : En} (hX : XOk X 2 ["jobs", "thing", "ceiling", "job", "units", "priority", "other", "comings", "one"] ["jobs", "thing", "ceiling", "job", "units", "priority", "other", "comings"] ["jobs", "thing", "ceiling", "job", "units", "priority", "other", "comings"] ["is_natural"]) (hc : Cls X.K C) (f1 : FnM X.prog X.w X.K X.mg X.base C "ceiling" 2 RCeil) (ht : t ∈ things3) (hg : getK t kz = some d) :
    Ev X C (exprE (bodyAt sTan 0)) 0 (.dat (objD js kz) :: .dat (.str t) :: .dat c :: no) fun _ n1 env1 => n1 = 0 ∧ env1 = .dat (objD js kz) :: .dat (.str t) :: .dat c :: no := by
  refine ev_meth f1 hX (by omega) hc (by walk_at "lk") (by walk_at "mem") rfl ?_
  walk_at "go"
  exact ⟨js, kz, t, d, rfl, ht, hg, rfl, rfl⟩
theorem tanY_test {X : Cx} {js : List Jb} {kz : List (Str × D)} {t : Str} {c : D} {no : En} (hX : XOk X 2 ["jobs", "thing", "ceiling", "job", "units", "priority", "other", "comings", "one"] ["jobs", "thing", "ceiling", "job", "units", "priority", "other", "comings"] ["jobs", "thing", "ceiling", "job", "units", "priority", "other", "comings"] ["is_natural"]) (f0 : FnD X.prog X.w X.K X.mg X.base C "is_natural" 2 false RIsNat) (hty : (tyD c).isSome = true) (hn : isNatD c = false) :
    EvT X C (ifC (bodyAt sTan 1)) 0 (.dat (objD js kz) :: .dat (.str t) :: .dat c :: no) fun kk n1 env1 => kk = true := by
  refine evt_not ?_
  refine evt_val (fun _ => rfl) ?_
  walk_at "go"
  refine ⟨_, rfl, hty, isNatD c, rfl, ?_⟩
  rw [hn]; rfl
theorem ok_tanY {f : Addr} {fd : FuncData} (F : Fun K "tangle" "tangle" sTan f fd) (hm : mg "tangle" = some (.ref f)) (hb : Binds K fd ["jobs", "thing", "ceiling"] []) (hc : Cls K C) (T : BCx.BadCeilingTxt K mg CB fI) (f0 : FnD P w K mg base C "is_natural" 2 false RIsNat) (f1 : FnM P w K mg base C "ceiling" 2 RCeil) : FnX P w K mg base C CB "ceiling" 2 "tangle" 3 RTanY := by
  refine ⟨f, fd, ["jobs", "thing", "ceiling"], hm, F.kp, hb, F.okX (k := 2) scTan (fun vs H Q E h => ?_) (fun cdv A outer s H vs Q E hr h => ?_)⟩
  · obtain ⟨F0, ds, h1, h2, ⟨js, kz, t, c, d, rfl, _⟩, _⟩ := h
    exact h2.length
  obtain ⟨F0, ds, hex, hre, ⟨js, kz, t, c, d, rfl, ht, hg, hty, hn⟩, hp⟩ := h
  have lv : vs.length = (["jobs", "thing", "ceiling"] : List Str).length := hre.length
  have S := sta_startX (N := ["jobs", "thing", "ceiling", "job", "units", "priority", "other", "comings", "one"]) (ps := ["jobs", "thing", "ceiling"]) hex hre lv (by decide)
  cases hre with
  | @cons v1 _ _ _ r1 hr2 =>
    cases hr2 with
    | @cons v2 _ _ _ r2 hr3 =>
      cases hr3 with
      | @cons v3 _ _ _ r3 hr4 =>
        cases hr4
        refine ⟨_, pss_cons (ps_expr (PE.nox pe_t)) (pss_cons (ps_if (PT.nox pt_t) (pss_one (ps_raiseBCx rfl T hr (takes_of rfl rfl rfl rfl) (by exact (pa_cons (pv 2) pa_nil)))) pss_nil) (PSs.nox pss_t)), ?_⟩
        refine tanY_call (xok_X (Cn := []) (by decide +kernel) scTan.nd hr) hc f1 ht hg _ _ _ _ _ S fun v H1 d1 n1 env1 hq S1 => ?_
        obtain ⟨rfl, rfl⟩ := hq
        refine tanY_test (xok_X (Cn := []) (by decide +kernel) scTan.nd hr) f0 hty hn _ _ _ _ _ S1.pop fun b H2 n2 env2 hb S2 => ?_
        subst hb
        rw [if_pos rfl]
        exact ⟨v3, rfl, v3, rfl, fun d hd => hp _ d v3 (fun a o h => (Ex.new hd) a o (S2.exH a o h)) rfl upd_same⟩
end
/-! ## F24 -/
/-! ### a def that hands out a new list -/
def spF (K : PySem.W.Frag) (C : Addr) (R : List D → (List D → Prop) → Prop) : Sp := fun vs H Q _ => ∃ (F : Hp) (ds : List D), Ex F H ∧ Reps K C F vs ds ∧ R ds fun l => ∀ v H' n, Sta K C ⟨F, H, 0, false⟩ [(v, .fl l)] n [] [] H' → Q v H'
structure FnF (P : Program) (w : World) (K : PySem.W.Frag) (mg : Str → Option Value) (base : Heap) (C : Addr) (x : Str) (k : Nat) (R : List D → (List D → Prop) → Prop) : Prop where
  ex : ∃ (f : Addr) (fd : FuncData) (ps : List Str), mg x = some (.ref f) ∧ PySem.W.keepIn K (.ref f) = true ∧ Binds K fd ps [] ∧ FnOk P w K mg base CX0 k f fd ps (spF K C R)
def StF (X : Cx) (C : Addr) (sts : List Stmt) (n : Nat) (env : En) (P : List D → Prop) : Prop := ∀ B ts σ H (Z : Ends), Sta X.K C B ts n env σ H → (∀ v l n' env' σ' H', P l → Sta X.K C B ((v, .fl l) :: ts) n' env' σ' H' → Z.rt v H') → tSs X sts Z σ H
section
variable {X : Cx} {C : Addr} {n : Nat} {env : En} {st : Stmt} {sts : List Stmt} {e : Expr} {pos : Pos} {P : List D → Prop}
theorem stf_cons (h : StS X C st n env { nx := fun n' env' => StF X C sts n' env' P, rt := fun _ _ => False }) : StF X C (st :: sts) n env P := fun B ts σ H Z S r =>
  of_pss (pss_cons ps_t pss_t) (h B ts σ H _ S (fun n' env' σ' H' q S' => q B ts σ' H' Z S' r) (fun _ _ _ _ q _ => q.elim) (fun _ _ _ _ q _ => q.elim) (fun _ _ _ _ q _ => q.elim))
theorem stf_ret (h : EvR X C e n env fun td _ _ => ∃ l, td = .fl l ∧ P l) : StF X C [.Return (some e) pos] n env P := fun B ts σ H Z S r =>
  of_pss (pss_one (ps_ret pe_t)) (h B ts σ H _ S fun v H' td n' env' ⟨l, e, q⟩ S' => by subst e; exact r v l n' env' σ H' q S')
end
section
variable {P : Program} {w : World} {K : PySem.W.Frag} {mg : Str → Option Value} {base : Heap} {C : Addr}
/-! ### _law_pool -/
abbrev sPool : Stmt := topS 27
theorem scPool : FnScope ["_law_script", "_law_turn", "_law_cell", "_law_blend", "_law_one_here", "_law_great"] ["_law_script", "_law_turn"] (defScope sPool) := ⟨rfl, rfl, rfl, by decide +kernel, rfl, by decide +kernel, by decide +kernel⟩
def RPool : List D → (List D → Prop) → Prop := fun ds p => ∃ (ns : List Int) (t : Nat), ds = [.scr ns, .int (t : Nat)] ∧ ∀ a b : Int, 0 ≤ a → 0 ≤ b → b < 1000000007 → p [.int a, .int b, .int 0]
theorem pool_body {X : Cx} (e6 : X.env.scope = defScope sPool) (hX : XOk X 0 ["_law_script", "_law_turn", "_law_cell", "_law_blend", "_law_one_here", "_law_great"] ["_law_script", "_law_turn", "_law_cell", "_law_blend", "_law_one_here", "_law_great"] ["_law_script", "_law_turn", "_law_cell", "_law_blend", "_law_one_here", "_law_great"] ["len", "sum", "int", "abs"])
    (m1 : X.mg "len" = none) (m2 : X.mg "sum" = none) (m3 : X.mg "int" = none) (m4 : X.mg "abs" = none) {ns : List Int} {t : Nat} {p : List D → Prop} (hp : ∀ a b : Int, 0 ≤ a → 0 ≤ b → b < 1000000007 → p [.int a, .int b, .int 0]) :
    StF X C (defBody sPool) 0 [.dat (.scr ns), .dat (.int (t : Nat)), .no, .no, .no, .no] p := by
  refine stf_cons ?_
  refine st_set (i := 2) hX (by walk_at "lk") (by walk_at "mem") ?_
  refine evr_of ?_
  refine Ev.imp (Q' := fun d n1 env1 => ∃ i : Int, d = .int i ∧ n1 = 0 ∧ env1 = [.dat (.scr ns), .dat (.int (t : Nat)), .no, .no, .no, .no]) ?_ ?_
  · refine ev_if ?_
    walk_at "go"
    by_cases h : t < ns.length
    · rw [decide_eq_true (by omega)]
      refine iteT ?_
      walk_at "go"
      refine o_ixC (j := t) (i := ns[t]) (by simp [h]) ?_
      exact ⟨_, rfl, rfl, rfl⟩
    · rw [decide_eq_false (by omega)]
      refine iteF ?_
      walk_at "go"
      refine ev_sliceTo ?_
      walk_at "go"
      refine ⟨_, rfl, ?_⟩
      walk_at "go"
      refine ⟨1, rfl, ?_⟩
      rw [← List.map_take]
      walk_at "go"
      refine n_sum ?_
      walk_at "go"
      refine o_mod (by decide) ?_
      walk_at "go"
      first | exact ⟨_, rfl, rfl, rfl⟩ | exact ⟨rfl, rfl⟩ | exact rfl
  · rintro d n1 env1 ⟨c, rfl, rfl, rfl⟩
    walk_at "up"
    refine stf_cons ?_
    walk_at "go"
    walk_at "up"
    refine stf_cons ?_
    refine st_for hX ?_
    refine ei_list ?_
    refine ev_sliceTo ?_
    walk_at "go"
    refine ⟨_, rfl, ?_⟩
    walk_at "go"
    refine ⟨64, rfl, ?_⟩
    refine ⟨_, rfl, ?_⟩
    refine ⟨fun i n' env' => ∃ (b : Int) (s4 : Sl), env' = [.dat (.scr ns), .dat (.int (t : Nat)), .dat (.int c), .dat (.int b), s4, .no] ∧ n' = 0, ⟨_, .no, rfl, rfl⟩, ?_, ?_⟩
    · rintro i d n' env' hd ⟨b, s4, rfl, rfl⟩
      rw [← List.map_take, List.getElem?_map] at hd
      cases hx : (ns.take 64)[i]? with
      | none => rw [hx] at hd; cases hd
      | some y =>
        rw [hx] at hd
        cases hd
        refine eg_name (i := 4) hX (by walk_at "lk") (by walk_at "mem") ?_
        walk_at "up"
        refine stb_one ?_
        walk_at "go"
        refine o_mulI (.inr ⟨by decide, by decide⟩) ?_
        walk_at "go"
        refine o_mod (by decide) ?_
        walk_at "up"
        exact ⟨_, _, rfl, rfl⟩
    · rintro n' env' ⟨b, s4, rfl, rfl⟩
      refine stf_cons ?_
      walk_at "go"
      walk_at "up"
      obtain ⟨g, hg, hg0⟩ : ∃ g : Int, (if c < 0 then -c else c) = g ∧ 0 ≤ g := ⟨_, rfl, by split <;> omega⟩
      rw [hg]
      refine stf_ret ?_
      refine evr_lst ?_
      refine ea_cons ?_
      refine Ev.imp (Q' := fun d n1 env1 => ∃ i : Int, 0 ≤ i ∧ d = .int i ∧ n1 = 0 ∧ env1 = [.dat (.scr ns), .dat (.int (t : Nat)), .dat (.int c), .dat (.int b), s4, .dat (.int g)]) ?_ ?_
      · refine ev_if ?_
        walk_at "go"
        refine o_pow ⟨by decide, by decide, by omega⟩ ?_
        walk_at "go"
        split
        · walk_at "go"
          exact ⟨_, hg0, rfl, rfl, rfl⟩
        · walk_at "go"
          exact ⟨0, by decide, rfl, rfl, rfl⟩
      · rintro d n1 env1 ⟨a, ha, rfl, rfl, rfl⟩
        walk_at "go"
        refine o_mod (by decide) ?_
        walk_at "go"
        exact ⟨_, rfl, hp a _ ha (Int.emod_nonneg _ (by decide)) (Int.emod_lt_of_pos _ (by decide))⟩
theorem ok_pool {f : Addr} {fd : FuncData} (F : Fun K "_law_pool" "_law_pool" sPool f fd) (hm : mg "_law_pool" = some (.ref f)) (hb : Binds K fd ["_law_script", "_law_turn"] []) (m1 : mg "len" = none) (m2 : mg "sum" = none) (m3 : mg "int" = none) (m4 : mg "abs" = none) : FnF P w K mg base C "_law_pool" 1 RPool := by
  refine ⟨f, fd, ["_law_script", "_law_turn"], hm, F.kp, hb, F.ok (k := 0) scPool (fun vs H Q E h => ?_) (fun cdv A outer s H vs Q E hr h => ?_)⟩
  · obtain ⟨F0, ds, h1, h2, ⟨ns, t, rfl, _⟩⟩ := h
    exact h2.length
  obtain ⟨F0, ds, hex, hre, ⟨ns, t, rfl, hp⟩⟩ := h
  have lv : vs.length = (["_law_script", "_law_turn"] : List Str).length := hre.length
  have S := sta_startX (N := ["_law_script", "_law_turn", "_law_cell", "_law_blend", "_law_one_here", "_law_great"]) (ps := ["_law_script", "_law_turn"]) hex hre lv (by decide)
  refine ⟨_, pss_t, ?_⟩
  obtain ⟨x1, _⟩ := xok_def2 (X := (cxOf CX0 P w K mg base ["_law_script", "_law_turn", "_law_cell", "_law_blend", "_law_one_here", "_law_great"] "_law_pool" (defScope sPool) f cdv A outer s H E).nox) (k := 0) (N := ["_law_script", "_law_turn", "_law_cell", "_law_blend", "_law_one_here", "_law_great"]) (Vn := ["_law_script", "_law_turn", "_law_cell", "_law_blend", "_law_one_here", "_law_great"]) (Gn := ["len", "sum", "int", "abs"]) (Cn := []) (show defB _ _ _ (defScope sPool) = true by decide +kernel) rfl scPool.nd (fun _ => rfl) rfl hr PassesOwn.never
  refine pool_body (p := fun l => ∀ v H' n, Sta K C ⟨F0, H, 0, false⟩ [(v, .fl l)] n [] [] H' → Q v H') rfl x1 m1 m2 m3 m4 hp _ _ _ _ _ S fun v l n' env' σ' H' q S' => q v H' n' ?_
  obtain ⟨F2, W2, S2⟩ := S'
  exact ⟨F2, W2, S2.ex1, S2.ex2, S2.base, S2.new, S2.own, (fun z => nomatch z), rfl, fun i sl h => by simp at h, S2.temps⟩
end
/-! ## F25 -/
/-! ### _law_met -/
abbrev sMet : Stmt := topS 45
theorem scMet : FnScope ["_law_ask", "e"] ["_law_ask"] (defScope sMet) := ⟨rfl, rfl, rfl, by decide +kernel, rfl, by decide +kernel, by decide +kernel⟩
theorem takes_len {X : Cx} {W : WX} (tk : Takes X W) : Takes X (fun cls d σ H => σ.length = X.N.length → W cls d σ H) := fun u s' ⟨a, B, sI, pins, σ, H, cls, d, e, I, nb, up, sky, na, os, ag, w⟩ =>
  tk u s' ⟨a, B, sI, pins, σ, H, cls, d, e, I, nb, up, sky, na, os, ag, w I.len⟩
/-- what the lambda's error becomes: a pair of a word and what the error holds -/
def EMet (CN CB : Addr) (Q : VK) : XK := fun cls d H' => ∃ (dd : Addr) (v : V), d = some dd ∧
  ((cls = .ref CN ∧ H' dd = some (.xd [(("thing" : Str), v)]) ∧ ∀ p, H' p = none → Q (.ref p) (upd H' p (.tup [.str "thing", v]))) ∨
   (cls = .ref CB ∧ H' dd = some (.xd [(("ceiling" : Str), v)]) ∧ ∀ p, H' p = none → Q (.ref p) (upd H' p (.tup [.str "ceiling", v]))))
def TTMet (CN CB : Addr) : (XK → Hp → VK → Prop) → Hp → VK → Prop := fun tl H Q => tl (EMet CN CB Q) H fun _ H1 => Q .non H1
theorem met_gives {X : Cx} {CN CB fN fB g : Addr} {cdg : Value} {q : Str} (T1 : NTx.NoThingTxt X.K X.mg CN fN) (T2 : BCx.BadCeilingTxt X.K X.mg CB fB) (h12 : PySem.W.exmOne X.K (.ref CB) (.ref CN) = some false) :
    LamX.GivesTo X ["_law_ask", "e"] "_law_met" (defScope sMet) g cdg (defBody sMet) "_law_ask" q (TTMet CN CB) := by
  intro f c' s H Q tl act hc h
  refine ⟨_, pss_cons (ps_try_asM (X := (cxOf C8.CX0 X.prog X.w X.K X.mg X.base ["_law_ask", "e"] "_law_met" (defScope sMet) g cdg X.A X.stack s H C8.E0).nox) (i := 1) (nm := "e")
      (l := [(.ref CN, fun a cls d => tRet (tTup (tCons (tC (.str "thing")) (tCons (tFldNTx CN a cls d (tVar 1)) tNil)))), (.ref CB, fun a cls d => tRet (tTup (tCons (tC (.str "ceiling")) (tCons (tFldBCx CB a cls d (tVar 1)) tNil))))])
      (tb := fun W D σ H => ∃ Ech : XK, (∀ cls d σ' H', Ech cls d H' → σ'.length = 2 → W cls d σ' H') ∧ σ[0]? = some (some (.ref f)) ∧ H c' = some (LamX.CodeO c' q) ∧ tl Ech H fun _ H1 => D.nx σ H1)
      rfl rfl scMet.nd rfl rfl (fun W pn xe tk _ => ?_)
      (.cons ⟨rfl, by decide, .inl T1.gC⟩ (fun a oe cls d pn hz hf => pss_one (ps_ret (pe_tup (pa_cons pe_str (pa_cons (pe_fldNTx T1 hz hf (pv 1)) pa_nil)))))
      (.cons ⟨rfl, by decide, .inl T2.gC⟩ (fun a oe cls d pn hz hf => pss_one (ps_ret (pe_tup (pa_cons pe_str (pa_cons (pe_fldBCx T2 hz hf (pv 1)) pa_nil))))) .nil))) (pss_one (ps_ret pe_non)), ?_⟩
  · refine ⟨fun pins s' σ H' D I h' => ?_⟩
    obtain ⟨Ech, hW, h1, h2, h3⟩ := h'
    have hp := fun p1 p2 => act (fun cls d σ H => σ.length = 2 → W cls d σ H) pn xe Ech p1 p2 (takes_len tk) (fun cls d σ' H' h hl => hW cls d σ' H' h hl)
    exact (pss_one (ps_expr (hp _ _))).run pins s' σ H' D I ⟨h1, h2, h3⟩
  · refine ⟨EMet CN CB Q, fun cls d σ' H' ⟨dd, v, ed, hh⟩ hl => ?_, rfl, hc, h⟩
    have hs : ∀ a : Addr, (σ'.set 1 (some (V.ref a)))[1]? = some (some (V.ref a)) := fun a => List.getElem?_set_self (by omega)
    rcases hh with ⟨rfl, hd, hq⟩ | ⟨rfl, hd, hq⟩
    · refine ⟨true, T1.te, fun _ a ha => ?_, fun z => nomatch z⟩
      exact ⟨_, hs a, rfl, rfl, dd, v, ed, hd, by show 2 ≤ sizeLine; exact small_line (by decide), fun p hp => hq p hp⟩
    · refine ⟨false, h12, (fun z => Bool.noConfusion z), fun _ => ⟨true, T2.te, fun _ a ha => ?_, (fun z => Bool.noConfusion z)⟩⟩
      exact ⟨_, hs a, rfl, rfl, dd, v, ed, hd, by show 2 ≤ sizeLine; exact small_line (by decide), fun p hp => hq p hp⟩
/-! ## K23 -/
/-! ### the law's own state: a table of code objects beside; names hold data or the pool -/
def plainS : Sl → Bool
  | .no => true
  | .dat _ => true
  | .pool => true
  | _ => false
section
variable (K : PySem.W.Frag) (C : Addr)
inductive GSl (F : Hp) (p : Addr) (pl : Bool) : Option (Option V) → Sl → Prop
  | no (o : Option (Option V)) : GSl F p pl o .no
  | dat {v : V} {d : D} : Rep K C F v d → GSl F p pl (some (some v)) (.dat d)
  | pool : pl = true → GSl F p pl (some (some (.ref p))) .pool
abbrev Kp := List (Addr × List V × List D)
structure GS (Pt : Addr) (nm : Str) (kp : Kp) (pl : Bool) (p : Addr) (F : Hp) (n : Nat) (env : En) (σ : St) (H : Hp) : Prop where
  ex : Ex F H
  nt : ∀ a ps, F a ≠ some (.tbl ps)
  pool : pl = true → F p = none ∧ PoolOk H p n
  len : σ.length = env.length
  slots : ∀ (i : Nat) sl, env[i]? = some sl → GSl K C F p pl σ[i]? sl
  keep : ∀ t ∈ kp, F t.1 = some (.lst t.2.1) ∧ Reps K C F t.2.1 t.2.2
  tab : LamX.TabS H Pt nm
def GSt (Pt : Addr) (nm : Str) (kp : Kp) (pl : Bool) (p : Addr) (n : Nat) (env : En) (σ : St) (H : Hp) : Prop := ∃ F, GS K C Pt nm kp pl p F n env σ H
end
/-- what is no table -/
def noTab (F : Hp) : Hp := fun a => match F a with
  | some (.tbl _) => none
  | o => o
section
variable {K : PySem.W.Frag} {C : Addr} {F F' H H' : Hp} {W : Addr → Option Tg} {p Pt : Addr} {nm : Str} {kp : Kp} {pl : Bool} {n : Nat} {env : En} {σ : St}
theorem noTab_at {a : Addr} {o : HO} (h : F a = some o) (ho : ∀ ps, o ≠ .tbl ps) : noTab F a = some o := by
  unfold noTab
  rw [h]
  cases o with
  | tbl ps => exact absurd rfl (ho ps)
  | _ => rfl
theorem noTab_of {a : Addr} {o : HO} (h : noTab F a = some o) : F a = some o ∧ ∀ ps, o ≠ .tbl ps := by
  unfold noTab at h
  cases e : F a with
  | none => rw [e] at h; cases h
  | some u =>
    rw [e] at h
    cases u with
    | tbl ps => cases h
    | _ => cases h; exact ⟨rfl, fun ps z => by cases z⟩
theorem noTab_le : LeR K F (noTab F) where
  lst := fun a vs h => noTab_at h fun ps z => by cases z
  tup := fun a vs h => noTab_at h fun ps z => by cases z
  dK := fun a kvs h => by
    rcases h with h | ⟨o, h⟩
    · exact .inl (noTab_at h fun ps z => by cases z)
    · exact .inr ⟨o, noTab_at h fun ps z => by cases z⟩
  ins := fun a C dx fs h => noTab_at h fun ps z => by cases z
  sq := fun a xs h => by
    rcases h with (h | ⟨o, h⟩) | h
    · exact .inl (.inl (noTab_at h fun ps z => by cases z))
    · exact .inl (.inr ⟨o, noTab_at h fun ps z => by cases z⟩)
    · exact .inr h
theorem GSl.mono {o : Option (Option V)} {sl : Sl} (l : LeR K F F') (h : GSl K C F p pl o sl) : GSl K C F' p pl o sl := by
  cases h with
  | no => exact .no _
  | dat r => exact .dat (r.mono l)
  | pool h => exact .pool h
/-- all but tables stay: a step that makes a lambda -/
theorem GS.ext (G : GS K C Pt nm kp pl p F n env σ H) (e : LamX.ExtN H H') (t : LamX.TabS H' Pt nm) : GS K C Pt nm kp pl p F n env σ H' where
  ex := fun a o h => e a o (G.ex a o h) fun ps z => G.nt a ps (by rw [h, z])
  nt := G.nt
  pool := fun h => by
    obtain ⟨h1, a, b, c, h2, h3⟩ := G.pool h
    exact ⟨h1, a, b, c, e p _ h2 (fun ps z => by cases z), h3⟩
  len := G.len
  slots := G.slots
  keep := G.keep
  tab := t
/-- a new thing, frozen at once -/
theorem GS.fresh {q : Addr} {o : HO} (G : GS K C Pt nm kp pl p F n env σ H) (hq : H q = none) (ho : ∀ ps, o ≠ .tbl ps) : GS K C Pt nm kp pl p (upd F q o) n env σ (upd H q o) := by
  have hf : F q = none := by
    cases e : F q with
    | none => rfl
    | some u => rw [G.ex q u e] at hq; cases hq
  have e1 : Ex F (upd F q o) := Ex.new hf
  have e2 : Ex H (upd H q o) := Ex.new hq
  refine ⟨fun a u h => ?_, fun a ps h => ?_, fun h => ?_, G.len, fun i sl h => (G.slots i sl h).mono (LeR.of e1), fun t ht => ?_, G.tab.ext e2⟩
  · by_cases e : a = q
    · subst e; rw [upd_same] at h ⊢; exact h
    · rw [upd_ne e] at h ⊢; exact G.ex a u h
  · by_cases e : a = q
    · subst e; rw [upd_same] at h; exact ho ps (Option.some.inj h)
    · rw [upd_ne e] at h; exact G.nt a ps h
  · obtain ⟨h1, a, b, c, h2, h3⟩ := G.pool h
    have ne : p ≠ q := fun z => by rw [z, hq] at h2; cases h2
    exact ⟨by rw [upd_ne ne]; exact h1, a, b, c, by rw [upd_ne ne]; exact h2, h3⟩
  · obtain ⟨h1, h2⟩ := G.keep t ht
    exact ⟨e1 _ _ h1, h2.mono (LeR.of e1)⟩
/-- a name holds data now -/
theorem GS.set {i : Nat} {v : V} {d : D} (G : GS K C Pt nm kp pl p F n env σ H) (r : Rep K C F v d) : GS K C Pt nm kp pl p F n (env.set i (.dat d)) (σ.set i (some v)) H := by
  refine ⟨G.ex, G.nt, G.pool, by simpa using G.len, fun j sl h => ?_, G.keep, G.tab⟩
  by_cases e : i = j
  · subst e
    have hi : i < env.length := by
      have := (List.getElem?_eq_some_iff.mp h).1
      simpa using this
    rw [List.getElem?_set_self hi] at h
    cases h
    rw [List.getElem?_set_self (by rw [G.len]; exact hi)]
    exact .dat r
  · rw [List.getElem?_set_ne e] at h ⊢
    exact G.slots j sl h
/-- names are forgotten -/
theorem GS.forget {env' : En} (G : GS K C Pt nm kp pl p F n env σ H) (hl : env'.length = env.length) (h : ∀ (i : Nat) sl, env'[i]? = some sl → sl = .no ∨ env[i]? = some sl) : GS K C Pt nm kp pl p F n env' σ H :=
  ⟨G.ex, G.nt, G.pool, G.len.trans hl.symm, fun i sl hs => by
    rcases h i sl hs with rfl | z
    · exact .no _
    · exact G.slots i sl z, G.keep, G.tab⟩
/-- .. seen as a state of the data layer -/
theorem GS.stt (G : GS K C Pt nm kp pl p F n env σ H) : Stt K C ⟨F, H, p, pl⟩ F (fun _ => none) [] n env σ H :=
  ⟨Ex.refl _, G.ex, fun a o h _ => h, fun a o h => .inl h, (fun a i h => nomatch h), (fun h => by
    obtain ⟨h1, h2⟩ := G.pool h
    obtain ⟨a, b, c, h3, h4⟩ := id h2
    exact ⟨h1, ⟨_, h3⟩, h2⟩), G.len, (fun i sl h => by
    have s := G.slots i sl h
    generalize σ[i]? = o at s
    cases s with
    | no => exact .no _
    | dat r => exact .dat r
    | pool h1 => exact .pool h1), trivial⟩
/-- .. and back, the names holding data again -/
theorem GS.back {F1 : Hp} {n1 : Nat} {env1 : En} {σ1 : St} (G : GS K C Pt nm kp pl p F n env σ H) (S : Stt K C ⟨F, H, p, pl⟩ F1 W [] n1 env1 σ1 H') (he : env1.all plainS = true) : GS K C Pt nm kp pl p (noTab F1) n1 env1 σ1 H' where
  ex := fun a o h => S.ex2 a o (noTab_of h).1
  nt := fun a ps h => (noTab_of h).2 ps rfl
  pool := fun h => by
    obtain ⟨h1, _, h2⟩ := S.pool h
    refine ⟨?_, h2⟩
    cases e : noTab F1 p with
    | none => rfl
    | some o =>
      have h1 : F1 p = none := h1
      rw [(noTab_of e).1] at h1; cases h1
  len := S.len
  slots := fun i sl h => by
    have s := S.slots i sl h
    have pz := List.all_eq_true.mp he sl (List.mem_of_getElem? h)
    generalize σ1[i]? = o at s
    cases s with
    | no => exact .no _
    | dat r => exact .dat (r.mono noTab_le)
    | pool h1 => exact .pool h1
    | _ => cases pz
  keep := fun t ht => by
    obtain ⟨h1, h2⟩ := G.keep t ht
    exact ⟨noTab_le.lst (K := K) _ _ (S.ex1 _ _ h1), (h2.mono (LeR.of S.ex1)).mono noTab_le⟩
  tab := by
    obtain ⟨ps, h1, h2, h3⟩ := G.tab
    have kp : ∀ a o, H a = some o → (∀ x, o ≠ .lst x) → H' a = some o := fun a o h z => S.base a o h fun z1 z2 => by
      obtain ⟨_, x, y, c, h4, _⟩ := G.pool z1
      have z2 : a = p := z2
      rw [z2, h4] at h
      exact z _ (Option.some.inj h).symm
    refine ⟨ps, kp _ _ h1 (fun x z => by cases z), h2, fun pos cv hc => ?_⟩
    obtain ⟨c, e1, e2⟩ := h3 pos cv hc
    exact ⟨c, e1, kp _ _ e2 (fun x z => by unfold LamX.CodeO at z; cases z)⟩
end
/-! ### statements of the law -/
def StL (X : Cx) (C Pt : Addr) (nm : Str) (kp : Kp) (pl : Bool) (p : Addr) (sts : List Stmt) (n : Nat) (env : En) (Q : QN) : Prop := ∀ σ H (Z : Ends), GSt X.K C Pt nm kp pl p n env σ H → (∀ n' env' σ' H', Q n' env' → GSt X.K C Pt nm kp pl p n' env' σ' H' → Z.nx σ' H') → tSs X sts Z σ H
section
variable {X : Cx} {C Pt p : Addr} {nm : Str} {kp : Kp} {pl : Bool} {n : Nat} {env : En} {Q : QN} {st : Stmt} {sts : List Stmt}
theorem stl_nil (q : Q n env) : StL X C Pt nm kp pl p [] n env Q := fun σ H Z G r => of_pss pss_nil (r n env σ H q G)
/-- a statement of the data layer -/
theorem stl_cons (h : StS X C st n env { nx := fun n1 env1 => env1.all plainS = true ∧ StL X C Pt nm kp pl p sts n1 env1 Q, rt := fun _ _ => False }) : StL X C Pt nm kp pl p (st :: sts) n env Q := fun σ H Z ⟨F, G⟩ r =>
  of_pss (pss_cons ps_t pss_t) (h ⟨F, H, p, pl⟩ [] σ H _ ⟨F, _, G.stt⟩ (fun n1 env1 σ1 H1 q ⟨F1, W1, S1⟩ => q.2 σ1 H1 Z ⟨_, G.back S1 q.1⟩ r) (fun _ _ _ _ q _ => q.elim) (fun _ _ _ _ q _ => q.elim) (fun _ _ _ _ q _ => q.elim))
/-- .. its reading known -/
theorem stl_hand {t : TS} (hp : PS X st t) (h : ∀ F σ H (Z : Ends), GS X.K C Pt nm kp pl p F n env σ H → (∀ n1 env1 σ1 H1, GSt X.K C Pt nm kp pl p n1 env1 σ1 H1 → StL X C Pt nm kp pl p sts n1 env1 Q → Z.nx σ1 H1) → t Z σ H) : StL X C Pt nm kp pl p (st :: sts) n env Q := fun σ H Z ⟨F, G⟩ r =>
  of_pss (pss_cons hp pss_t) (h F σ H _ G fun n1 env1 σ1 H1 G1 q => q σ1 H1 Z G1 r)
theorem stl_forget (env' : En) (hl : env'.length = env.length) (he : ∀ (i : Nat) sl, env'[i]? = some sl → sl = .no ∨ env[i]? = some sl) (h : StL X C Pt nm kp pl p sts n env' Q) : StL X C Pt nm kp pl p sts n env Q := fun σ H Z ⟨F, G⟩ r => h σ H Z ⟨F, G.forget hl he⟩ r
/-- for x in ..: over a list that is data -/
theorem stl_for {k i : Nat} {N Vn Ln Gn : List Str} {x : Str} {px pos : Pos} {iter : Expr} {body : List Stmt} (hX : XOk X k N Vn Ln Gn) (hi : Ix N x i) (hx : x ∈ Ln)
    (h : Ev X C iter n env fun d n1 env1 => ∃ ds, d = .lst ds ∧ env1.all plainS = true ∧ ∃ Pv : Nat → Nat → En → Prop, Pv 0 n1 env1 ∧
      (∀ (j : Nat) d' n2 env2 a vs, ds[j]? = some d' → Pv j n2 env2 → StL X C Pt nm ((a, vs, ds) :: kp) pl p body n2 (env2.set i (.dat d')) (Pv (j + 1))) ∧ ∀ n2 env2, Pv ds.length n2 env2 → StL X C Pt nm kp pl p sts n2 env2 Q)
    (hs : ∀ v, foldedSetIterable iter X.env v = pure v := by intro _; rfl) : StL X C Pt nm kp pl p (.For (.Name x px) iter body [] pos :: sts) n env Q := fun σ H Z ⟨F, G⟩ r => by
  have nd : X.N.Nodup := by rw [hX.hN]; exact hX.nd
  obtain ⟨l1, l2⟩ := hX.loc x hx
  refine of_pss (pss_cons (ps_for hX.pass hX.calm (pi_list pe_t) (pg_name nd (hX.get hi.get) l1 l2) pss_t hs) pss_t) ?_
  refine h ⟨F, H, p, pl⟩ [] σ H _ ⟨F, _, G.stt⟩ fun v H1 d n1 env1 ⟨ds, hd, hpl, Pv, p0, turn, fin⟩ S1 => ?_
  subst hd
  obtain ⟨F1, W1, S1⟩ := S1
  have t := S1.temps.1
  cases t with
  | dat rp =>
    cases rp with
    | @lst a vs _ g1 g2 =>
      have G1 := G.back S1.pop hpl
      have k1 : noTab F1 a = some (.lst vs) := noTab_le.lst (K := X.K) _ _ g1
      have k2 : Reps X.K C (noTab F1) vs ds := g2.mono noTab_le
      have G2 : GS X.K C Pt nm ((a, vs, ds) :: kp) pl p (noTab F1) n1 env1 σ H1 := ⟨G1.ex, G1.nt, G1.pool, G1.len, G1.slots, fun t ht => by
        rcases List.mem_cons.mp ht with rfl | ht
        · exact ⟨k1, k2⟩
        · exact G1.keep t ht, G1.tab⟩
      refine ⟨a, rfl, ⟨vs, SqL.of (S1.ex2 _ _ g1)⟩, ?_⟩
      refine for_list (K := X.K) (a := a) (xs := vs) (fun j σ H => ∃ n2 env2, Pv j n2 env2 ∧ GSt X.K C Pt nm ((a, vs, ds) :: kp) pl p n2 env2 σ H) ⟨n1, env1, p0, _, G2⟩ ?_ ?_ ?_
      · rintro j σ2 H2 _ ⟨n2, env2, _, F2, G2⟩
        exact SqL.of (G2.ex _ _ (G2.keep _ List.mem_cons_self).1)
      · rintro j y σ2 H2 hy ⟨n2, env2, hp, F2, G2⟩
        obtain ⟨d', hd', rd⟩ := (G2.keep _ List.mem_cons_self).2.getV hy
        exact turn j d' n2 env2 a vs hd' hp _ H2 _ ⟨F2, G2.set rd⟩ fun n' env' σ' H' q G' => ⟨n', env', q, G'⟩
      · rintro σ2 H2 ⟨n2, env2, hp, F2, G2⟩
        rw [g2.length] at hp
        exact fin n2 env2 hp σ2 H2 Z ⟨F2, G2.ex, G2.nt, G2.pool, G2.len, G2.slots, fun t ht => G2.keep t (List.mem_cons_of_mem _ ht), G2.tab⟩ r
/-- x(lambda: f(..)), where f raises an error of NoThing, of BadCeiling: the pair of a word and what the error holds, new -/
theorem lam_end {CN CB CS : Addr} {fld : Str} {i : Nat} {R : List D → Prop} {ta : TA} {vs : List V} {ds : List D} {v : V} {F : Hp} {σ : L2.St} {H : Hp} {Qv : VK} (G : GS X.K C Pt nm kp pl p F n env σ H)
    (hta : ∀ H1 (Q : List V → Hp → Prop), Q vs H1 → ta σ H1 Q) (re : Reps X.K C F vs ds) (hR : R ds) (hi : vs[i]? = some v) (cs : CS = CN ∧ fld = "thing" ∨ CS = CB ∧ fld = "ceiling")
    (k : ∀ H2 q, LamX.ExtN H H2 → LamX.TabS H2 Pt nm → H2 q = none → Qv (.ref q) (upd H2 q (.tup [.str fld, v]))) :
    LamX.tLam [(Pt, nm)] (TTMet CN CB) (fun E => tCall (spX X.K C CS fld i R) [] E ta) σ H Qv := by
  refine ⟨fun t ht => ?_, fun H1 eN T1 => ?_⟩
  · rw [List.mem_singleton.mp ht]; exact G.tab
  · have tab1 : LamX.TabS H1 Pt nm := T1 _ (List.mem_singleton.mpr rfl)
    have G1 := G.ext eN tab1
    refine hta H1 _ ?_
    show spX X.K C CS fld i R (vs ++ []) H1 _ _
    rw [List.append_nil]
    refine ⟨F, ds, G1.ex, re, hR, fun H' d v' ex hv hd => ?_⟩
    rw [hi] at hv
    cases hv
    have e2 : LamX.ExtN H H' := eN.trans (LamX.ExtN.of ex)
    refine ⟨d, v, rfl, ?_⟩
    rcases cs with ⟨rfl, rfl⟩ | ⟨rfl, rfl⟩
    · exact .inl ⟨rfl, hd, fun q hq => k H' q e2 (tab1.ext ex) hq⟩
    · exact .inr ⟨rfl, hd, fun q hq => k H' q e2 (tab1.ext ex) hq⟩
end
/-! ## F26 -/
/-! ### the law -/
abbrev sLaw : Stmt := topS 48
abbrev nLaw : List Str := ["_law_script", "_law_turn", "_law_pool_here", "_law_jobs_here", "_law_things", "_law_found", "_law_made_here", "_law_odd", "_law_thing"]
theorem scLaw : FnScope nLaw ["_law_script"] (defScope sLaw) := ⟨rfl, rfl, rfl, by decide +kernel, rfl, by decide +kernel, by decide +kernel⟩
abbrev gLaw : List Str := ["_law_jobs", "_law_take", "_law_made", "sorted", "_law_ceilings", "_law_thing_right", "_law_one", "_law_same"]
def forB : Stmt → List Stmt
  | .For _ _ b _ _ => b
  | _ => []
abbrev lawB : List Stmt := forB (bodyAt sLaw 0)
def nthB (l : List Stmt) (i : Nat) : Stmt := l.getD i (.Pass ⟨0, 0, 0, 0⟩)
abbrev thB' : List Stmt := forB (nthB lawB 3)
theorem GS.dat {K : PySem.W.Frag} {C Pt p : Addr} {nm : Str} {kp : Kp} {pl : Bool} {F H : Hp} {n : Nat} {env : En} {σ : L2.St} {i : Nat} {d : D} (G : GS K C Pt nm kp pl p F n env σ H) (h : env[i]? = some (.dat d)) : ∃ v, σ[i]? = some (some v) ∧ Rep K C F v d := by
  have s := G.slots i _ h
  generalize σ[i]? = o at s
  cases s with
  | dat r => exact ⟨_, rfl, r⟩
theorem GS.grow {K : PySem.W.Frag} {C Pt p : Addr} {nm : Str} {kp : Kp} {pl : Bool} {F H H' : Hp} {n : Nat} {env : En} {σ : L2.St} (G : GS K C Pt nm kp pl p F n env σ H) (e : Ex H H') : GS K C Pt nm kp pl p F n env σ H' :=
  G.ext (LamX.ExtN.of e) (G.tab.ext e)
/-- odd things, odd ceilings -/
abbrev oddC : List D := [.non, .int (-1), .bl true, .str "0", .tup [.int 1], .lst []]
abbrev oddZ : List D := [.non, .int 5, .str "", .str "nothing", .lst [], .dct [], .bl true]
theorem oddC_ok : ∀ d ∈ oddC, (tyD d).isSome = true ∧ isNatD d = false ∧ okS 4 (.lst [.tup [.str "ceiling", d]]) = true := by
  intro d hd
  simp only [List.mem_cons, List.not_mem_nil, or_false] at hd
  rcases hd with rfl | rfl | rfl | rfl | rfl | rfl <;> exact ⟨rfl, rfl, rfl⟩
theorem oddZ_ok : ∀ d ∈ oddZ, (tyD d).isSome = true ∧ (∀ s, d = .str s → s.length ≤ 1000) ∧ (isWordD d = false ∨ (d = .str "nothing" ∧ isWordD d = true)) ∧ okS 4 (.lst [.tup [.str "thing", d], .tup [.str "thing", d]]) = true := by
  intro d hd
  simp only [List.mem_cons, List.not_mem_nil, or_false] at hd
  rcases hd with rfl | rfl | rfl | rfl | rfl | rfl | rfl
  · exact ⟨rfl, (fun s z => nomatch z), .inl rfl, rfl⟩
  · exact ⟨rfl, (fun s z => nomatch z), .inl rfl, rfl⟩
  · exact ⟨rfl, (fun s z => by cases z; decide), .inl (by decide +kernel), rfl⟩
  · exact ⟨rfl, (fun s z => by cases z; decide), .inr ⟨rfl, by decide +kernel⟩, rfl⟩
  · exact ⟨rfl, (fun s z => nomatch z), .inl rfl, rfl⟩
  · exact ⟨rfl, (fun s z => nomatch z), .inl rfl, rfl⟩
  · exact ⟨rfl, (fun s z => nomatch z), .inl rfl, rfl⟩
theorem ceil_mem {js : List Jb} (h : OkJs js) {t : Str} (hc : (ceilO js t).isSome = true) : (∃ j ∈ js, t ∈ thB j.bd) ∧ t ∈ things3 := by
  have : ¬ ∀ j ∈ js, t ∉ thB j.bd := fun z => by rw [ceilO_none.mpr z] at hc; cases hc
  obtain ⟨j, hj⟩ := Classical.not_forall.mp this
  obtain ⟨hj, ht⟩ := Classical.not_imp.mp hj
  have ht := Classical.not_not.mp ht
  exact ⟨⟨j, hj, ht⟩, thB_wf _ (h.ok j hj).wf _ ht⟩
theorem nothing_none {js : List Jb} (h : OkJs js) : ceilO js "nothing" = none := by
  cases e : ceilO js "nothing" with
  | none => rfl
  | some c =>
    have := (ceil_mem h (t := "nothing") (by rw [e]; rfl)).2
    exact absurd this (by decide +kernel)
section
variable {X : Cx} {C CN CB Pt p : Addr} {nm : Str} {kp : Kp}
/-- what the lambdas say -/
abbrev t1 (K : PySem.W.Frag) (C CN CB Pt : Addr) (nm : Str) : TE := LamX.tLam [(Pt, nm)] (TTMet CN CB) fun E => tCall (spX K C CB "ceiling" 2 RTanY) [] E (tCons (tVar 6) (tCons (tVar 8) (tCons (tVar 7) tNil)))
abbrev t2 (K : PySem.W.Frag) (C CN CB Pt : Addr) (nm : Str) : TE := LamX.tLam [(Pt, nm)] (TTMet CN CB) fun E => tCall (spX K C CN "thing" 1 RTanX) [] E (tCons (tVar 6) (tCons (tVar 7) (tCons (tC .non) tNil)))
abbrev t3 (K : PySem.W.Frag) (C CN CB Pt : Addr) (nm : Str) : TE := LamX.tLam [(Pt, nm)] (TTMet CN CB) fun E => tCall (spX K C CN "thing" 1 RCeilX) [] E (tCons (tVar 6) (tCons (tVar 7) tNil))
theorem lam1 {pl : Bool} {n : Nat} {ns t things s5 : Sl} {jz : Sl} {ms : List Jb} {kz : List (Str × D)} {x : Str} {c d : D} {sts : List Stmt} {Q : QN} {st : Stmt} (L1 : PS X st (tAsg (tLst (tCons (t1 X.K C CN CB Pt nm) tNil)) (gName 5)))
    (ht : x ∈ things3) (hg : getK x kz = some d) (hc : (tyD c).isSome = true) (hn : isNatD c = false)
    (h : StL X C Pt nm kp pl p sts n [ns, t, .pool, jz, things, .dat (.lst [.tup [.str "ceiling", c]]), .dat (objD ms kz), .dat c, .dat (.str x)] Q) : StL X C Pt nm kp pl p (st :: sts) n [ns, t, .pool, jz, things, s5, .dat (objD ms kz), .dat c, .dat (.str x)] Q := by
  refine stl_hand L1 fun F σ H Z G r => ?_
  obtain ⟨v6, h6, r6⟩ := G.dat (i := 6) rfl
  obtain ⟨v7, h7, r7⟩ := G.dat (i := 7) rfl
  obtain ⟨v8, h8, r8⟩ := G.dat (i := 8) rfl
  refine lam_end G (vs := [v6, v8, v7]) (fun H1 Q q => ⟨v6, h6, v8, h8, v7, h7, q⟩) (.cons r6 (.cons r8 (.cons r7 .nil))) ⟨ms, kz, x, c, d, rfl, ht, hg, hc, hn⟩ rfl (.inr ⟨rfl, rfl⟩) fun H2 q eN tab hq => ?_
  refine ⟨small_line (show 1 ≤ 100000 by decide), fun l hl => ?_⟩
  have G1 := ((G.ext eN tab).fresh hq (o := .tup [.str "ceiling", v7]) fun ps z => by cases z).fresh hl (o := .lst [.ref q]) fun ps z => by cases z
  have e1 : Ex F (upd F q (.tup [.str "ceiling", v7])) := Ex.new (by
    cases e : F q with
    | none => rfl
    | some u => rw [(G.ext eN tab).ex q u e] at hq; cases hq)
  have hfl : upd F q (.tup [.str "ceiling", v7]) l = none := by
    cases e : upd F q (.tup [.str "ceiling", v7]) l with
    | none => rfl
    | some u => rw [((G.ext eN tab).fresh hq (o := .tup [.str "ceiling", v7]) fun ps z => by cases z).ex l u e] at hl; cases hl
  have e2 : Ex (upd F q (.tup [.str "ceiling", v7])) (upd (upd F q (.tup [.str "ceiling", v7])) l (.lst [.ref q])) := Ex.new hfl
  have r1 : Rep X.K C (upd (upd F q (.tup [.str "ceiling", v7])) l (.lst [.ref q])) (.ref l) (.lst [.tup [.str "ceiling", c]]) :=
    .lst upd_same (.cons (.tup (e2 _ _ upd_same) (.cons (.str _) (.cons (r7.mono (LeR.of (e1.trans e2))) .nil))) .nil)
  exact r n _ _ _ ⟨_, G1.set (i := 5) r1⟩ h
theorem fresh_none {K : PySem.W.Frag} {C Pt p q : Addr} {nm : Str} {kp : Kp} {pl : Bool} {F H : Hp} {n : Nat} {env : En} {σ : L2.St} (G : GS K C Pt nm kp pl p F n env σ H) (h : H q = none) : F q = none := by
  cases e : F q with
  | none => rfl
  | some u => rw [G.ex q u e] at h; cases h
/-- a thing that is nobody's is frozen as it stands now -/
theorem GS.refresh {K : PySem.W.Frag} {C Pt p q : Addr} {nm : Str} {kp : Kp} {pl : Bool} {F H : Hp} {n : Nat} {env : En} {σ : L2.St} {xs ys : List V} (G : GS K C Pt nm kp pl p F n env σ H) (hf : F q = none) (hq : H q = some (.lst xs)) (hp : pl = true → q ≠ p) : GS K C Pt nm kp pl p (upd F q (.lst ys)) n env σ (upd H q (.lst ys)) := by
  have e1 : Ex F (upd F q (.lst ys)) := Ex.new hf
  refine ⟨fun a u h => ?_, fun a ps h => ?_, fun h => ?_, G.len, fun i sl h => (G.slots i sl h).mono (LeR.of e1), fun t ht => ?_, ?_⟩
  · by_cases e : a = q
    · subst e; rw [upd_same] at h ⊢; exact h
    · rw [upd_ne e] at h ⊢; exact G.ex a u h
  · by_cases e : a = q
    · subst e; rw [upd_same] at h; cases h
    · rw [upd_ne e] at h; exact G.nt a ps h
  · obtain ⟨h1, a, b, c, h2, h3⟩ := G.pool h
    have ne : p ≠ q := fun z => hp h z.symm
    exact ⟨by rw [upd_ne ne]; exact h1, a, b, c, by rw [upd_ne ne]; exact h2, h3⟩
  · obtain ⟨h1, h2⟩ := G.keep t ht
    exact ⟨e1 _ _ h1, h2.mono (LeR.of e1)⟩
  · obtain ⟨ps, h1, h2, h3⟩ := G.tab
    have ne : ∀ a o, H a = some o → (∀ x, o ≠ .lst x) → upd H q (.lst ys) a = some o := fun a o h z => by
      rw [upd_ne (fun e => by rw [e, hq] at h; exact z _ (Option.some.inj h).symm)]; exact h
    refine ⟨ps, ne _ _ h1 (fun x z => by cases z), h2, fun pos cv hc => ?_⟩
    obtain ⟨c, z1, z2⟩ := h3 pos cv hc
    exact ⟨c, z1, ne _ _ z2 (fun x z => by unfold LamX.CodeO at z; cases z)⟩
theorem stl_hand2 {pl : Bool} {n : Nat} {env : En} {Q : QN} {st st2 : Stmt} {sts : List Stmt} {u1 u2 : TS} (hp : PS X st u1) (hp2 : PS X st2 u2) (h : ∀ F σ H (Z : Ends), GS X.K C Pt nm kp pl p F n env σ H → (∀ n1 env1 σ1 H1, GSt X.K C Pt nm kp pl p n1 env1 σ1 H1 → StL X C Pt nm kp pl p sts n1 env1 Q → Z.nx σ1 H1) → u1 { Z with nx := u2 Z } σ H) : StL X C Pt nm kp pl p (st :: st2 :: sts) n env Q := fun σ H Z ⟨F, G⟩ r =>
  of_pss (pss_cons hp (pss_cons hp2 pss_t)) (h F σ H { Z with nx := tSs X sts Z } G fun n1 env1 σ1 H1 G1 q => q σ1 H1 Z G1 r)
theorem lam2 {n : Nat} {ns t things s5 : Sl} {jz s8 : Sl} {ms : List Jb} {kz : List (Str × D)} {z : D} {sts : List Stmt} {Q : QN} {st st2 : Stmt} (L2 : PS X st (tAsg (tLst (tCons (t2 X.K C CN CB Pt nm) tNil)) (gName 5)))
    (L3 : PS X st2 (tDrop (tBM X.K "list" rAppend (tVar 5) (tCons (t3 X.K C CN CB Pt nm) tNil)))) (hz : oddT z kz)
    (h : StL X C Pt nm kp true p sts n [ns, t, .pool, jz, things, .dat (.lst [.tup [.str "thing", z], .tup [.str "thing", z]]), .dat (objD ms kz), .dat z, s8] Q) : StL X C Pt nm kp true p (st :: st2 :: sts) n [ns, t, .pool, jz, things, s5, .dat (objD ms kz), .dat z, s8] Q := by
  refine stl_hand2 L2 L3 fun F σ H Z G r => ?_
  obtain ⟨v6, h6, r6⟩ := G.dat (i := 6) rfl
  obtain ⟨v7, h7, r7⟩ := G.dat (i := 7) rfl
  have hlen : σ.length = 9 := G.len
  refine lam_end G (vs := [v6, v7, .non]) (fun H1 Q q => ⟨v6, h6, v7, h7, q⟩) (.cons r6 (.cons r7 (.cons .non .nil))) ⟨ms, kz, z, .non, rfl, hz⟩ rfl (.inl ⟨rfl, rfl⟩) fun H2 q eN tab hq => ?_
  refine ⟨small_line (show 1 ≤ 100000 by decide), fun l hl => ?_⟩
  have G1 := (G.ext eN tab).fresh hq (o := .tup [.str "thing", v7]) fun ps z => by cases z
  have e1 : Ex F (upd F q (.tup [.str "thing", v7])) := Ex.new (fresh_none (G.ext eN tab) hq)
  have fl := fresh_none G1 hl
  have np : l ≠ p := fun e => by
    obtain ⟨_, a, b, c, h2, _⟩ := G1.pool rfl
    rw [← e, hl] at h2; cases h2
  have G2 := ((G1.grow (Ex.new hl (o := .lst [.ref q]))).forget (env' := [ns, t, .pool, jz, things, .no, .dat (objD ms kz), .dat z, s8]) rfl (fun i sl h => by
    match i, h with
    | 0, h => exact .inr h
    | 1, h => exact .inr h
    | 2, h => exact .inr h
    | 3, h => exact .inr h
    | 4, h => exact .inr h
    | 5, h => exact .inl (Option.some.inj h).symm
    | 6, h => exact .inr h
    | 7, h => exact .inr h
    | 8, h => exact .inr h))
  have G3 : GS X.K C Pt nm kp true p (upd F q (.tup [.str "thing", v7])) n [ns, t, .pool, jz, things, .no, .dat (objD ms kz), .dat z, s8] (σ.set 5 (some (.ref l))) (upd (upd H2 q (.tup [.str "thing", v7])) l (.lst [.ref q])) :=
    ⟨G2.ex, G2.nt, G2.pool, by simpa using G2.len, fun i sl h => by
      by_cases e : 5 = i
      · subst e
        have h : some Sl.no = some sl := h
        cases h
        exact .no _
      · rw [List.getElem?_set_ne e]
        exact G2.slots i sl h, G2.keep, G2.tab⟩
  have hs5 : (σ.set 5 (some (V.ref l)))[5]? = some (some (V.ref l)) := List.getElem?_set_self (by omega)
  refine ⟨.ref l, hs5, .inl ⟨rfl, _, SqL.of upd_same⟩, ?_⟩
  have hs6 : (σ.set 5 (some (V.ref l)))[6]? = some (some v6) := by rw [List.getElem?_set_ne (by decide)]; exact h6
  have hs7 : (σ.set 5 (some (V.ref l)))[7]? = some (some v7) := by rw [List.getElem?_set_ne (by decide)]; exact h7
  refine lam_end G3 (vs := [v6, v7]) (fun H1 Q q => ⟨v6, hs6, v7, hs7, q⟩) (.cons (r6.mono (LeR.of e1)) (.cons (r7.mono (LeR.of e1)) .nil)) ⟨ms, kz, z, rfl, hz⟩ rfl (.inl ⟨rfl, rfl⟩) fun H3 q2 eN2 tab2 hq2 => ?_
  have hl3 : H3 l = some (.lst [.ref q]) := eN2 l _ upd_same fun ps z => by cases z
  have ne2 : l ≠ q2 := fun e => by rw [← e, hl3] at hq2; cases hq2
  have G4 := (G3.ext eN2 tab2).fresh hq2 (o := .tup [.str "thing", v7]) fun ps z => by cases z
  have fq2 := fresh_none (G3.ext eN2 tab2) hq2
  have e2 : Ex (upd F q (.tup [.str "thing", v7])) (upd (upd F q (.tup [.str "thing", v7])) q2 (.tup [.str "thing", v7])) := Ex.new fq2
  have fl4 : upd (upd F q (.tup [.str "thing", v7])) q2 (.tup [.str "thing", v7]) l = none := by rw [upd_ne ne2]; exact fl
  have hl4 : upd H3 q2 (.tup [.str "thing", v7]) l = some (.lst [.ref q]) := by rw [upd_ne ne2]; exact hl3
  refine ⟨l, [.ref q], .ref q2, rfl, rfl, hl4, Nat.lt_of_lt_of_le (show 1 < 100000 by decide) (small_line (Nat.le_refl _)), ?_⟩
  have G5 := G4.refresh (ys := [.ref q, .ref q2]) fl4 hl4 fun _ => np
  have e3 : Ex (upd (upd F q (.tup [.str "thing", v7])) q2 (.tup [.str "thing", v7])) (upd (upd (upd F q (.tup [.str "thing", v7])) q2 (.tup [.str "thing", v7])) l (.lst [.ref q, .ref q2])) := Ex.new fl4
  have rz := r7.mono (LeR.of (K := X.K) (e1.trans (e2.trans e3)))
  have rl : Rep X.K C (upd (upd (upd F q (.tup [.str "thing", v7])) q2 (.tup [.str "thing", v7])) l (.lst [.ref q, .ref q2])) (.ref l) (.lst [.tup [.str "thing", z], .tup [.str "thing", z]]) :=
    .lst upd_same (.cons (.tup (e3 _ _ (e2 _ _ upd_same)) (.cons (.str _) (.cons rz .nil))) (.cons (.tup (e3 _ _ upd_same) (.cons (.str _) (.cons rz .nil))) .nil))
  have G6 := G5.set (i := 5) rl
  rw [List.set_set] at G6
  exact r n _ _ _ ⟨_, by
    have e : (σ.set 5 (some (V.ref l))).set 5 (some (V.ref l)) = σ.set 5 (some (V.ref l)) := by rw [List.set_set]
    exact G6⟩ h
end
/-! ## F27 -/
section
variable {X : Cx} {C CN CB Pt p : Addr} {nm : Str}
theorem getD_iso {α : Type} {o : Option α} (h : o.isSome = true) : ∃ x, o = some x := Option.isSome_iff_exists.mp h
/-- a turn of the law, behind the making of the pool -/
theorem turn_rest (e6 : X.env.scope = defScope sLaw) (hX : XOk X 9 nLaw nLaw nLaw gLaw) (m1 : X.mg "sorted" = none)
    (f1 : FnD X.prog X.w X.K X.mg X.base C "_law_take" 1 true RTake) (f2 : FnD X.prog X.w X.K X.mg X.base C "_law_one" 2 true ROne) (f3 : FnD X.prog X.w X.K X.mg X.base C "_law_jobs" 6 true RJobs) (f4 : FnD X.prog X.w X.K X.mg X.base C "_law_made" 9 true RMade) (f5 : FnD X.prog X.w X.K X.mg X.base C "_law_ceilings" 4 false RCeils) (f6 : FnD X.prog X.w X.K X.mg X.base C "_law_thing_right" 6 true RThing) (f7 : FnD X.prog X.w X.K X.mg X.base C "_law_same" 5 false (RSame 4))
    (L1 : PS X (nthB thB' 2) (tAsg (tLst (tCons (t1 X.K C CN CB Pt nm) tNil)) (gName 5))) (L2 : PS X (nthB lawB 5) (tAsg (tLst (tCons (t2 X.K C CN CB Pt nm) tNil)) (gName 5))) (L3 : PS X (nthB lawB 6) (tDrop (tBM X.K "list" rAppend (tVar 5) (tCons (t3 X.K C CN CB Pt nm) tNil))))
    {ns : List Int} {t : Nat} : StL X C Pt nm [] true p (lawB.drop 1) 1000000000 [.dat (.scr ns), .dat (.int (t : Nat)), .pool, .no, .no, .no, .no, .no, .no] (fun _ env => ∃ s1 s2 s3 s4 s5 s6 s7 s8 : Sl, env = [.dat (.scr ns), s1, s2, s3, s4, s5, s6, s7, s8]) := by
  refine stl_cons ?_
  refine st_set (i := 3) hX (by walk_at "lk") (by walk_at "mem") ?_
  refine evr_of ?_
  refine Ev.imp (Q' := fun d n1 env1 => ∃ js : List Jb, OkJs js ∧ d = jobsD js ∧ 1000000000 ≤ n1 + 201 ∧ env1 = [.dat (.scr ns), .dat (.int (t : Nat)), .pool, .no, .no, .no, .no, .no, .no]) ?_ ?_
  · refine ev_callP f3 hX (by omega) (by walk_at "mem") ?_
    walk_at "go"
    refine ⟨3, rfl, by decide, by decide, by decide, fun j hj => ?_⟩
    refine o_addI ?_
    walk_at "go"
    refine ⟨2 + j, by congr 1, by omega, by omega, by decide, fun js n' h1 h2 h3 => ?_⟩
    exact ⟨js, h1, rfl, by omega, rfl⟩
  rintro d n1 env1 ⟨js, hjs, rfl, hn1, rfl⟩
  walk_at "up"
  refine ⟨rfl, ?_⟩
  have hj4 := hjs.l2
  -- the package's jobs, the things
  refine stl_cons ?_
  refine st_par2X hX ?_ (by generalize X.env = v at e6 ⊢; cases v; cases e6; rfl) (by generalize X.env = v at e6 ⊢; cases v; cases e6; rfl)
  refine evr_of ?_
  refine ev_callP f4 hX (by omega) (by walk_at "mem") ?_
  walk_at "go"
  refine ⟨js, rfl, hjs, by omega, fun ms kz n2 hms hkz hn2 => ?_⟩
  refine ⟨_, rfl, ?_⟩
  refine evr_of (ev_frz (evr_sorted hX m1 (by walk_at "mem") ?_))
  walk_at "go"
  refine ⟨js, rfl, hjs, fun ks hkn hks => ?_⟩
  have hkt : ∀ x ∈ ks.map (·.1), (∃ j ∈ js, x ∈ thB j.bd) ∧ x ∈ things3 := fun x hx => by
    have h1 := getK_isSome (t := x) (ks := ks)
    rw [decide_eq_true hx, hks] at h1
    exact ceil_mem hjs (by cases e : ceilO js x with
      | none => rw [e] at h1; cases h1
      | some c => rfl)
  have hkl : ks.length ≤ 3 := by
    have := nodup_len hkn fun x hx => (hkt x hx).2
    rw [List.length_map] at this
    exact this
  walk_at "go"
  refine f_sortK (by omega) fun ord ho1 ho2 => ?_
  refine ⟨_, rfl, ?_⟩
  refine eg_name (i := 6) hX (by walk_at "lk") (by walk_at "mem") ?_
  walk_at "up"
  refine eg_name (i := 4) hX (by walk_at "lk") (by walk_at "mem") ?_
  walk_at "up"
  refine ⟨rfl, ?_⟩
  have hmo := okJs_perm hms hjs
  have hcz : ∀ x, ceilO ms x = ceilO js x := fun x => (ceilO_perm hms x).symm
  -- the things one by one
  refine stl_for (i := 8) hX (by walk_at "lk") (by walk_at "mem") ?_
  refine ev_sliceTo ?_
  walk_at "go"
  refine ⟨_, rfl, ?_⟩
  walk_at "go"
  refine ⟨rfl, ?_⟩
  refine ⟨fun i n env => ∃ s5 s7 s8 : Sl, env = [.dat (.scr ns), .dat (.int (t : Nat)), .pool, .dat (jobsD js), .dat (.lst (ord.map .str)), s5, .dat (objD ms kz), s7, s8] ∧ plainS s5 = true ∧ plainS s7 = true ∧ plainS s8 = true ∧ 1000000000 ≤ n + 1000 + i * 500, ⟨.no, .no, .no, rfl, rfl, rfl, rfl, by omega⟩, ?_, ?_⟩
  · rintro i d n3 env3 a vs hd ⟨s5, s7, s8, rfl, p5, p7, p8, hn3⟩
    have hi2 : i < 2 := by
      have := (List.getElem?_eq_some_iff.mp hd).1
      rw [List.length_take] at this
      exact Nat.lt_of_lt_of_le this (Nat.min_le_left _ _)
    obtain ⟨x, hx, rfl⟩ := List.mem_map.mp (List.mem_of_mem_take (List.mem_of_getElem? hd))
    obtain ⟨hxj, hxt⟩ := hkt x (ho1.mem_iff.mp hx)
    obtain ⟨cx, hcx⟩ : ∃ d, getK x kz = some d := by
      have h1 := getK_isSome (t := x) (ks := ks)
      rw [decide_eq_true (ho1.mem_iff.mp hx), hks, ← hcz, ← hkz] at h1
      exact getD_iso h1
    walk_at "up"
    refine stl_cons ?_
    refine st_if ?_
    refine EvT.imp (Q' := fun kk n4 env4 => kk = false ∧ n3 ≤ n4 + 400 ∧ env4 = [.dat (.scr ns), .dat (.int (t : Nat)), .pool, .dat (jobsD js), .dat (.lst (ord.map .str)), s5, .dat (objD ms kz), s7, .dat (.str x)]) ?_ ?_
    · walk_at "go"
      refine ⟨js, ms, kz, x, rfl, hjs, hms, hkz, hxj, by omega, fun n' hn' => ?_⟩
      exact ⟨_, rfl, rfl, hn', rfl⟩
    rintro kk n4 env4 ⟨rfl, hn4, rfl⟩
    refine iteF ?_
    refine stb_nil ?_
    refine ⟨by show (_ && (_ && (_ && (_ && (_ && (plainS s5 && (_ && (plainS s7 && _)))))))) = true; rw [p5, p7]; rfl, ?_⟩
    refine stl_cons ?_
    refine st_set (i := 7) hX (by walk_at "lk") (by walk_at "mem") ?_
    refine evr_of ?_
    refine Ev.imp (Q' := fun d n5 env5 => d ∈ oddC ∧ n4 ≤ n5 + 1 ∧ env5 = [.dat (.scr ns), .dat (.int (t : Nat)), .pool, .dat (jobsD js), .dat (.lst (ord.map .str)), s5, .dat (objD ms kz), s7, .dat (.str x)]) ?_ ?_
    · walk_at "go"
      refine ⟨oddC, rfl, by decide, by decide, by omega, fun j d hd => ⟨List.mem_of_getElem? hd, by omega, rfl⟩⟩
    rintro c n5 env5 ⟨hc, hn5, rfl⟩
    obtain ⟨c1, c2, c3⟩ := oddC_ok c hc
    walk_at "up"
    refine ⟨by show (_ && (_ && (_ && (_ && (_ && (plainS s5 && _)))))) = true; rw [p5]; rfl, ?_⟩
    refine lam1 L1 hxt hcx c1 c2 ?_
    refine stl_cons ?_
    refine st_if ?_
    refine EvT.imp (Q' := fun kk n6 env6 => kk = false ∧ n6 = n5 ∧ env6 = [.dat (.scr ns), .dat (.int (t : Nat)), .pool, .dat (jobsD js), .dat (.lst (ord.map .str)), .dat (.lst [.tup [.str "ceiling", c]]), .dat (objD ms kz), .dat c, .dat (.str x)]) ?_ ?_
    · walk_at "go"
      exact ⟨_, rfl, c3, _, rfl, rfl, rfl, rfl⟩
    rintro kk n6 env6 ⟨rfl, rfl, rfl⟩
    refine iteF ?_
    refine stb_nil ?_
    refine ⟨rfl, ?_⟩
    refine stl_nil ?_
    exact ⟨_, _, _, rfl, rfl, rfl, rfl, by omega⟩
  · rintro n3 env3 ⟨s5, s7, s8, rfl, p5, p7, p8, hn3⟩
    have hl2 : ((ord.map D.str).take 2).length ≤ 2 := by
      rw [List.length_take]; exact Nat.min_le_left _ _
    have hn3 : 1000000000 ≤ n3 + 2000 := by
      have hq : ∀ m : Nat, m ≤ 2 → 1000000000 ≤ n3 + 1000 + m * 500 → 1000000000 ≤ n3 + 2000 := fun m h1 h2 => by omega
      exact hq _ hl2 hn3
    refine stl_cons ?_
    refine st_set (i := 7) hX (by walk_at "lk") (by walk_at "mem") ?_
    refine evr_of ?_
    refine Ev.imp (Q' := fun d n5 env5 => d ∈ oddZ ∧ n3 ≤ n5 + 1 ∧ env5 = [.dat (.scr ns), .dat (.int (t : Nat)), .pool, .dat (jobsD js), .dat (.lst (ord.map .str)), s5, .dat (objD ms kz), s7, s8]) ?_ ?_
    · walk_at "go"
      refine ev_frz (evr_dict0 ⟨_, rfl, ?_⟩)
      walk_at "go"
      refine ⟨oddZ, rfl, by decide, by decide, by omega, fun j d hd => ⟨List.mem_of_getElem? hd, by omega, rfl⟩⟩
    rintro z n5 env5 ⟨hz, hn5, rfl⟩
    obtain ⟨z1, z2, z3, z4⟩ := oddZ_ok z hz
    have hod : oddT z kz := ⟨z1, z2, by
      rcases z3 with z3 | ⟨rfl, z3⟩
      · exact .inl z3
      · exact .inr ⟨_, rfl, z3, by rw [hkz, nothing_none hmo]; rfl⟩⟩
    walk_at "up"
    refine ⟨by show (_ && (_ && (_ && (_ && (_ && (plainS s5 && (_ && (_ && (plainS s8 && _))))))))) = true; rw [p5, p8]; rfl, ?_⟩
    refine lam2 L2 L3 hod ?_
    refine stl_cons ?_
    refine st_if ?_
    refine EvT.imp (Q' := fun kk n6 env6 => kk = false ∧ n6 = n5 ∧ env6 = [.dat (.scr ns), .dat (.int (t : Nat)), .pool, .dat (jobsD js), .dat (.lst (ord.map .str)), .dat (.lst [.tup [.str "thing", z], .tup [.str "thing", z]]), .dat (objD ms kz), .dat z, s8]) ?_ ?_
    · walk_at "go"
      refine o_repL (n := 2) (by decide) (show 1 * 2 ≤ 100000 by decide) ?_
      walk_at "go"
      exact ⟨_, rfl, z4, _, rfl, rfl, rfl, rfl⟩
    rintro kk n6 env6 ⟨rfl, rfl, rfl⟩
    refine iteF ?_
    refine stb_nil ?_
    refine ⟨by show (_ && (_ && (_ && (_ && (_ && (_ && (_ && (_ && (plainS s8 && _))))))))) = true; rw [p8]; rfl, ?_⟩
    refine stl_nil ?_
    exact ⟨_, _, _, _, _, _, _, _, rfl⟩
end
/-! ## F28 -/
/-! ### the law keeps its promise -/
abbrev nmL : Str := ((("law" : Str) ++ (".<locals>." : Str)) ++ ("<lambda>" : Str))
def spLaw (K : PySem.W.Frag) (Pt : Addr) : Sp := fun vs H Q _ => ∃ (a : Addr) (ns : List Int), vs = [.ref a] ∧ SqL K H a (ns.map V.int) ∧ H Pt = some (.tbl #[]) ∧ ∀ H', Q (.bl true) H'
theorem GS.withPool {K : PySem.W.Frag} {C Pt p0 : Addr} {nm : Str} {kp : Kp} {F H H' : Hp} {n m i : Nat} {env : En} {σ : L2.St} {v : V} {a b : Int} (G : GS K C Pt nm kp false p0 F n env σ H) (S : Sta K C ⟨F, H, 0, false⟩ [(v, .fl [.int a, .int b, .int 0])] m [] [] H') (ha : 0 ≤ a) (hb : 0 ≤ b) (hb2 : b < 1000000007) :
    ∃ q, GSt K C Pt nm kp true q 1000000000 (env.set i .pool) (σ.set i (some v)) H' := by
  obtain ⟨F1, W1, S⟩ := S
  have t := S.temps.1
  have e3 : Ex H H' := fun x o h => S.base x o h fun z => nomatch z
  cases t with
  | @fl q vs _ hw hq hr =>
    obtain ⟨h1, h2, _⟩ := S.own q _ hw
    cases hr with
    | cons ra hr =>
      cases ra
      cases hr with
      | cons rb hr =>
        cases rb
        cases hr with
        | cons rc hr =>
          cases rc
          cases hr
          refine ⟨q, noTab F1, fun x o h => S.ex2 x o (noTab_of h).1, fun x ps h => (noTab_of h).2 ps rfl, fun _ => ⟨?_, a, b, 0, hq, ha, hb, hb2, by decide, by decide⟩, by simpa using G.len, fun j sl h => ?_, fun t ht => ?_, G.tab.ext e3⟩
          · cases e : noTab F1 q with
            | none => rfl
            | some o => rw [(noTab_of e).1] at h1; cases h1
          · by_cases e : i = j
            · subst e
              have hi : i < env.length := by
                have := (List.getElem?_eq_some_iff.mp h).1
                simpa using this
              rw [List.getElem?_set_self hi] at h
              cases h
              rw [List.getElem?_set_self (by rw [G.len]; exact hi)]
              exact .pool rfl
            · rw [List.getElem?_set_ne e] at h ⊢
              have s := G.slots j sl h
              generalize σ[j]? = o at s
              cases s with
              | no => exact .no _
              | dat r => exact .dat ((r.mono (LeR.of S.ex1)).mono noTab_le)
              | pool z => cases z
          · obtain ⟨z1, z2⟩ := G.keep t ht
            exact ⟨noTab_le.lst (K := K) _ _ (S.ex1 _ _ z1), (z2.mono (LeR.of S.ex1)).mono noTab_le⟩
theorem GS.start {K : PySem.W.Frag} {C Pt a : Addr} {H : Hp} {ns : List Int} (hs : SqL K H a (ns.map V.int)) (ht : H Pt = some (.tbl #[])) : GSt K C Pt nmL [] false 0 0 [.dat (.scr ns), .no, .no, .no, .no, .no, .no, .no, .no] (L2.start nLaw [.ref a]) H := by
  refine ⟨noTab H, fun x o h => (noTab_of h).1, fun x ps h => (noTab_of h).2 ps rfl, (fun z => nomatch z), rfl, fun i sl h => ?_, (fun t ht => nomatch ht), LamX.TabS.nil ht⟩
  match i, h with
  | 0, h => cases h; exact .dat (.scr (noTab_le.sq _ _ hs))
  | 1, h => cases h; exact .no _
  | 2, h => cases h; exact .no _
  | 3, h => cases h; exact .no _
  | 4, h => cases h; exact .no _
  | 5, h => cases h; exact .no _
  | 6, h => cases h; exact .no _
  | 7, h => cases h; exact .no _
  | 8, h => cases h; exact .no _
theorem GS.turned {K : PySem.W.Frag} {C Pt p : Addr} {nm : Str} {F H : Hp} {n : Nat} {ns : List Int} {s1 s2 s3 s4 s5 s6 s7 s8 : Sl} {σ : L2.St} (G : GS K C Pt nm [] true p F n [.dat (.scr ns), s1, s2, s3, s4, s5, s6, s7, s8] σ H) : GSt K C Pt nm [] false 0 0 [.dat (.scr ns), .no, .no, .no, .no, .no, .no, .no, .no] σ H := by
  obtain ⟨v, hv, r⟩ := G.dat (i := 0) rfl
  refine ⟨F, G.ex, G.nt, (fun z => nomatch z), G.len, fun i sl h => ?_, (fun t ht => nomatch ht), G.tab⟩
  match i, h with
  | 0, h => cases h; rw [hv]; exact .dat r
  | 1, h => cases h; exact .no _
  | 2, h => cases h; exact .no _
  | 3, h => cases h; exact .no _
  | 4, h => cases h; exact .no _
  | 5, h => cases h; exact .no _
  | 6, h => cases h; exact .no _
  | 7, h => cases h; exact .no _
  | 8, h => cases h; exact .no _
section
variable {P : Program} {w : World} {K : PySem.W.Frag} {mg : Str → Option Value} {base : Heap} {C CN CB fN fB c Pt : Addr}
theorem ok_law {f g : Addr} {gd : FuncData} {oc kV doc pm ct : Value} {an od : Option Addr} {osl : Array (Option Value)} (lk : K.lookup f = some ⟨oc, od, .func (PySem.W.fnOf "law" "law" (defArgs sLaw) (defBody sLaw) (defScope sLaw) .none kV doc pm an (.ref c) ct), osl⟩) (hcd : PySem.W.codeIn K (.ref c) "law" = true) (TB : LamX.TabB base mg c Pt)
    (FM : Fun K "_law_met" "_law_met" sMet g gd) (hM : mg "_law_met" = some (.ref g)) (bM : Binds K gd ["_law_ask"] []) (T1 : NTx.NoThingTxt K mg CN fN) (T2 : BCx.BadCeilingTxt K mg CB fB) (h12 : PySem.W.exmOne K (.ref CB) (.ref CN) = some false) (m1 : mg "sorted" = none) (m2 : mg "range" = none)
    (f0 : FnF P w K mg base C "_law_pool" 1 RPool) (f1 : FnD P w K mg base C "_law_take" 1 true RTake) (f2 : FnD P w K mg base C "_law_one" 2 true ROne) (f3 : FnD P w K mg base C "_law_jobs" 6 true RJobs) (f4 : FnD P w K mg base C "_law_made" 9 true RMade) (f5 : FnD P w K mg base C "_law_ceilings" 4 false RCeils) (f6 : FnD P w K mg base C "_law_thing_right" 6 true RThing) (f7 : FnD P w K mg base C "_law_same" 5 false (RSame 4))
    (g1 : FnX P w K mg base C CB "ceiling" 2 "tangle" 3 RTanY) (g2 : FnX P w K mg base C CN "thing" 1 "tangle" 3 RTanX) (g3 : FnX P w K mg base C CN "thing" 1 "least_ceiling" 3 RCeilX) :
    FnOk P w K mg base CX0 10 f (PySem.W.fnOf "law" "law" (defArgs sLaw) (defBody sLaw) (defScope sLaw) .none kV doc pm an (.ref c) ct) ["_law_script"] (spLaw K Pt) := by
  obtain ⟨oc', od', kV', doc', pm', an', cdM, ct', osl', rfl, lkM, hcM⟩ := FM.ex
  obtain ⟨p0, pd0, ps0, a01, a02, a03, a04⟩ := f0.ex
  obtain ⟨p1, pd1, ps1, a11, a12, a13, a14⟩ := g1.ex
  obtain ⟨p2, pd2, ps2, a21, a22, a23, a24⟩ := g2.ex
  obtain ⟨p3, pd3, ps3, a31, a32, a33, a34⟩ := g3.ex
  refine fn_of (k := 9) lk hcd scLaw (fun vs H Q E h => ?_) (fun A outer s H vs Q E hr h => ?_)
  · obtain ⟨a, ns, rfl, _⟩ := h
    rfl
  obtain ⟨a, ns, rfl, hs, ht, hQ⟩ := h
  have hr5 : Room 5 (A.deeper (envOfC "law" (defScope sLaw) s.heap.objs.size f (.ref c))) := hr.mono (by decide)
  have hr1 : Room 1 (A.deeper (envOfC "law" (defScope sLaw) s.heap.objs.size f (.ref c))) := hr.mono (by decide)
  obtain ⟨x1, _⟩ := xok_def2 (X := (cxOf CX0 P w K mg base nLaw "law" (defScope sLaw) f (.ref c) A outer s H E).nox) (k := 9) (N := nLaw) (Vn := nLaw) (Gn := gLaw) (Cn := []) (show defB _ _ _ (defScope sLaw) = true by decide +kernel) rfl scLaw.nd (fun _ => rfl) rfl hr PassesOwn.never
  have L1 : PS (cxOf CX0 P w K mg base nLaw "law" (defScope sLaw) f (.ref c) A outer s H E).nox (nthB thB' 2) (tAsg (tLst (tCons (t1 K C CN CB Pt nmL) tNil)) (gName 5)) :=
    ps_set (i := 5) scLaw.nd rfl (.inl rfl) (pe_lst (pa_cons (LamX.pe_lamcall (X := (cxOf CX0 P w K mg base nLaw "law" (defScope sLaw) f (.ref c) A outer s H E).nox) (k := 3) rfl hM FM.kp lkM hcM bM scMet rfl (.inl rfl) (met_gives (X := (cxOf CX0 P w K mg base nLaw "law" (defScope sLaw) f (.ref c) A outer s H E).nox) T1 T2 h12) TB rfl (List.mem_singleton.mpr rfl) (fun p hp _ => by rw [List.mem_singleton.mp hp]; rfl) hr5 (LamX.lamS_by (show LamX.lamSB (defScope sLaw) _ = true by decide +kernel)) rfl (fun _ _ _ _ _ => rfl)
      (fun A2 outer2 s2 H2 E2 f2 c2 hr2 => pe_call a14 hr2 rfl a11 a12 a13 .nil (passes_call (takes_of rfl rfl rfl rfl) (fun _ _ _ _ h => h)) (pa_cons (pv 6) (pa_cons (pv 8) (pa_cons (pv 7) pa_nil))))) pa_nil))
  have L2 : PS (cxOf CX0 P w K mg base nLaw "law" (defScope sLaw) f (.ref c) A outer s H E).nox (nthB lawB 5) (tAsg (tLst (tCons (t2 K C CN CB Pt nmL) tNil)) (gName 5)) :=
    ps_set (i := 5) scLaw.nd rfl (.inl rfl) (pe_lst (pa_cons (LamX.pe_lamcall (X := (cxOf CX0 P w K mg base nLaw "law" (defScope sLaw) f (.ref c) A outer s H E).nox) (k := 3) rfl hM FM.kp lkM hcM bM scMet rfl (.inl rfl) (met_gives (X := (cxOf CX0 P w K mg base nLaw "law" (defScope sLaw) f (.ref c) A outer s H E).nox) T1 T2 h12) TB rfl (List.mem_singleton.mpr rfl) (fun p hp _ => by rw [List.mem_singleton.mp hp]; rfl) hr5 (LamX.lamS_by (show LamX.lamSB (defScope sLaw) _ = true by decide +kernel)) rfl (fun _ _ _ _ _ => rfl)
      (fun A2 outer2 s2 H2 E2 f2 c2 hr2 => pe_call a24 hr2 rfl a21 a22 a23 .nil (passes_call (takes_of rfl rfl rfl rfl) (fun _ _ _ _ h => h)) (pa_cons (pv 6) (pa_cons (pv 7) (pa_cons pe_non pa_nil))))) pa_nil))
  have L3 : PS (cxOf CX0 P w K mg base nLaw "law" (defScope sLaw) f (.ref c) A outer s H E).nox (nthB lawB 6) (tDrop (tBM K "list" rAppend (tVar 5) (tCons (t3 K C CN CB Pt nmL) tNil))) :=
    ps_expr (pe_bm PySem.F.plainAttrs_list PySem.F.slot_list_append PySem.F.type_list_append mt_append (pv 5) (pa_cons (LamX.pe_lamcall (X := (cxOf CX0 P w K mg base nLaw "law" (defScope sLaw) f (.ref c) A outer s H E).nox) (k := 3) rfl hM FM.kp lkM hcM bM scMet rfl (.inl rfl) (met_gives (X := (cxOf CX0 P w K mg base nLaw "law" (defScope sLaw) f (.ref c) A outer s H E).nox) T1 T2 h12) TB rfl (List.mem_singleton.mpr rfl) (fun p hp _ => by rw [List.mem_singleton.mp hp]; rfl) hr5 (LamX.lamS_by (show LamX.lamSB (defScope sLaw) _ = true by decide +kernel)) rfl (fun _ _ _ _ _ => rfl)
      (fun A2 outer2 s2 H2 E2 f2 c2 hr2 => pe_call a34 hr2 rfl a31 a32 a33 .nil (passes_call (takes_of rfl rfl rfl rfl) (fun _ _ _ _ h => h)) (pa_cons (pv 6) (pa_cons (pv 7) pa_nil)))) pa_nil))
  refine ⟨_, PSs.nox (pss_cons (ps_for PassesOwn.never rfl (pi_range1 rfl m2 (pa_cons pe_int pa_nil)) (pg_name (i := 1) scLaw.nd rfl (.inl rfl)) (pss_cons (ps_set (i := 2) scLaw.nd rfl (.inl rfl) (pe_call (E := E0) a04 hr1 rfl a01 a02 a03 .nil pass0 (pa_cons (pv 0) (pa_cons (pv 1) pa_nil)))) pss_t)) (pss_one (ps_ret pe_bl))), ?_⟩
  refine ⟨2, rfl, by decide, by decide, ?_⟩
  refine for_range (lo := 0) (n := 2) (fun _ σ H => GSt K C Pt nmL [] false 0 0 [.dat (.scr ns), .no, .no, .no, .no, .no, .no, .no, .no] σ H) (GS.start hs ht) ?_ ?_
  · rintro i σ1 H1 hi ⟨F1, G1⟩
    show tSeq _ _ _ (σ1.set 1 (some (.int (0 + (i : Nat))))) H1
    have e0 : ((0 : Int) + (i : Nat)) = ((i : Nat) : Int) := by omega
    rw [e0]
    have G2 := G1.set (i := 1) (v := .int ((i : Nat) : Int)) (.int _)
    obtain ⟨v0, h0, r0⟩ := G2.dat (i := 0) rfl
    obtain ⟨v1, h1, r1⟩ := G2.dat (i := 1) rfl
    refine ⟨v0, h0, v1, h1, F1, [.scr ns, .int ((i : Nat) : Int)], G2.ex, .cons r0 (.cons r1 .nil), ns, i, rfl, fun a b ha hb hb2 v H3 m S => ?_⟩
    obtain ⟨q, G3⟩ := G2.withPool (i := 2) S ha hb hb2
    exact turn_rest rfl x1 m1 f1 f2 f3 f4 f5 f6 f7 L1 L2 L3 _ _ _ G3 fun n' env' σ' H' ⟨s1, s2, s3, s4, s5, s6, s7, s8, e⟩ ⟨F4, G4⟩ => by subst e; exact G4.turned
  · rintro σ1 H1 _
    exact hQ H1
end
/-! ## F29 -/
namespace EndL
/-- .. as it is wanted -/
theorem lowB_ok {K : PySem.W.Frag} {x fld : Str} (h : lowB K x fld = true) : (∃ nm q N bs bm sn sub ab col dd k0 k1 k2 k3 k5, K.lookup (He.ga K x) = some (excClassObj nm q (He.ga K x) N bs bm true sn sub ab col dd k0 k1 k2 k3 k5 "ValueError.__new__") ∧ PySem.HandSPX.refsVE bm = true) ∧
    PySem.W.findIn K (.ref (He.ga K x)) "__setattr__" = some (some (.builtin "object.__setattr__")) ∧ PySem.W.findIn K (.ref (He.ga K x)) "__getattribute__" = some (some (.builtin "BaseException.__getattribute__")) ∧ PySem.W.findIn K (.ref (He.ga K x)) "__getattr__" = some none ∧
    PySem.W.findIn K (.ref (He.ga K x)) fld = some none ∧ PySem.W.findIn K (.ref (He.ga K x)) "__init__" = some (some (.ref (He.ma K (He.ga K x) "__init__"))) ∧ PySem.W.typeIn K (.ref (He.ma K (He.ga K x) "__init__")) = some (.type "function") ∧ PySem.W.keepIn K (.ref (He.ga K x)) = true ∧
    PySem.W.subIn K (.ref (He.ga K x)) (.type "BaseException") = some true ∧ PySem.W.typeIn K (.ref (He.ga K x)) = some (.type "type") ∧ PySem.W.exmOne K (.ref (He.ga K x)) (.ref (He.ga K x)) = some true ∧ PySem.W.hasDictIn K (He.ga K x) = true := by
  obtain ⟨h1, h⟩ := He.ba h
  obtain ⟨h2, h⟩ := He.ba h
  obtain ⟨h3, h⟩ := He.ba h
  obtain ⟨h4, h⟩ := He.ba h
  obtain ⟨h5, h⟩ := He.ba h
  obtain ⟨h6, h⟩ := He.ba h
  obtain ⟨h7, h⟩ := He.ba h
  obtain ⟨h8, h⟩ := He.ba h
  obtain ⟨h9, h⟩ := He.ba h
  obtain ⟨h10, h11⟩ := He.ba h
  have key : (∃ nm q N bs bm sn sub ab col dd k0 k1 k2 k3 k5, K.lookup (He.ga K x) = some (excClassObj nm q (He.ga K x) N bs bm true sn sub ab col dd k0 k1 k2 k3 k5 "ValueError.__new__") ∧ PySem.HandSPX.refsVE bm = true) := by
    split at h1
    · rename_i t dd cd sl ho
      split at h1
      · rename_i C' bm k0 k1 k2 k3 n k5 hm hs
        obtain ⟨z1, z⟩ := He.ba h1
        obtain ⟨z2, z⟩ := He.ba z
        obtain ⟨z3, z⟩ := He.ba z
        obtain ⟨z4, z⟩ := He.ba z
        obtain ⟨z5, z6⟩ := He.ba z
        have z1 := of_decide_eq_true z1
        have z2 := of_decide_eq_true z2
        have z3 := of_decide_eq_true z3
        obtain ⟨nm, bs, mro, ns, qn, hd, sn, sub, ab, col, del⟩ := cd
        dsimp only at hm z4 z5
        have z4 : del = false := by simpa using z4
        subst hm z1 z3 z4 z5
        have hsl : sl = #[k0, k1, k2, k3, some (.builtin "ValueError.__new__"), k5] := by
          obtain ⟨l⟩ := sl
          simp only at hs
          rw [hs]
        rw [hsl] at ho
        rw [z2] at ho
        exact ⟨nm, qn, ns, bs, bm, sn, sub, ab, col, dd, k0, k1, k2, k3, k5, ho, z6⟩
      · cases h1
    · cases h1
  refine ⟨key, of_decide_eq_true h2, of_decide_eq_true h3, of_decide_eq_true h4, of_decide_eq_true h5, of_decide_eq_true h6, of_decide_eq_true h7, h8, of_decide_eq_true h9, of_decide_eq_true h10, of_decide_eq_true h11, ?_⟩
  obtain ⟨nm, q, N, bs, bm, sn, sub, ab, col, dd, k0, k1, k2, k3, k5, ho, _⟩ := key
  unfold PySem.W.hasDictIn PySem.W.clsIn
  rw [ho]
  rfl
theorem nt_txt {K : PySem.W.Frag} {mg : Str → Option Value} {fd : FuncData} (g : mg "NoThing" = some (.ref (He.ga K "NoThing"))) (h : lowB K "NoThing" "thing" = true) (F : Fun K "__init__" "NoThing.__init__" (clsB 11 0) (He.ma K (He.ga K "NoThing") "__init__") fd) : NTx.NoThingTxt K mg (He.ga K "NoThing") (He.ma K (He.ga K "NoThing") "__init__") := by
  obtain ⟨h1, h2, h3, h4, h5, h6, h7, h8, h9, h10, h11, h12⟩ := lowB_ok h
  obtain ⟨oc, od, kV, doc, pm, an, cdv, ct, osl, rfl, l, c⟩ := F.ex
  exact ⟨g, h1, h2, h3, h4, h5, h6, h7, h8, h9, h10, h12, h11, oc, od, kV, doc, pm, an, cdv, ct, osl, _, _, _, _, _, _, l, c⟩
theorem bc_txt {K : PySem.W.Frag} {mg : Str → Option Value} {fd : FuncData} (g : mg "BadCeiling" = some (.ref (He.ga K "BadCeiling"))) (h : lowB K "BadCeiling" "ceiling" = true) (F : Fun K "__init__" "BadCeiling.__init__" (clsB 13 0) (He.ma K (He.ga K "BadCeiling") "__init__") fd) : BCx.BadCeilingTxt K mg (He.ga K "BadCeiling") (He.ma K (He.ga K "BadCeiling") "__init__") := by
  obtain ⟨h1, h2, h3, h4, h5, h6, h7, h8, h9, h10, h11, h12⟩ := lowB_ok h
  obtain ⟨oc, od, kV, doc, pm, an, cdv, ct, osl, rfl, l, c⟩ := F.ex
  exact ⟨g, h1, h2, h3, h4, h5, h6, h7, h8, h9, h10, h12, h11, oc, od, kV, doc, pm, an, cdv, ct, osl, _, _, _, _, _, _, l, c⟩
theorem facts {P : Program} {w : World} {K : PySem.W.Frag} {h : Heap} {mg : Str → Option Value} {fL : Addr} (X : K.In h) (G : h.Ns mainGlobals mg) (hfa : mg ("law" : Str) = some (.ref fL)) (c : He.SaysX fa fn [] tf exB w h K) :
    ∃ fd : FuncData, (∀ (s : Shared) (v : Value), BindsTo s fd ⟨[v], []⟩ [("_law_script", v)]) ∧ ∀ base : Heap, K.In base → base.Ns mainGlobals mg → (∀ p ∈ [He.cT K ("law", none)], LamX.TabB base mg p.1 p.2) → FnOk P w K mg base CX0 10 fL fd ["_law_script"] (spLaw K (He.cT K ("law", none)).2) := by
  have D := c.t.d
  have g__law_are_comings := He.glo_ok X G (D.fact 0 (f := .glo "_law_are_comings") rfl)
  have g__law_body := He.glo_ok X G (D.fact 1 (f := .glo "_law_body") rfl)
  have g__law_can_tangle := He.glo_ok X G (D.fact 2 (f := .glo "_law_can_tangle") rfl)
  have g__law_ceilings := He.glo_ok X G (D.fact 3 (f := .glo "_law_ceilings") rfl)
  have g__law_comings := He.glo_ok X G (D.fact 4 (f := .glo "_law_comings") rfl)
  have g__law_handed := He.glo_ok X G (D.fact 5 (f := .glo "_law_handed") rfl)
  have g__law_inside := He.glo_ok X G (D.fact 6 (f := .glo "_law_inside") rfl)
  have g__law_is_tangled := He.glo_ok X G (D.fact 7 (f := .glo "_law_is_tangled") rfl)
  have g__law_jobs := He.glo_ok X G (D.fact 8 (f := .glo "_law_jobs") rfl)
  have g__law_made := He.glo_ok X G (D.fact 9 (f := .glo "_law_made") rfl)
  have g__law_met := He.glo_ok X G (D.fact 10 (f := .glo "_law_met") rfl)
  have g__law_mixed := He.glo_ok X G (D.fact 11 (f := .glo "_law_mixed") rfl)
  have g__law_one := He.glo_ok X G (D.fact 12 (f := .glo "_law_one") rfl)
  have g__law_pool := He.glo_ok X G (D.fact 13 (f := .glo "_law_pool") rfl)
  have g__law_run := He.glo_ok X G (D.fact 14 (f := .glo "_law_run") rfl)
  have g__law_same := He.glo_ok X G (D.fact 15 (f := .glo "_law_same") rfl)
  have g__law_spots := He.glo_ok X G (D.fact 16 (f := .glo "_law_spots") rfl)
  have g__law_take := He.glo_ok X G (D.fact 17 (f := .glo "_law_take") rfl)
  have g__law_thing_right := He.glo_ok X G (D.fact 18 (f := .glo "_law_thing_right") rfl)
  have g__law_units := He.glo_ok X G (D.fact 19 (f := .glo "_law_units") rfl)
  have g__law_users := He.glo_ok X G (D.fact 20 (f := .glo "_law_users") rfl)
  have g_body_kept := He.glo_ok X G (D.fact 21 (f := .glo "body_kept") rfl)
  have g_inside_at := He.glo_ok X G (D.fact 22 (f := .glo "inside_at") rfl)
  have g_is_integer := He.glo_ok X G (D.fact 23 (f := .glo "is_integer") rfl)
  have g_is_job := He.glo_ok X G (D.fact 24 (f := .glo "is_job") rfl)
  have g_is_job_body := He.glo_ok X G (D.fact 25 (f := .glo "is_job_body") rfl)
  have g_is_list := He.glo_ok X G (D.fact 26 (f := .glo "is_list") rfl)
  have g_is_natural := He.glo_ok X G (D.fact 27 (f := .glo "is_natural") rfl)
  have g_is_pair := He.glo_ok X G (D.fact 28 (f := .glo "is_pair") rfl)
  have g_is_positive := He.glo_ok X G (D.fact 29 (f := .glo "is_positive") rfl)
  have g_is_word := He.glo_ok X G (D.fact 30 (f := .glo "is_word") rfl)
  have g_law := He.glo_ok X G (D.fact 31 (f := .glo "law") rfl)
  have g_least_ceiling := He.glo_ok X G (D.fact 32 (f := .glo "least_ceiling") rfl)
  have g_open_spots := He.glo_ok X G (D.fact 33 (f := .glo "open_spots") rfl)
  have g_spans_of := He.glo_ok X G (D.fact 34 (f := .glo "spans_of") rfl)
  have g_tangle := He.glo_ok X G (D.fact 35 (f := .glo "tangle") rfl)
  have g_users_of := He.glo_ok X G (D.fact 36 (f := .glo "users_of") rfl)
  have g_Jobs := He.glo_ok X G (D.fact 37 (f := .glo "Jobs") rfl)
  have g_NoThing := He.glo_ok X G (D.fact 38 (f := .glo "NoThing") rfl)
  have g_BadCeiling := He.glo_ok X G (D.fact 39 (f := .glo "BadCeiling") rfl)
  have n_abs := He.free_ok X G (D.fact 40 (f := .free "abs") rfl)
  have n_all := He.free_ok X G (D.fact 41 (f := .free "all") rfl)
  have n_any := He.free_ok X G (D.fact 42 (f := .free "any") rfl)
  have n_bool := He.free_ok X G (D.fact 43 (f := .free "bool") rfl)
  have n_dict := He.free_ok X G (D.fact 44 (f := .free "dict") rfl)
  have n_enumerate := He.free_ok X G (D.fact 45 (f := .free "enumerate") rfl)
  have n_int := He.free_ok X G (D.fact 46 (f := .free "int") rfl)
  have n_isinstance := He.free_ok X G (D.fact 47 (f := .free "isinstance") rfl)
  have n_len := He.free_ok X G (D.fact 48 (f := .free "len") rfl)
  have n_list := He.free_ok X G (D.fact 49 (f := .free "list") rfl)
  have n_max := He.free_ok X G (D.fact 50 (f := .free "max") rfl)
  have n_range := He.free_ok X G (D.fact 51 (f := .free "range") rfl)
  have n_set := He.free_ok X G (D.fact 52 (f := .free "set") rfl)
  have n_sorted := He.free_ok X G (D.fact 53 (f := .free "sorted") rfl)
  have n_str := He.free_ok X G (D.fact 54 (f := .free "str") rfl)
  have n_sum := He.free_ok X G (D.fact 55 (f := .free "sum") rfl)
  have n_tuple := He.free_ok X G (D.fact 56 (f := .free "tuple") rfl)
  have n_zip := He.free_ok X G (D.fact 57 (f := .free "zip") rfl)
  have na_kept_ceilings := He.noat_ok (D.fact 63 (f := .noat "Jobs" "kept_ceilings") rfl)
  have na_kept_costs := He.noat_ok (D.fact 64 (f := .noat "Jobs" "kept_costs") rfl)
  have na_kept_jobs := He.noat_ok (D.fact 65 (f := .noat "Jobs" "kept_jobs") rfl)
  have na_kept_spans := He.noat_ok (D.fact 66 (f := .noat "Jobs" "kept_spans") rfl)
  obtain ⟨tL, mL⟩ := He.str_ok X G (D.fact 58 (f := .str "LETTERS" "abcdefghijklmnopqrstuvwxyz") rfl)
  have hcls := He.cls_ok (D.fact 59 (f := .cls "Jobs") rfl)
  have hmeth := He.meth_ok (D.fact 60 (f := .meth "Jobs" "ceiling") rfl)
  have hmk := He.mkr_ok (D.fact 61 (f := .mkr "Jobs") rfl)
  have h12 := He.exm_ok (D.fact 62 (f := .exm "BadCeiling" "NoThing" false) rfl)
  obtain ⟨fd0, Q0⟩ := D.def_ 0 (d := d0) rfl
  have F0 : Fun K "__init__" "BadCeiling.__init__" (clsB 13 0) _ fd0 := He5.fun_of (st := (clsB 13 0)) Q0
  have b0 : Binds K fd0 ["self", "ceiling"] [] := F0.binds (ps := ["self", "ceiling"]) fun _ _ _ _ _ _ us hl => match us, hl with | [_, _], _ => rfl
  obtain ⟨fd1, Q1⟩ := D.def_ 1 (d := d1) rfl
  have F1 : Fun K "__init__" "Jobs.__init__" sInit _ fd1 := He5.fun_of (st := sInit) Q1
  have b1 : Binds K fd1 ["self", "jobs"] [] := F1.binds (ps := ["self", "jobs"]) fun _ _ _ _ _ _ us hl => match us, hl with | [_, _], _ => rfl
  obtain ⟨fd2, Q2⟩ := D.def_ 2 (d := d2) rfl
  have F2 : Fun K "ceiling" "Jobs.ceiling" sCeil _ fd2 := He5.fun_of (st := sCeil) Q2
  have b2 : Binds K fd2 ["self", "thing"] [] := F2.binds (ps := ["self", "thing"]) fun _ _ _ _ _ _ us hl => match us, hl with | [_, _], _ => rfl
  obtain ⟨fd3, Q3⟩ := D.def_ 3 (d := d3) rfl
  have F3 : Fun K "__init__" "NoThing.__init__" (clsB 11 0) _ fd3 := He5.fun_of (st := (clsB 11 0)) Q3
  have b3 : Binds K fd3 ["self", "thing"] [] := F3.binds (ps := ["self", "thing"]) fun _ _ _ _ _ _ us hl => match us, hl with | [_, _], _ => rfl
  obtain ⟨fd4, Q4⟩ := D.def_ 4 (d := d4) rfl
  have F4 : Fun K "_law_are_comings" "_law_are_comings" sAre _ fd4 := He5.fun_of (st := sAre) Q4
  have b4 : Binds K fd4 ["_law_jobs_here", "_law_told"] [] := F4.binds (ps := ["_law_jobs_here", "_law_told"]) fun _ _ _ _ _ _ us hl => match us, hl with | [_, _], _ => rfl
  obtain ⟨fd5, Q5⟩ := D.def_ 5 (d := d5) rfl
  have F5 : Fun K "_law_body" "_law_body" sBody _ fd5 := He5.fun_of (st := sBody) Q5
  have b5 : Binds K fd5 ["_law_pool_here", "_law_things", "_law_deep"] [] := F5.binds (ps := ["_law_pool_here", "_law_things", "_law_deep"]) fun _ _ _ _ _ _ us hl => match us, hl with | [_, _, _], _ => rfl
  obtain ⟨fd6, Q6⟩ := D.def_ 6 (d := d6) rfl
  have F6 : Fun K "_law_can_tangle" "_law_can_tangle" sCan _ fd6 := He5.fun_of (st := sCan) Q6
  have b6 : Binds K fd6 ["_law_jobs_here", "_law_ceilings_here", "_law_thing"] [] := F6.binds (ps := ["_law_jobs_here", "_law_ceilings_here", "_law_thing"]) fun _ _ _ _ _ _ us hl => match us, hl with | [_, _, _], _ => rfl
  obtain ⟨fd7, Q7⟩ := D.def_ 7 (d := d7) rfl
  have F7 : Fun K "_law_ceilings" "_law_ceilings" sCeils _ fd7 := He5.fun_of (st := sCeils) Q7
  have b7 : Binds K fd7 ["_law_jobs_here"] [] := F7.binds (ps := ["_law_jobs_here"]) fun _ _ _ _ _ _ us hl => match us, hl with | [_], _ => rfl
  obtain ⟨fd8, Q8⟩ := D.def_ 8 (d := d8) rfl
  have F8 : Fun K "_law_comings" "_law_comings" sComs _ fd8 := He5.fun_of (st := sComs) Q8
  have b8 : Binds K fd8 ["_law_pool_here", "_law_jobs_here", "_law_most"] [] := F8.binds (ps := ["_law_pool_here", "_law_jobs_here", "_law_most"]) fun _ _ _ _ _ _ us hl => match us, hl with | [_, _, _], _ => rfl
  obtain ⟨fd9, Q9⟩ := D.def_ 9 (d := d9) rfl
  have F9 : Fun K "_law_handed" "_law_handed" sHanded _ fd9 := He5.fun_of (st := sHanded) Q9
  have b9 : Binds K fd9 ["_law_pool_here", "_law_thing"] [] := F9.binds (ps := ["_law_pool_here", "_law_thing"]) fun _ _ _ _ _ _ us hl => match us, hl with | [_, _], _ => rfl
  obtain ⟨fd10, Q10⟩ := D.def_ 10 (d := d10) rfl
  have F10 : Fun K "_law_inside" "_law_inside" sInside _ fd10 := He5.fun_of (st := sInside) Q10
  have b10 : Binds K fd10 ["_law_units_here", "_law_did"] [] := F10.binds (ps := ["_law_units_here", "_law_did"]) fun _ _ _ _ _ _ us hl => match us, hl with | [_, _], _ => rfl
  obtain ⟨fd11, Q11⟩ := D.def_ 11 (d := d11) rfl
  have F11 : Fun K "_law_is_tangled" "_law_is_tangled" sTgd _ fd11 := He5.fun_of (st := sTgd) Q11
  have b11 : Binds K fd11 ["_law_jobs_here", "_law_ceilings_here", "_law_comings_here", "_law_thing"] [] := F11.binds (ps := ["_law_jobs_here", "_law_ceilings_here", "_law_comings_here", "_law_thing"]) fun _ _ _ _ _ _ us hl => match us, hl with | [_, _, _, _], _ => rfl
  obtain ⟨fd12, Q12⟩ := D.def_ 12 (d := d12) rfl
  have F12 : Fun K "_law_jobs" "_law_jobs" sJobs _ fd12 := He5.fun_of (st := sJobs) Q12
  have b12 : Binds K fd12 ["_law_pool_here", "_law_many"] [] := F12.binds (ps := ["_law_pool_here", "_law_many"]) fun _ _ _ _ _ _ us hl => match us, hl with | [_, _], _ => rfl
  obtain ⟨fd13, Q13⟩ := D.def_ 13 (d := d13) rfl
  have F13 : Fun K "_law_made" "_law_made" sMade _ fd13 := He5.fun_of (st := sMade) Q13
  have b13 : Binds K fd13 ["_law_pool_here", "_law_jobs_here"] [] := F13.binds (ps := ["_law_pool_here", "_law_jobs_here"]) fun _ _ _ _ _ _ us hl => match us, hl with | [_, _], _ => rfl
  obtain ⟨fd14, Q14⟩ := D.def_ 14 (d := d14) rfl
  have F14 : Fun K "_law_met" "_law_met" sMet _ fd14 := He5.fun_of (st := sMet) Q14
  have b14 : Binds K fd14 ["_law_ask"] [] := F14.binds (ps := ["_law_ask"]) fun _ _ _ _ _ _ us hl => match us, hl with | [_], _ => rfl
  obtain ⟨fd15, Q15⟩ := D.def_ 15 (d := d15) rfl
  have F15 : Fun K "_law_mixed" "_law_mixed" sMixed _ fd15 := He5.fun_of (st := sMixed) Q15
  have b15 : Binds K fd15 ["_law_pool_here", "_law_things"] [] := F15.binds (ps := ["_law_pool_here", "_law_things"]) fun _ _ _ _ _ _ us hl => match us, hl with | [_, _], _ => rfl
  obtain ⟨fd16, Q16⟩ := D.def_ 16 (d := d16) rfl
  have F16 : Fun K "_law_one" "_law_one" sOne _ fd16 := He5.fun_of (st := sOne) Q16
  have b16 : Binds K fd16 ["_law_pool_here", "_law_things"] [] := F16.binds (ps := ["_law_pool_here", "_law_things"]) fun _ _ _ _ _ _ us hl => match us, hl with | [_, _], _ => rfl
  obtain ⟨fd17, Q17⟩ := D.def_ 17 (d := d17) rfl
  have F17 : Fun K "_law_pool" "_law_pool" sPool _ fd17 := He5.fun_of (st := sPool) Q17
  have b17 : Binds K fd17 ["_law_script", "_law_turn"] [] := F17.binds (ps := ["_law_script", "_law_turn"]) fun _ _ _ _ _ _ us hl => match us, hl with | [_, _], _ => rfl
  obtain ⟨fd18, Q18⟩ := D.def_ 18 (d := d18) rfl
  have F18 : Fun K "_law_run" "_law_run" sRun _ fd18 := He5.fun_of (st := sRun) Q18
  have b18 : Binds K fd18 ["_law_jobs_here", "_law_ceilings_here", "_law_comings_here"] [] := F18.binds (ps := ["_law_jobs_here", "_law_ceilings_here", "_law_comings_here"]) fun _ _ _ _ _ _ us hl => match us, hl with | [_, _, _], _ => rfl
  obtain ⟨fd19, Q19⟩ := D.def_ 19 (d := d19) rfl
  have F19 : Fun K "_law_same" "_law_same" sSame _ fd19 := He5.fun_of (st := sSame) Q19
  have b19 : Binds K fd19 ["_law_found", "_law_due"] [] := F19.binds (ps := ["_law_found", "_law_due"]) fun _ _ _ _ _ _ us hl => match us, hl with | [_, _], _ => rfl
  obtain ⟨fd20, Q20⟩ := D.def_ 20 (d := d20) rfl
  have F20 : Fun K "_law_spots" "_law_spots" sSpots _ fd20 := He5.fun_of (st := sSpots) Q20
  have b20 : Binds K fd20 ["_law_jobs_here", "_law_thing"] [] := F20.binds (ps := ["_law_jobs_here", "_law_thing"]) fun _ _ _ _ _ _ us hl => match us, hl with | [_, _], _ => rfl
  obtain ⟨fd21, Q21⟩ := D.def_ 21 (d := d21) rfl
  have F21 : Fun K "_law_take" "_law_take" sTake _ fd21 := He5.fun_of (st := sTake) Q21
  have b21 : Binds K fd21 ["_law_pool_here", "_law_many"] [] := F21.binds (ps := ["_law_pool_here", "_law_many"]) fun _ _ _ _ _ _ us hl => match us, hl with | [_, _], _ => rfl
  obtain ⟨fd22, Q22⟩ := D.def_ 22 (d := d22) rfl
  have F22 : Fun K "_law_thing_right" "_law_thing_right" sThing _ fd22 := He5.fun_of (st := sThing) Q22
  have b22 : Binds K fd22 ["_law_pool_here", "_law_made_here", "_law_jobs_here", "_law_thing"] [] := F22.binds (ps := ["_law_pool_here", "_law_made_here", "_law_jobs_here", "_law_thing"]) fun _ _ _ _ _ _ us hl => match us, hl with | [_, _, _, _], _ => rfl
  obtain ⟨fd23, Q23⟩ := D.def_ 23 (d := d23) rfl
  have F23 : Fun K "_law_units" "_law_units" sUnits _ fd23 := He5.fun_of (st := sUnits) Q23
  have b23 : Binds K fd23 ["_law_body_here", "_law_around"] [] := F23.binds (ps := ["_law_body_here", "_law_around"]) fun _ _ _ _ _ _ us hl => match us, hl with | [_, _], _ => rfl
  obtain ⟨fd24, Q24⟩ := D.def_ 24 (d := d24) rfl
  have F24 : Fun K "_law_users" "_law_users" sUsers _ fd24 := He5.fun_of (st := sUsers) Q24
  have b24 : Binds K fd24 ["_law_jobs_here", "_law_thing"] [] := F24.binds (ps := ["_law_jobs_here", "_law_thing"]) fun _ _ _ _ _ _ us hl => match us, hl with | [_, _], _ => rfl
  obtain ⟨fd25, Q25⟩ := D.def_ 25 (d := d25) rfl
  have F25 : Fun K "body_kept" "body_kept" sKept _ fd25 := He5.fun_of (st := sKept) Q25
  have b25 : Binds K fd25 ["body"] [] := F25.binds (ps := ["body"]) fun _ _ _ _ _ _ us hl => match us, hl with | [_], _ => rfl
  obtain ⟨fd26, Q26⟩ := D.def_ 26 (d := d26) rfl
  have F26 : Fun K "inside_at" "inside_at" sInsAt _ fd26 := He5.fun_of (st := sInsAt) Q26
  have b26 : Binds K fd26 ["jobs", "job", "units"] [] := F26.binds (ps := ["jobs", "job", "units"]) fun _ _ _ _ _ _ us hl => match us, hl with | [_, _, _], _ => rfl
  obtain ⟨fd27, Q27⟩ := D.def_ 27 (d := d27) rfl
  have F27 : Fun K "is_integer" "is_integer" sIsInt _ fd27 := He5.fun_of (st := sIsInt) Q27
  have b27 : Binds K fd27 ["thing"] [] := F27.binds (ps := ["thing"]) fun _ _ _ _ _ _ us hl => match us, hl with | [_], _ => rfl
  obtain ⟨fd28, Q28⟩ := D.def_ 28 (d := d28) rfl
  have F28 : Fun K "is_job" "is_job" sIsJob _ fd28 := He5.fun_of (st := sIsJob) Q28
  have b28 : Binds K fd28 ["thing", "priorities"] [] := F28.binds (ps := ["thing", "priorities"]) fun _ _ _ _ _ _ us hl => match us, hl with | [_, _], _ => rfl
  obtain ⟨fd29, Q29⟩ := D.def_ 29 (d := d29) rfl
  have F29 : Fun K "is_job_body" "is_job_body" sJBody _ fd29 := He5.fun_of (st := sJBody) Q29
  have b29 : Binds K fd29 ["thing", "within"] [] := F29.binds (ps := ["thing", "within"]) fun _ _ _ _ _ _ us hl => match us, hl with | [_, _], _ => rfl
  obtain ⟨fd30, Q30⟩ := D.def_ 30 (d := d30) rfl
  have F30 : Fun K "is_list" "is_list" sIsList _ fd30 := He5.fun_of (st := sIsList) Q30
  have b30 : Binds K fd30 ["thing"] [] := F30.binds (ps := ["thing"]) fun _ _ _ _ _ _ us hl => match us, hl with | [_], _ => rfl
  obtain ⟨fd31, Q31⟩ := D.def_ 31 (d := d31) rfl
  have F31 : Fun K "is_natural" "is_natural" sIsNat _ fd31 := He5.fun_of (st := sIsNat) Q31
  have b31 : Binds K fd31 ["thing"] [] := F31.binds (ps := ["thing"]) fun _ _ _ _ _ _ us hl => match us, hl with | [_], _ => rfl
  obtain ⟨fd32, Q32⟩ := D.def_ 32 (d := d32) rfl
  have F32 : Fun K "is_pair" "is_pair" sIsPair _ fd32 := He5.fun_of (st := sIsPair) Q32
  have b32 : Binds K fd32 ["thing"] [] := F32.binds (ps := ["thing"]) fun _ _ _ _ _ _ us hl => match us, hl with | [_], _ => rfl
  obtain ⟨fd33, Q33⟩ := D.def_ 33 (d := d33) rfl
  have F33 : Fun K "is_positive" "is_positive" sIsPos _ fd33 := He5.fun_of (st := sIsPos) Q33
  have b33 : Binds K fd33 ["thing"] [] := F33.binds (ps := ["thing"]) fun _ _ _ _ _ _ us hl => match us, hl with | [_], _ => rfl
  obtain ⟨fd34, Q34⟩ := D.def_ 34 (d := d34) rfl
  have F34 : Fun K "is_word" "is_word" sWord _ fd34 := He5.fun_of (st := sWord) Q34
  have b34 : Binds K fd34 ["thing"] [] := F34.binds (ps := ["thing"]) fun _ _ _ _ _ _ us hl => match us, hl with | [_], _ => rfl
  obtain ⟨fd35, Q35⟩ := D.def_ 35 (d := d35) rfl
  have F35 : Fun K "law" "law" sLaw _ fd35 := He5.fun_of (st := sLaw) Q35
  have b35 : Binds K fd35 ["_law_script"] [] := F35.binds (ps := ["_law_script"]) fun _ _ _ _ _ _ us hl => match us, hl with | [_], _ => rfl
  obtain ⟨fd36, Q36⟩ := D.def_ 36 (d := d36) rfl
  have F36 : Fun K "least_ceiling" "least_ceiling" sLeast _ fd36 := He5.fun_of (st := sLeast) Q36
  have b36 : Binds K fd36 ["jobs", "thing"] [] := F36.binds (ps := ["jobs", "thing"]) fun _ _ _ _ _ _ us hl => match us, hl with | [_, _], _ => rfl
  obtain ⟨fd37, Q37⟩ := D.def_ 37 (d := d37) rfl
  have F37 : Fun K "open_spots" "open_spots" sOpen _ fd37 := He5.fun_of (st := sOpen) Q37
  have b37 : Binds K fd37 ["jobs", "thing"] [] := F37.binds (ps := ["jobs", "thing"]) fun _ _ _ _ _ _ us hl => match us, hl with | [_, _], _ => rfl
  obtain ⟨fd38, Q38⟩ := D.def_ 38 (d := d38) rfl
  have F38 : Fun K "spans_of" "spans_of" sSpans _ fd38 := He5.fun_of (st := sSpans) Q38
  have b38 : Binds K fd38 ["body", "path", "begin"] [] := F38.binds (ps := ["body", "path", "begin"]) fun _ _ _ _ _ _ us hl => match us, hl with | [_, _, _], _ => rfl
  obtain ⟨fd39, Q39⟩ := D.def_ 39 (d := d39) rfl
  have F39 : Fun K "tangle" "tangle" sTan _ fd39 := He5.fun_of (st := sTan) Q39
  have b39 : Binds K fd39 ["jobs", "thing", "ceiling"] [] := F39.binds (ps := ["jobs", "thing", "ceiling"]) fun _ _ _ _ _ _ us hl => match us, hl with | [_, _, _], _ => rfl
  obtain ⟨fd40, Q40⟩ := D.def_ 40 (d := d40) rfl
  have F40 : Fun K "users_of" "users_of" sUsOf _ fd40 := He5.fun_of (st := sUsOf) Q40
  have b40 : Binds K fd40 ["jobs", "thing"] [] := F40.binds (ps := ["jobs", "thing"]) fun _ _ _ _ _ _ us hl => match us, hl with | [_, _], _ => rfl
  obtain ⟨w1, w2⟩ := He.ba c.more
  have T1 := nt_txt g_NoThing w1 F3
  have T2 := bc_txt g_BadCeiling w2 F0
  have e := hfa.symm.trans g_law
  cases e
  have bl := F35.binds (ps := ["_law_script"]) fun _ _ _ _ _ _ us hl => match us, hl with | [_], _ => rfl
  obtain ⟨ocL, odL, kVL, docL, pmL, anL, cdL, ctL, oslL, rfl, lkL, hcL⟩ := F35.ex
  obtain ⟨cL, rfl⟩ := He.codeIn_ref hcL
  have ecL : (He.cT K ("law", none)).1 = cL := He.codeOf_eq (p := ("law", none)) lkL rfl
  refine ⟨PySem.W.fnOf "law" "law" (defArgs sLaw) (defBody sLaw) (defScope sLaw) .none kVL docL pmL anL (.ref cL) ctL, fun s v => .of_eq rfl, fun base hB nB TB => ?_⟩
  have TBL : LamX.TabB base mg cL (He.cT K ("law", none)).2 := by
    rw [← ecL]; exact TB _ (List.mem_singleton.mpr rfl)
  have FnD_is_integer_RIsInt := ok_isInt (P := P) (w := w) (base := base) (C := He.ga K "Jobs") F27 g_is_integer b27 n_isinstance n_int n_bool
  have FnD_is_natural_RIsNat := ok_isNat (P := P) (w := w) (base := base) (C := He.ga K "Jobs") F31 g_is_natural b31 FnD_is_integer_RIsInt
  have FnD_is_positive_RIsPos := ok_isPos (P := P) (w := w) (base := base) (C := He.ga K "Jobs") F33 g_is_positive b33 FnD_is_integer_RIsInt
  have FnD_is_list_RIsList := ok_isList (P := P) (w := w) (base := base) (C := He.ga K "Jobs") F30 g_is_list b30 n_isinstance n_list n_tuple
  have FnD_is_pair_RIsPair := ok_isPair (P := P) (w := w) (base := base) (C := He.ga K "Jobs") F32 g_is_pair b32 FnD_is_list_RIsList n_len
  have FnD__law_take_RTake := ok_take (P := P) (w := w) (base := base) (C := He.ga K "Jobs") F21 g__law_take b21 n_int
  have FnD__law_one_ROne := ok_one (P := P) (w := w) (base := base) (C := He.ga K "Jobs") F16 g__law_one b16 n_len FnD__law_take_RTake
  have FnD__law_mixed_RMixed := ok_mixed (P := P) (w := w) (base := base) (C := He.ga K "Jobs") F15 g__law_mixed b15 n_len n_list FnD__law_take_RTake
  have FnD__law_units_RUnits := ok_units (P := P) (w := w) (base := base) (C := He.ga K "Jobs") F23 g__law_units b23 n_len n_enumerate n_isinstance n_int
  have FnD_is_word_RWord := ok_word (P := P) (w := w) (base := base) (C := He.ga K "Jobs") F34 g_is_word b34 n_isinstance n_str n_len n_all mL ⟨_, rfl⟩
  have FnD__law_inside_RInside := ok_inside (P := P) (w := w) (base := base) (C := He.ga K "Jobs") F10 g__law_inside b10 n_len n_list n_zip
  have FnD__law_body_RBody := ok_body (P := P) (w := w) (base := base) (C := He.ga K "Jobs") F5 g__law_body b5 n_range n_tuple FnD__law_take_RTake FnD__law_one_ROne
  have FnD__law_jobs_RJobs := ok_jobs (P := P) (w := w) (base := base) (C := He.ga K "Jobs") F12 g__law_jobs b12 n_zip n_len FnD__law_take_RTake FnD__law_mixed_RMixed (FnD__law_body_RBody 2) (FnD__law_units_RUnits 2)
  have FnD__law_ceilings_RCeils := ok_ceils (P := P) (w := w) (base := base) (C := He.ga K "Jobs") F7 g__law_ceilings b7 n_dict n_max (FnD__law_units_RUnits 2)
  have FnD__law_users_RUsers := ok_users (P := P) (w := w) (base := base) (C := He.ga K "Jobs") F24 g__law_users b24 n_sorted n_any (FnD__law_units_RUnits 2)
  have FnD__law_spots_RSpots := ok_spots (P := P) (w := w) (base := base) (C := He.ga K "Jobs") F20 g__law_spots b20 n_sorted n_range n_len (FnD__law_units_RUnits 2) FnD__law_inside_RInside
  have FnD__law_can_tangle_RCan := ok_can (P := P) (w := w) (base := base) (C := He.ga K "Jobs") F6 g__law_can_tangle b6 n_max n_any (FnD__law_units_RUnits 2) FnD__law_inside_RInside FnD__law_spots_RSpots FnD__law_users_RUsers
  have FnD_inside_at_RInsAt := ok_insAt (P := P) (w := w) (base := base) (C := He.ga K "Jobs") F26 g_inside_at b26 hcls na_kept_spans
  have FnD_users_of_RUsOf := ok_usOf (P := P) (w := w) (base := base) (C := He.ga K "Jobs") F40 g_users_of b40 hcls na_kept_spans na_kept_jobs
  have FnD_open_spots_ROpen := ok_open (P := P) (w := w) (base := base) (C := He.ga K "Jobs") F37 g_open_spots b37 hcls na_kept_spans na_kept_jobs na_kept_ceilings n_list n_range n_max FnD_inside_at_RInsAt
  have FnD_spans_of_RSpans := ok_spans (P := P) (w := w) (base := base) (C := He.ga K "Jobs") F38 g_spans_of b38 n_enumerate FnD_is_positive_RIsPos
  have FnD_body_kept_RKept := ok_kept (P := P) (w := w) (base := base) (C := He.ga K "Jobs") F25 g_body_kept b25 n_tuple FnD_is_positive_RIsPos
  have FnD_is_job_body_RJBody := ok_jbody (P := P) (w := w) (base := base) (C := He.ga K "Jobs") F29 g_is_job_body b29 n_len FnD_is_positive_RIsPos FnD_is_list_RIsList FnD_is_pair_RIsPair FnD_is_word_RWord
  have FnD_is_job_RIsJob := ok_isJob (P := P) (w := w) (base := base) (C := He.ga K "Jobs") F28 g_is_job b28 n_len FnD_is_positive_RIsPos FnD_is_list_RIsList (FnD_is_job_body_RJBody 2)
  have FnD__law_run_RRun := ok_run (P := P) (w := w) (base := base) (C := He.ga K "Jobs") F18 g__law_run b18 n_max n_any n_sorted n_len n_int (FnD__law_units_RUnits 2) FnD__law_inside_RInside
  have FnD__law_is_tangled_RTgd := ok_tgd (P := P) (w := w) (base := base) (C := He.ga K "Jobs") F11 g__law_is_tangled b11 n_dict n_len n_int (FnD__law_units_RUnits 2) FnD__law_inside_RInside FnD__law_run_RRun
  have FnD__law_comings_RComs := ok_coms (P := P) (w := w) (base := base) (C := He.ga K "Jobs") F8 g__law_comings b8 n_sorted n_len n_range FnD__law_take_RTake FnD__law_one_ROne FnD__law_mixed_RMixed
  have FnD__law_are_comings_RAre := ok_are (P := P) (w := w) (base := base) (C := He.ga K "Jobs") F4 g__law_are_comings b4 n_isinstance n_list n_all n_any n_zip n_int n_bool
  have FnD__law_handed_RHd := ok_handed (P := P) (w := w) (base := base) (C := He.ga K "Jobs") F9 g__law_handed b9 n_isinstance n_list n_tuple FnD__law_take_RTake
  have FnD__law_same_RSame := ok_same (P := P) (w := w) (base := base) (C := He.ga K "Jobs") F19 g__law_same b19 n_isinstance n_list n_tuple n_len n_all n_zip n_int n_bool
  have FnM_ceiling_RCeil := ok_ceil (P := P) (w := w) (base := base) (C := He.ga K "Jobs") F2 hmeth b2 hcls na_kept_ceilings FnD_is_word_RWord
  have FnD_least_ceiling_RLeast := ok_least (P := P) (w := w) (base := base) (C := He.ga K "Jobs") F36 g_least_ceiling b36 hcls na_kept_jobs n_max FnM_ceiling_RCeil FnD_open_spots_ROpen FnD_users_of_RUsOf
  have FnD_tangle_RTan := ok_tan (P := P) (w := w) (base := base) (C := He.ga K "Jobs") F39 g_tangle b39 hcls na_kept_jobs n_max n_sorted FnD_is_natural_RIsNat FnM_ceiling_RCeil FnD_open_spots_ROpen FnD_users_of_RUsOf
  have FnD__law_thing_right_RThing := ok_thing (P := P) (w := w) (base := base) (C := He.ga K "Jobs") F22 g__law_thing_right b22 n_sorted n_set n_dict n_list n_isinstance FnD__law_ceilings_RCeils FnD__law_spots_RSpots FnD__law_users_RUsers FnD_tangle_RTan FnD__law_can_tangle_RCan FnD__law_are_comings_RAre FnD__law_is_tangled_RTgd FnD__law_one_ROne FnD__law_comings_RComs (FnD__law_same_RSame 0) FnD_least_ceiling_RLeast
  have FnK_Jobs_RInit := ok_init (P := P) (w := w) (base := base) (C := He.ga K "Jobs") F1 g_Jobs hmk b1 hcls na_kept_jobs na_kept_spans na_kept_costs na_kept_ceilings n_isinstance n_dict n_len n_sorted n_max FnD_is_word_RWord FnD_is_job_RIsJob (FnD_body_kept_RKept 2) (FnD_spans_of_RSpans 2)
  have FnD__law_made_RMade := ok_made (P := P) (w := w) (base := base) (C := He.ga K "Jobs") F13 g__law_made b13 n_dict n_sorted FnD__law_mixed_RMixed (FnD__law_handed_RHd 6) FnK_Jobs_RInit
  have FnXM_ceiling_RCeilX := ok_ceilX (P := P) (w := w) (base := base) (C := He.ga K "Jobs") F2 hmeth b2 hcls na_kept_ceilings T1 FnD_is_word_RWord
  have FnX_least_ceiling_RCeilX := ok_leastX (P := P) (w := w) (base := base) (C := He.ga K "Jobs") F36 g_least_ceiling b36 hcls FnXM_ceiling_RCeilX
  have FnX_tangle_RTanX := ok_tanX (P := P) (w := w) (base := base) (C := He.ga K "Jobs") F39 g_tangle b39 hcls FnXM_ceiling_RCeilX
  have FnX_tangle_RTanY := ok_tanY (P := P) (w := w) (base := base) (C := He.ga K "Jobs") F39 g_tangle b39 hcls T2 FnD_is_natural_RIsNat FnM_ceiling_RCeil
  have FnF__law_pool_RPool := ok_pool (P := P) (w := w) (base := base) (C := He.ga K "Jobs") F17 g__law_pool b17 n_len n_sum n_int n_abs
  exact ok_law lkL hcL TBL F14 g__law_met b14 T1 T2 h12 n_sorted n_range FnF__law_pool_RPool FnD__law_take_RTake FnD__law_one_ROne FnD__law_jobs_RJobs FnD__law_made_RMade FnD__law_ceilings_RCeils FnD__law_thing_right_RThing (FnD__law_same_RSame 4) FnX_tangle_RTanY FnX_tangle_RTanX FnX_least_ceiling_RCeilX
end EndL
end DL
open PySem PySem.W PySem.Calls PyProof.Rows
theorem PySem.Challenge.cw_meettasks_k63_whole_tangles_holds : PySem.Challenge.rw_meettasks_k63_whole_tangles.Holds := by
  w_on; o_law
  refine DL.EndL.headL ?hc
  case hc =>
    refine LamX.walk_ofTsE (l := PySem.Challenge.rw_meettasks_k63_whole_tangles) (n := 63) (k := 10) (x := "_law_script") (CX := fun _ => L2.CX0) rfl (by decide) (by kernel_rfl) ⟨rfl, by decide, by decide⟩ ?F (fun _ _ _ _ _ z => z)
    intro w mg fa h Y G hmg0
    obtain ⟨K, KX, c⟩ := Y
    have hmg : mg ("law" : PySem.Str) = some (.ref fa) := by
      have e : (HandSHeadRun.topDef (OpenLaw.row PySem.Challenge.rw_meettasks_k63_whole_tangles).prog 48).name = ("law" : PySem.Str) := by kernel_rfl
      rw [← e]
      exact hmg0
    obtain ⟨fd, hb, hF⟩ := DL.EndL.facts (P := (PySem.Challenge.rw_meettasks_k63_whole_tangles).prog) (w := w) KX G hmg c
    refine ⟨K, KX, fd, [He.cT K ("law", none)], DL.spLaw K (He.cT K ("law", none)).2, fun p hp => ?_, fun p hp => ?_, fun p hp => ?_, hb, fun H a ns hl hbits hT hS => ⟨a, ns, rfl, hS, hT _ (List.mem_singleton.mpr rfl), fun _ => rfl⟩, hF⟩
    · rw [List.mem_singleton.mp hp]; exact c.empty _ (List.mem_singleton.mpr rfl)
    · rw [List.mem_singleton.mp hp]; exact c.out _ (List.mem_singleton.mpr rfl)
    · rw [List.mem_singleton.mp hp]; exact codeHd_of_K KX (c.hd _ (List.mem_singleton.mpr rfl))
#print axioms PySem.Challenge.cw_meettasks_k63_whole_tangles_holds
