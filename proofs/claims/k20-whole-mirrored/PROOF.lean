import PyProof.Rows.All
import Wide.All
import OpenK.AllK
import Wide.FinOn
import KE.KStateDown
import HandS.ForMost
import HandS.More
import HandS.WordsExc
import HandS.Defaults
import HandS.Walk
import HandS.Conv
import HandS.Style
import HandS.IsInst
import HandS.TupAny
import HandS.Zip
import HandS.Flow
import HandS.Wide
import HandS.Replace
import HandS.TupMul
import KE.GoesNew
import HandS.Head0
import HandS.Head1
import HandS.Head2
import HandS.HeadEnd
import HandS.HeadHook1
import HandS.HeadHook2
import HandS.NoneIn
import HandS.SortInts
import HandS.Deep
import HandS.SetKeys
import HandS.DictComp
import HandS.SortOrd
import KE.KDictSum
import HandS.Text
import PySem.Challenge.RW_masking_k20_whole_mirrored
set_option Elab.async false
set_option linter.all false
set_option maxRecDepth 100000
set_option maxHeartbeats 4000000
set_option autoImplicit false
namespace DL
open PySem PySem.Spec PyProof.Rows L2
section
variable (fa : List He.Fa) (fn : List He.DefD) (chk : PySem.W.Frag → Bool)
def obsM (K : PySem.W.Frag) : He.AlD := (((fa.all fun f => f.ok K) && fn.all fun d => d.ok K) && chk K, fn.map fun d => He.fnW K d.at_)

def valM : He.AlD := (true, fn.map He.DefD.val)

def SaysM (K : PySem.W.Frag) : Prop := obsM fa fn chk K = valM fn

def obsMG (n : Nat) (g : Addr → Option Obj) : He.AlD := obsM fa fn chk (He.frG g (He.asD g n))

def hookM (n : Nat) : PySem.W.Hook where
  α := He.AlD
  obs := fun s => obsMG fa fn chk n s.heap.get?
  val := fun _ => valM fn
  says := fun _ h => ∃ K : PySem.W.Frag, K.In h ∧ SaysM fa fn chk K
  of := fun _ _ e => ⟨_, He.frG_in, e⟩
  keeps := fun _ _ _ ⟨K, hK, c⟩ k => ⟨K, PySem.W.Frag.In.keeps hK k, c⟩

end
section
variable {fa : List He.Fa} {fn : List He.DefD} {chk : PySem.W.Frag → Bool} {K : PySem.W.Frag}
theorem obsMG_eq {n : Nat} {g : Addr → Option Obj} {s : Shared} (h : ∀ a, g a = s.heap.get? a) : obsMG fa fn chk n g = (hookM fa fn chk n).obs s := by
  have e : g = s.heap.get? := funext h
  rw [e] <;> rfl

def noList (K : PySem.W.Frag) : Bool := K.all fun p => !(p.2.cls == Value.type "list")

end
end DL
namespace Mk
open PySem PySem.Spec PyProof.Rows L2 DL
def top (i : Nat) : Stmt := PySem.Challenge.pw_masking_k20_whole_mirrored.main.body.getD i (.Pass ⟨0, 0, 0, 0⟩)

abbrev s_is_count : Stmt := top 13
abbrev s_is_step : Stmt := top 14
abbrev s_is_mask : Stmt := top 15
abbrev s_is_string : Stmt := top 16
abbrev s_need_mask : Stmt := top 17
abbrev s_need_string : Stmt := top 18
abbrev s_squeezed : Stmt := top 19
abbrev s_hidden : Stmt := top 20
abbrev s_stepped : Stmt := top 21
abbrev s_template_of : Stmt := top 22
abbrev s_output_of : Stmt := top 23
abbrev s_apply : Stmt := top 24
abbrev s_template : Stmt := top 25
abbrev s_bound : Stmt := top 26
abbrev s_is_release : Stmt := top 29
abbrev s_need_release : Stmt := top 30
abbrev s_head : Stmt := top 31
abbrev s_are_similar : Stmt := top 32
abbrev s_equated : Stmt := top 33
abbrev s_strings_of : Stmt := top 34
abbrev s_parted : Stmt := top 35
abbrev s_smallest_counterexample : Stmt := top 36
abbrev s_redundant : Stmt := top 37
abbrev s_group_size : Stmt := top 38
abbrev s_shown_letters : Stmt := top 40
abbrev s_possible : Stmt := top 41
abbrev s_lengths : Stmt := top 42
abbrev s_common : Stmt := top 43
abbrev s_known_of : Stmt := top 44
abbrev s_known : Stmt := top 45
abbrev s_known_from_end : Stmt := top 46
abbrev s_first_difference : Stmt := top 48
abbrev s_showing : Stmt := top 49
abbrev s_difference : Stmt := top 50
abbrev s_law_draw : Stmt := top 52
abbrev s_law_pick : Stmt := top 53
abbrev s_law_mask : Stmt := top 54
abbrev s_law_string : Stmt := top 55
abbrev s_law_step : Stmt := top 56
abbrev s_law_run : Stmt := top 57
abbrev s_law_release : Stmt := top 59
abbrev s_law_mirrored : Stmt := top 61
abbrev s_law : Stmt := top 62
def mkD (x : Str) (st : Stmt) : He.DefD := ⟨(x, none), x, x, defArgs st, defBody st, defScope st, [], []⟩
def fnL : List He.DefD := [mkD "is_count" s_is_count, mkD "is_step" s_is_step, mkD "is_mask" s_is_mask, mkD "is_string" s_is_string, mkD "need_mask" s_need_mask, mkD "need_string" s_need_string, mkD "squeezed" s_squeezed, mkD "hidden" s_hidden, mkD "stepped" s_stepped, mkD "template_of" s_template_of, mkD "output_of" s_output_of, mkD "apply" s_apply, mkD "template" s_template, mkD "bound" s_bound, mkD "is_release" s_is_release, mkD "need_release" s_need_release, mkD "head" s_head, mkD "are_similar" s_are_similar, mkD "equated" s_equated, mkD "strings_of" s_strings_of, mkD "parted" s_parted, mkD "smallest_counterexample" s_smallest_counterexample, mkD "redundant" s_redundant, mkD "group_size" s_group_size, mkD "shown_letters" s_shown_letters, mkD "possible" s_possible, mkD "lengths" s_lengths, mkD "common" s_common, mkD "known_of" s_known_of, mkD "known" s_known, mkD "known_from_end" s_known_from_end, mkD "first_difference" s_first_difference, mkD "showing" s_showing, mkD "difference" s_difference, mkD "_law_draw" s_law_draw, mkD "_law_pick" s_law_pick, mkD "_law_mask" s_law_mask, mkD "_law_string" s_law_string, mkD "_law_step" s_law_step, mkD "_law_run" s_law_run, mkD "_law_release" s_law_release, mkD "_law_mirrored" s_law_mirrored, mkD "law" s_law]
def faL : List He.Fa := ([.glo "is_count", .glo "is_step", .glo "is_mask", .glo "is_string", .glo "need_mask", .glo "need_string", .glo "squeezed", .glo "hidden", .glo "stepped", .glo "template_of", .glo "output_of", .glo "apply", .glo "template", .glo "bound", .glo "is_release", .glo "need_release", .glo "head", .glo "are_similar", .glo "equated", .glo "strings_of", .glo "parted", .glo "smallest_counterexample", .glo "redundant", .glo "group_size", .glo "shown_letters", .glo "possible", .glo "lengths", .glo "common", .glo "known_of", .glo "known"] : List He.Fa) ++ ([.glo "known_from_end", .glo "first_difference", .glo "showing", .glo "difference", .glo "_law_draw", .glo "_law_pick", .glo "_law_mask", .glo "_law_string", .glo "_law_step", .glo "_law_run", .glo "_law_release", .glo "_law_mirrored", .glo "law", .free "len", .free "range", .free "isinstance", .free "enumerate", .free "zip", .free "all", .free "any", .free "sum", .free "max", .free "min", .free "list", .free "tuple", .free "int", .free "str", .free "bool", .free "sorted", .free "set"] : List He.Fa) ++ ([.free "dict", .str "LETTERS" "abcdefghijklmnopqrstuvwxyz", .int "LONGEST" 40, .int "STEPS" 4, .int "NUMBER" 5, .glo "NAMES", .int "MASKS" 3] : List He.Fa)
def chkL (K : PySem.W.Frag) : Bool := noList K && He.tupB K "NAMES" [.str "keep_first", .str "keep_last", .str "hide_first", .str "hide_last", .str "cut_first", .str "cut_last", .str "squeeze", .str "short"]
abbrev R : PySem.W.OpenRow := PySem.W.OpenLaw.row PySem.Challenge.rw_masking_k20_whole_mirrored
abbrev hk : PySem.W.Hook := hookM faL fnL chkL 4
def ob (s : PySem.W.SharedT) : He.AlD := obsMG faL fnL chkL 4 (HandSHeadRun.getT s)
theorem ob_eq (s : PySem.W.SharedT) : ob s = hk.obs s.abs := obsMG_eq (HandSHeadRun.getT_eq s)
def loose : List Str := (["MaskError", "InvalidMask", "InvalidString", "InvalidLength", "InvalidRelease", "InvalidAlphabet", "LETTERS", "LONGEST", "STEPS", "NUMBER", "NAMES", "is_count", "is_step", "is_mask", "is_string", "need_mask", "need_string", "squeezed", "hidden", "stepped", "template_of", "output_of", "apply", "template", "bound", "MASKS", "is_release", "need_release", "head", "are_similar"] : List Str) ++ (["equated", "strings_of", "parted", "smallest_counterexample", "redundant", "group_size", "shown_letters", "possible", "lengths", "common", "known_of", "known", "known_from_end", "first_difference", "showing", "difference", "_law_draw", "_law_pick", "_law_mask", "_law_string", "_law_step", "_law_run", "_law_strings", "_law_release", "_law_outputs", "_law_mirrored"] : List Str)
theorem run (w : World) : HandSHeadRun.RunEq R (PySem.W.view R.prog [62]) hk ob 6000 loose w := by
  intro os
  kernel_rfl
end Mk

namespace DL
open PySem PySem.Spec PyProof.Rows L2

/-! ## data and its lying in the heap -/
def kD : Key → PyData
  | .inl i => .int i
  | .inr s => .str s
/-- a tuple that is tracked -/
def SqU (K : PySem.W.Frag) (F : Hp) (a : Addr) (xs : List V) : Prop := F a = some (.tup xs) ∨ False
theorem SqU.sq {K : PySem.W.Frag} {F : Hp} {a : Addr} {xs : List V} (h : SqU K F a xs) : SqT K F a xs := by
  rcases h with h | h
  · exact .inl (.inl h)
  · exact h.elim
mutual
inductive Rep (K : PySem.W.Frag) (F : Hp) : V → PyData → Prop
  | non : Rep K F .non .none
  | bl (b : Bool) : Rep K F (.bl b) (.bool b)
  | int (i : Int) : Rep K F (.int i) (.int i)
  | str (x : Str) : Rep K F (.str x) (.str x)
  | lst {a : Addr} {xs : List V} {ds : List PyData} : F a = some (.lst xs) → Reps K F xs ds → Rep K F (.ref a) (.list ds)
  | tup {a : Addr} {xs : List V} {ds : List PyData} : SqU K F a xs → Reps K F xs ds → Rep K F (.ref a) (.tuple ds)
  | dk {a : Addr} {kvs : List (Key × V)} {ds : List (PyData × PyData)} : F a = some (.dK kvs) → RepK K F kvs ds → Rep K F (.ref a) (.dict ds)
  | dt {a : Addr} {kvs : List (List Key × V)} {ds : List (PyData × PyData)} : F a = some (.dT kvs) → RepT K F kvs ds → Rep K F (.ref a) (.dict ((.none, .none) :: ds))
  | dl {a : Addr} {o : Obj} {kvs : List (Key × V)} {ds : List (PyData × PyData)} : F a = some (.frz o (.dK kvs)) → RepK K F kvs ds → Rep K F (.ref a) (.dict ((.bool true, .none) :: ds))
inductive Reps (K : PySem.W.Frag) (F : Hp) : List V → List PyData → Prop
  | nil : Reps K F [] []
  | cons {v : V} {vs : List V} {d : PyData} {ds : List PyData} : Rep K F v d → Reps K F vs ds → Reps K F (v :: vs) (d :: ds)
inductive RepK (K : PySem.W.Frag) (F : Hp) : List (Key × V) → List (PyData × PyData) → Prop
  | nil : RepK K F [] []
  | cons {k : Key} {v : V} {vs : List (Key × V)} {d : PyData} {ds : List (PyData × PyData)} : Rep K F v d → RepK K F vs ds → RepK K F ((k, v) :: vs) ((kD k, d) :: ds)
inductive RepT (K : PySem.W.Frag) (F : Hp) : List (List Key × V) → List (PyData × PyData) → Prop
  | nil : RepT K F [] []
  | cons {k : List Key} {v : V} {vs : List (List Key × V)} {d : PyData} {ds : List (PyData × PyData)} : Rep K F v d → RepT K F vs ds → RepT K F ((k, v) :: vs) ((.tuple (k.map kD), d) :: ds)
end

theorem Same.tupS {K : PySem.W.Frag} {H H' : Hp} {a : Addr} {xs : List V} (e : Same H H') (h : SqT K H a xs) : SqT K H' a xs := by
  rcases h with (h | ⟨o, h⟩) | h
  · exact .inl (.inl (e _ _ h))
  · exact .inl (.inr ⟨o, e _ _ h⟩)
  · exact .inr h
theorem Same.tupU {K : PySem.W.Frag} {H H' : Hp} {a : Addr} {xs : List V} (e : Same H H') (h : SqU K H a xs) : SqT K H' a xs := Same.tupS e h.sq
theorem Same.tupV {K : PySem.W.Frag} {H H' : Hp} {a : Addr} {xs : List V} (e : Same H H') (h : SqU K H a xs) : SqU K H' a xs := by
  rcases h with h | h
  · exact .inl (e _ _ h)
  · exact h.elim
section
variable {K : PySem.W.Frag} {F F' : Hp}
mutual
theorem Rep.mono (m : Same F F') : ∀ {v : V} {d : PyData}, Rep K F v d → Rep K F' v d
  | _, _, .non => .non
  | _, _, .bl b => .bl b
  | _, _, .int i => .int i
  | _, _, .str x => .str x
  | _, _, .lst h r => .lst (m _ _ h) (Reps.mono m r)
  | _, _, .tup h r => .tup (Same.tupV m h) (Reps.mono m r)
  | _, _, .dk h r => .dk (m _ _ h) (RepK.mono m r)
  | _, _, .dt h r => .dt (m _ _ h) (RepT.mono m r)
  | _, _, .dl h r => .dl (m _ _ h) (RepK.mono m r)
theorem Reps.mono (m : Same F F') : ∀ {v : List V} {d : List PyData}, Reps K F v d → Reps K F' v d
  | _, _, .nil => .nil
  | _, _, .cons h r => .cons (Rep.mono m h) (Reps.mono m r)
theorem RepK.mono (m : Same F F') : ∀ {v : List (Key × V)} {d : List (PyData × PyData)}, RepK K F v d → RepK K F' v d
  | _, _, .nil => .nil
  | _, _, .cons h r => .cons (Rep.mono m h) (RepK.mono m r)
theorem RepT.mono (m : Same F F') : ∀ {v : List (List Key × V)} {d : List (PyData × PyData)}, RepT K F v d → RepT K F' v d
  | _, _, .nil => .nil
  | _, _, .cons h r => .cons (Rep.mono m h) (RepT.mono m r)
end
theorem Reps.length : ∀ {v : List V} {d : List PyData}, Reps K F v d → v.length = d.length
  | _, _, .nil => rfl
  | _, _, .cons _ r => congrArg (· + 1) (Reps.length r)
theorem Reps.get : ∀ {vs : List V} {ds : List PyData} {i : Nat} {d : PyData}, Reps K F vs ds → ds[i]? = some d → ∃ v, vs[i]? = some v ∧ Rep K F v d
  | _, _, _, _, .nil, e => by simp at e
  | _, _, 0, _, .cons h _, e => by
    simp at e
    subst e
    exact ⟨_, rfl, h⟩
  | _, _, i + 1, _, .cons _ r, e => by
    obtain ⟨v, h1, h2⟩ := Reps.get (i := i) r (by simpa using e)
    exact ⟨v, by simpa using h1, h2⟩
theorem Reps.got : ∀ {vs : List V} {ds : List PyData} {i : Nat} {v : V}, Reps K F vs ds → vs[i]? = some v → ∃ d, ds[i]? = some d ∧ Rep K F v d
  | _, _, _, _, .nil, e => by simp at e
  | _, _, 0, _, .cons h _, e => by
    simp at e
    subst e
    exact ⟨_, rfl, h⟩
  | _, _, i + 1, _, .cons _ r, e => by
    obtain ⟨v, h1, h2⟩ := Reps.got (i := i) r (by simpa using e)
    exact ⟨v, by simpa using h1, h2⟩
theorem Reps.append : ∀ {vs ws : List V} {ds es : List PyData}, Reps K F vs ds → Reps K F ws es → Reps K F (vs ++ ws) (ds ++ es)
  | _, _, _, _, .nil, s => s
  | _, _, _, _, .cons h r, s => .cons h (Reps.append r s)
theorem Reps.take : ∀ {vs : List V} {ds : List PyData} (n : Nat), Reps K F vs ds → Reps K F (vs.take n) (ds.take n)
  | _, _, 0, _ => by simp; exact .nil
  | _, _, _ + 1, .nil => .nil
  | _, _, n + 1, .cons h r => .cons h (Reps.take n r)
theorem Reps.drop : ∀ {vs : List V} {ds : List PyData} (n : Nat), Reps K F vs ds → Reps K F (vs.drop n) (ds.drop n)
  | _, _, 0, h => h
  | _, _, _ + 1, .nil => .nil
  | _, _, n + 1, .cons _ r => Reps.drop n r
theorem Reps.set {v : V} {d : PyData} (h : Rep K F v d) : ∀ {vs : List V} {ds : List PyData} (n : Nat), Reps K F vs ds → Reps K F (vs.set n v) (ds.set n d)
  | _, _, _, .nil => .nil
  | _, _, 0, .cons _ r => .cons h r
  | _, _, n + 1, .cons q r => .cons q (Reps.set h n r)
theorem Reps.reverse : ∀ {vs : List V} {ds : List PyData}, Reps K F vs ds → Reps K F vs.reverse ds.reverse
  | _, _, .nil => .nil
  | _, _, .cons h r => by
    rw [List.reverse_cons, List.reverse_cons]
    exact (Reps.reverse r).append (.cons h .nil)
theorem Reps.rep {vs : List V} {ds : List PyData} (h : Reps K F vs ds) : ∀ k : Nat, Reps K F (List.replicate k vs).flatten (List.replicate k ds).flatten
  | 0 => .nil
  | k + 1 => by
    rw [List.replicate_succ, List.replicate_succ, List.flatten_cons, List.flatten_cons]
    exact h.append (Reps.rep h k)
theorem Reps.ints : ∀ (ns : List Int), Reps K F (ns.map V.int) (ns.map PyData.int)
  | [] => .nil
  | n :: ns => .cons (.int n) (Reps.ints ns)
theorem Reps.strs : ∀ (ns : List Str), Reps K F (ns.map V.str) (ns.map PyData.str)
  | [] => .nil
  | n :: ns => .cons (.str n) (Reps.strs ns)
theorem Reps.bls : ∀ (ns : List Bool), Reps K F (ns.map V.bl) (ns.map PyData.bool)
  | [] => .nil
  | n :: ns => .cons (.bl n) (Reps.bls ns)
theorem Reps.int_inv : ∀ {vs : List V} {ns : List Int}, Reps K F vs (ns.map PyData.int) → vs = ns.map V.int
  | _, [], .nil => rfl
  | _, n :: ns, .cons h r => by
    cases h
    rw [Reps.int_inv r]
    rfl
theorem Reps.str_inv : ∀ {vs : List V} {ns : List Str}, Reps K F vs (ns.map PyData.str) → vs = ns.map V.str
  | _, [], .nil => rfl
  | _, n :: ns, .cons h r => by
    cases h
    rw [Reps.str_inv r]
    rfl
theorem Reps.bl_inv : ∀ {vs : List V} {ns : List Bool}, Reps K F vs (ns.map PyData.bool) → vs = ns.map V.bl
  | _, [], .nil => rfl
  | _, n :: ns, .cons h r => by
    cases h
    rw [Reps.bl_inv r]
    rfl
/-! no dict in it -/
mutual
def plain : PyData → Bool
  | .dict _ => false
  | .list xs => plains xs
  | .tuple xs => plains xs
  | _ => true
def plains : List PyData → Bool
  | [] => true
  | d :: ds => plain d && plains ds
end
mutual
theorem Rep.dp : ∀ {v : V} {d : PyData}, plain d = true → Rep K F v d → Dp K F v d
  | _, _, _, .non => .non
  | _, _, _, .bl b => .bl b
  | _, _, _, .int i => .int i
  | _, _, _, .str x => .str x
  | _, _, p, .lst h r => .lst (SqL.of h) (Reps.dp (by simpa [plain] using p) r)
  | _, _, p, .tup h r => .tup h.sq (Reps.dp (by simpa [plain] using p) r)
  | _, _, p, .dk _ _ => by simp [plain] at p
  | _, _, p, .dt _ _ => by simp [plain] at p
  | _, _, p, .dl _ _ => by simp [plain] at p
theorem Reps.dp : ∀ {v : List V} {d : List PyData}, plains d = true → Reps K F v d → DpAll K F v d
  | _, _, _, .nil => .nil
  | _, _, p, .cons h r => by
    simp [plains] at p
    exact .cons (Rep.dp p.1 h) (Reps.dp p.2 r)
end
end
end DL

namespace DL
open PySem PySem.Spec PyProof.Rows L2

/-! ## the world of a def: slots, owned things -/
inductive Own where
  | lst (ds : List PyData)
  | scr (ns : List Int)
  | dct (ds : List (PyData × PyData))
  | dtt (ds : List (PyData × PyData))
inductive Sl where
  | no
  | dat (d : PyData)
  | own (m : Bool) (a : Addr) (o : Own)
/-- what an expression gives: data, or the owned thing that stands in a slot -/
inductive Vx where
  | dat (d : PyData)
  | ptr (i : Nat)
structure En where
  F0 : Hp
  H0 : Hp
  O : Addr → Prop
def OwnOk (K : PySem.W.Frag) (F H : Hp) (a : Addr) : Own → Prop
  | .lst ds => ∃ xs, H a = some (.lst xs) ∧ Reps K F xs ds
  | .scr ns => (∃ o, H a = some o) ∧ SqL K H a (ns.map V.int)
  | .dct ds => ∃ kvs, H a = some (.dK kvs) ∧ RepK K F kvs ds
  | .dtt ds => ∃ kvs, H a = some (.dT kvs) ∧ RepT K F kvs ds
/-- made here (true), or handed in -/
def Mine (e : En) (a : Addr) : Bool → Prop
  | true => e.H0 a = none
  | false => e.O a
theorem Mine.or {e : En} {a : Addr} {m : Bool} (h : Mine e a m) : e.O a ∨ e.H0 a = none := by
  cases m with
  | true => exact .inr h
  | false => exact .inl h
def SlOk (K : PySem.W.Frag) (e : En) (F H : Hp) (x : Option (Option V)) : Sl → Prop
  | .no => True
  | .dat d => ∃ v, x = some (some v) ∧ Rep K F v d
  | .own m a o => x = some (some (.ref a)) ∧ F a = none ∧ Mine e a m ∧ OwnOk K F H a o
structure Wd (K : PySem.W.Frag) (e : En) (F H : Hp) (σ : L2.St) (S : List Sl) : Prop where
  sub : Same F H
  f0 : Same e.F0 F
  keep : ∀ b o, e.H0 b = some o → ¬ e.O b → H b = some o
  live : ∀ b, e.H0 b ≠ none → H b ≠ none
  unf : ∀ b, e.H0 b ≠ none → e.F0 b = none → F b = none
  len : σ.length = S.length
  slots : ∀ (i : Nat) (s : Sl), S[i]? = some s → SlOk K e F H σ[i]? s
  sep : ∀ (i j : Nat) (m : Bool) (a : Addr) (o : Own) (n : Bool) (b : Addr) (p : Own), i ≠ j → S[i]? = some (.own m a o) → S[j]? = some (.own n b p) → a ≠ b
def RepX (K : PySem.W.Frag) (F : Hp) (σ : L2.St) (v : V) : Vx → Prop
  | .dat d => Rep K F v d
  | .ptr i => σ[i]? = some (some v)
inductive RepXs (K : PySem.W.Frag) (F : Hp) (σ : L2.St) : List V → List Vx → Prop
  | nil : RepXs K F σ [] []
  | cons {v : V} {vs : List V} {x : Vx} {xs : List Vx} : RepX K F σ v x → RepXs K F σ vs xs → RepXs K F σ (v :: vs) (x :: xs)

section
variable {K : PySem.W.Frag} {e : En} {F F' H H' : Hp} {σ σ' : L2.St} {S S' : List Sl}
theorem OwnOk.there {a : Addr} {o : Own} (h : OwnOk K F H a o) : ∃ u, H a = some u := by
  cases o with
  | lst ds => obtain ⟨xs, h, _⟩ := h; exact ⟨_, h⟩
  | scr ns => exact h.1
  | dct ds => obtain ⟨xs, h, _⟩ := h; exact ⟨_, h⟩
  | dtt ds => obtain ⟨xs, h, _⟩ := h; exact ⟨_, h⟩
theorem OwnOk.mono {a : Addr} {o : Own} (h : OwnOk K F H a o) (m : Same F F') (k : ∀ u, H a = some u → H' a = some u) : OwnOk K F' H' a o := by
  cases o with
  | lst ds => obtain ⟨xs, h, r⟩ := h; exact ⟨xs, k _ h, r.mono m⟩
  | scr ns =>
    obtain ⟨⟨u, h⟩, r⟩ := h
    refine ⟨⟨u, k _ h⟩, ?_⟩
    rcases r with (r | ⟨o, r⟩) | r
    · exact .inl (.inl (k _ r))
    · exact .inl (.inr ⟨o, k _ r⟩)
    · exact .inr r
  | dct ds => obtain ⟨xs, h, r⟩ := h; exact ⟨xs, k _ h, r.mono m⟩
  | dtt ds => obtain ⟨xs, h, r⟩ := h; exact ⟨xs, k _ h, r.mono m⟩
theorem RepX.mono {v : V} {x : Vx} (h : RepX K F σ v x) (m : Same F F') : RepX K F' σ v x := by
  cases x with
  | dat d => exact Rep.mono m h
  | ptr i => exact h
theorem RepXs.mono (m : Same F F') : ∀ {v : List V} {x : List Vx}, RepXs K F σ v x → RepXs K F' σ v x
  | _, _, .nil => .nil
  | _, _, .cons h r => .cons (h.mono m) (RepXs.mono m r)
theorem upd_sub {a : Addr} {o : HO} (m : Same F H) (n : H a = none) : Same F (upd H a o) := fun b u h => by
  rw [upd_ne (ne_of_none (m b u h) n)]
  exact m b u h
theorem same_new {a : Addr} {o : HO} (n : H a = none) : Same H (upd H a o) := fun b u h => by
  rw [upd_ne (ne_of_none h n)]
  exact h
theorem same_both {a : Addr} {o : HO} (m : Same F H) : Same (upd F a o) (upd H a o) := fun b u h => by
  by_cases hb : b = a
  · subst hb
    rw [upd_same] at h ⊢
    exact h
  · rw [upd_ne hb] at h ⊢
    exact m b u h
/-- a new thing is laid and frozen -/
theorem Wd.laid (w : Wd K e F H σ S) {a : Addr} {o : HO} (n : H a = none) : Wd K e (upd F a o) (upd H a o) σ S := by
  have nf : F a = none := w.sub.free n
  have n0 : e.H0 a = none := by
    cases q : e.H0 a with
    | none => rfl
    | some u => exact absurd n (w.live a (by rw [q]; exact fun z => nomatch z))
  exact {
    sub := same_both w.sub
    f0 := w.f0.trans (same_new nf)
    keep := fun b u h no => by
      have z := w.keep b u h no
      rw [upd_ne (ne_of_none z n)]
      exact z
    live := fun b h => by
      by_cases hb : b = a
      · subst hb
        rw [upd_same]
        exact fun z => nomatch z
      · rw [upd_ne hb]
        exact w.live b h
    unf := fun b h1 h2 => by
      have hb : b ≠ a := fun z => by
        subst z
        exact h1 n0
      rw [upd_ne hb]
      exact w.unf b h1 h2
    len := w.len
    slots := fun i s h => by
      have q := w.slots i s h
      cases s with
      | no => trivial
      | dat d =>
        obtain ⟨v, h1, h2⟩ := q
        exact ⟨v, h1, h2.mono (same_new nf)⟩
      | own n' b p =>
        obtain ⟨h1, h2, h3, h4⟩ := q
        obtain ⟨u, hu⟩ := h4.there
        have hb : b ≠ a := ne_of_none hu n
        refine ⟨h1, ?_, h3, h4.mono (same_new nf) fun u z => ?_⟩
        · rw [upd_ne hb]
          exact h2
        · rw [upd_ne hb]
          exact z
    sep := w.sep }
/-- a new thing is laid and not frozen -/
theorem Wd.fresh (w : Wd K e F H σ S) {a : Addr} {o : HO} (n : H a = none) : Wd K e F (upd H a o) σ S := by
  exact {
    sub := upd_sub w.sub n
    f0 := w.f0
    keep := fun b u h no => by
      have z := w.keep b u h no
      rw [upd_ne (ne_of_none z n)]
      exact z
    live := fun b h => by
      by_cases hb : b = a
      · subst hb
        rw [upd_same]
        exact fun z => nomatch z
      · rw [upd_ne hb]
        exact w.live b h
    unf := w.unf
    len := w.len
    slots := fun i s h => by
      have q := w.slots i s h
      cases s with
      | no => trivial
      | dat d => exact q
      | own n' b p =>
        obtain ⟨h1, h2, h3, h4⟩ := q
        obtain ⟨u, hu⟩ := h4.there
        have hb : b ≠ a := ne_of_none hu n
        refine ⟨h1, h2, h3, h4.mono (Same.refl _) fun u z => ?_⟩
        rw [upd_ne hb]
        exact z
    sep := w.sep }
/-- a thing that is tracked, no slot's, known to no entry: it may change -/
theorem Wd.change (w : Wd K e F H σ S) {a : Addr} {o : HO} (n0 : e.H0 a = none) (nf : F a = none) (no : ∀ (i : Nat) n b p, S[i]? = some (.own n b p) → b ≠ a) : Wd K e F (upd H a o) σ S := by
  exact {
    sub := fun b u h => by
      rw [upd_ne (ne_of_none h nf)]
      exact w.sub b u h
    f0 := w.f0
    keep := fun b u h q => by
      rw [upd_ne (ne_of_none h n0)]
      exact w.keep b u h q
    live := fun b h => by
      by_cases hb : b = a
      · subst hb
        rw [upd_same]
        exact fun z => nomatch z
      · rw [upd_ne hb]
        exact w.live b h
    unf := w.unf
    len := w.len
    slots := fun i s h => by
      have q := w.slots i s h
      cases s with
      | no => trivial
      | dat d => exact q
      | own n b p =>
        obtain ⟨h1, h2, h3, h4⟩ := q
        refine ⟨h1, h2, h3, h4.mono (Same.refl _) fun u z => ?_⟩
        rw [upd_ne (no i n b p h)]
        exact z
    sep := w.sep }
/-- a thing that is tracked, no slot's, known to no entry: it is frozen -/
theorem Wd.freeze (w : Wd K e F H σ S) {a : Addr} {o : HO} (h : H a = some o) (n0 : e.H0 a = none) (nf : F a = none) (no : ∀ (i : Nat) n b p, S[i]? = some (.own n b p) → b ≠ a) : Wd K e (upd F a o) H σ S := by
  exact {
    sub := fun b u q => by
      by_cases hb : b = a
      · subst hb
        rw [upd_same] at q
        cases q
        exact h
      · rw [upd_ne hb] at q
        exact w.sub b u q
    f0 := w.f0.trans (same_new nf)
    keep := w.keep
    live := w.live
    unf := fun b h1 h2 => by
      have hb : b ≠ a := fun z => by
        subst z
        exact h1 n0
      rw [upd_ne hb]
      exact w.unf b h1 h2
    len := w.len
    slots := fun i s h => by
      have q := w.slots i s h
      cases s with
      | no => trivial
      | dat d =>
        obtain ⟨v, h1, h2⟩ := q
        exact ⟨v, h1, h2.mono (same_new nf)⟩
      | own n b p =>
        obtain ⟨h1, h2, h3, h4⟩ := q
        refine ⟨h1, ?_, h3, h4.mono (same_new nf) fun u z => z⟩
        rw [upd_ne (no i n b p h)]
        exact h2
    sep := w.sep }
theorem get_set {α : Type} {l : List α} {i j : Nat} {x : α} {s : α} (h : (l.set i x)[j]? = some s) : (j = i ∧ s = x ∧ i < l.length) ∨ (j ≠ i ∧ l[j]? = some s) := by
  by_cases e : j = i
  · subst e
    by_cases hl : j < l.length
    · rw [List.getElem?_set_self hl] at h
      exact .inl ⟨rfl, (Option.some.inj h).symm, hl⟩
    · rw [List.getElem?_eq_none (by simpa using Nat.le_of_not_lt hl)] at h
      cases h
  · rw [List.getElem?_set_ne (Ne.symm e)] at h
    exact .inr ⟨e, h⟩
/-- a slot is given data -/
theorem Wd.put (w : Wd K e F H σ S) {i : Nat} {v : V} {d : PyData} (hi : i < S.length) (r : Rep K F v d) : Wd K e F H (σ.set i (some v)) (S.set i (.dat d)) := by
  exact {
    sub := w.sub, f0 := w.f0, keep := w.keep, live := w.live, unf := w.unf
    len := by simp [w.len]
    slots := fun j s h => by
      rcases get_set h with ⟨rfl, rfl, _⟩ | ⟨hj, h⟩
      · exact ⟨v, by rw [List.getElem?_set_self (by rw [w.len]; exact hi)], r⟩
      · rw [List.getElem?_set_ne (Ne.symm hj)]
        exact w.slots j s h
    sep := fun j k m a o n b p hjk h1 h2 => by
      rcases get_set h1 with ⟨_, z, _⟩ | ⟨_, h1⟩
      · cases z
      rcases get_set h2 with ⟨_, z, _⟩ | ⟨_, h2⟩
      · cases z
      exact w.sep j k m a o n b p hjk h1 h2 }
/-- a slot is given an owned thing -/
theorem Wd.putOwn (w : Wd K e F H σ S) {i : Nat} {m : Bool} {a : Addr} {o : Own} (hi : i < S.length) (n0 : Mine e a m) (nf : F a = none) (r : OwnOk K F H a o) (no : ∀ (j : Nat) n b p, S[j]? = some (.own n b p) → b ≠ a) : Wd K e F H (σ.set i (some (.ref a))) (S.set i (.own m a o)) := by
  exact {
    sub := w.sub, f0 := w.f0, keep := w.keep, live := w.live, unf := w.unf
    len := by simp [w.len]
    slots := fun j s h => by
      rcases get_set h with ⟨rfl, rfl, _⟩ | ⟨hj, h⟩
      · exact ⟨by rw [List.getElem?_set_self (by rw [w.len]; exact hi)], nf, n0, r⟩
      · rw [List.getElem?_set_ne (Ne.symm hj)]
        exact w.slots j s h
    sep := fun j k n b p l c q hjk h1 h2 => by
      rcases get_set h1 with ⟨e1, z1, _⟩ | ⟨e1, h1⟩
      · cases z1
        rcases get_set h2 with ⟨e2, z2, _⟩ | ⟨e2, h2⟩
        · exact absurd (e1.trans e2.symm) hjk
        · exact (no k l c q h2).symm
      · rcases get_set h2 with ⟨e2, z2, _⟩ | ⟨e2, h2⟩
        · cases z2
          exact no j n b p h1
        · exact w.sep j k n b p l c q hjk h1 h2 }
/-- the owned thing of a slot is changed -/
theorem Wd.writeOwn (w : Wd K e F H σ S) {i : Nat} {m : Bool} {a : Addr} {o p : Own} {u : HO} (h : S[i]? = some (.own m a o)) (r : OwnOk K F (upd H a u) a p) : Wd K e F (upd H a u) σ (S.set i (.own m a p)) := by
  obtain ⟨h1, h2, h3, h4⟩ := w.slots i _ h
  have hi : i < S.length := by
    have := List.getElem?_eq_some_iff.mp h
    exact this.1
  exact {
    sub := fun b x q => by
      rw [upd_ne (ne_of_none q h2)]
      exact w.sub b x q
    f0 := w.f0
    keep := fun b x q no => by
      have hb : b ≠ a := fun z => by
        subst z
        rcases h3.or with z | z
        · exact no z
        · rw [z] at q
          cases q
      rw [upd_ne hb]
      exact w.keep b x q no
    live := fun b q => by
      by_cases hb : b = a
      · subst hb
        rw [upd_same]
        exact fun z => nomatch z
      · rw [upd_ne hb]
        exact w.live b q
    unf := w.unf
    len := by simp [w.len]
    slots := fun j s q => by
      rcases get_set q with ⟨rfl, rfl, _⟩ | ⟨hj, q⟩
      · exact ⟨h1, h2, h3, r⟩
      · have z := w.slots j s q
        cases s with
        | no => trivial
        | dat d => exact z
        | own n b x =>
          refine ⟨z.1, z.2.1, z.2.2.1, z.2.2.2.mono (Same.refl _) fun y hy => ?_⟩
          rw [upd_ne (w.sep j i n b x m a o hj q h)]
          exact hy
    sep := fun j k n b x l c y hjk q1 q2 => by
      rcases get_set q1 with ⟨e1, z1, _⟩ | ⟨e1, q1⟩
      · cases z1
        rcases get_set q2 with ⟨e2, z2, _⟩ | ⟨e2, q2⟩
        · exact absurd (e1.trans e2.symm) hjk
        · exact w.sep i k m a o l c y (Ne.symm e2) h q2
      · rcases get_set q2 with ⟨e2, z2, _⟩ | ⟨e2, q2⟩
        · cases z2
          exact w.sep j i n b x m a o e1 q1 h
        · exact w.sep j k n b x l c y hjk q1 q2 }
end

/-! ## the judgements over data -/
/-- an expression gives x, leaving the slots S', of which R holds -/
def EE (K : PySem.W.Frag) (t : TE) (S : List Sl) (R : Vx → List Sl → Prop) : Prop := ∀ (e : En) (F H : Hp) (σ : L2.St), Wd K e F H σ S → ∀ Q : VK, (∀ v x S' F' H', Wd K e F' H' σ S' → Same F F' → RepX K F' σ v x → R x S' → Q v H') → t σ H Q
/-- it gives a new owned thing -/
def EN (K : PySem.W.Frag) (t : TE) (S : List Sl) (R : Own → List Sl → Prop) : Prop := ∀ (e : En) (F H : Hp) (σ : L2.St), Wd K e F H σ S → ∀ Q : VK,
  (∀ a o S' F' H', Wd K e F' H' σ S' → Same F F' → F' a = none → e.H0 a = none → OwnOk K F' H' a o → (∀ (i : Nat) n b p, S'[i]? = some (.own n b p) → b ≠ a) → R o S' → Q (.ref a) H') → t σ H Q
def ET (K : PySem.W.Frag) (t : TT) (S : List Sl) (R : Bool → List Sl → Prop) : Prop := ∀ (e : En) (F H : Hp) (σ : L2.St), Wd K e F H σ S → ∀ Q : Bool → Hp → Prop, (∀ b S' F' H', Wd K e F' H' σ S' → Same F F' → R b S' → Q b H') → t σ H Q
def EA (K : PySem.W.Frag) (t : TA) (S : List Sl) (R : List Vx → List Sl → Prop) : Prop := ∀ (e : En) (F H : Hp) (σ : L2.St), Wd K e F H σ S → ∀ Q : List V → Hp → Prop, (∀ vs xs S' F' H', Wd K e F' H' σ S' → Same F F' → RepXs K F' σ vs xs → R xs S' → Q vs H') → t σ H Q
def EO (K : PySem.W.Frag) (t : TO) (S : List Sl) (R : Option Int → List Sl → Prop) : Prop := ∀ (e : En) (F H : Hp) (σ : L2.St), Wd K e F H σ S → ∀ Q : Option Int → Hp → Prop, (∀ b S' F' H', Wd K e F' H' σ S' → Same F F' → R b S' → Q b H') → t σ H Q
/-- an operation on two values; on one; a call on values; a method -/
def RR (K : PySem.W.Frag) (r : R2) (x y : Vx) (S : List Sl) (R : Vx → List Sl → Prop) : Prop := ∀ (e : En) (F H : Hp) (σ : L2.St) (v u : V), Wd K e F H σ S → RepX K F σ v x → RepX K F σ u y → ∀ Q : VK, (∀ v x S' F' H', Wd K e F' H' σ S' → Same F F' → RepX K F' σ v x → R x S' → Q v H') → r v u H Q
def RB (K : PySem.W.Frag) (r : List V → Hp → VK → Prop) (xs : List Vx) (S : List Sl) (R : Vx → List Sl → Prop) : Prop := ∀ (e : En) (F H : Hp) (σ : L2.St) (vs : List V), Wd K e F H σ S → RepXs K F σ vs xs → ∀ Q : VK, (∀ v x S' F' H', Wd K e F' H' σ S' → Same F F' → RepX K F' σ v x → R x S' → Q v H') → r vs H Q
def RN (K : PySem.W.Frag) (r : R2) (x y : Vx) (S : List Sl) (R : Own → List Sl → Prop) : Prop := ∀ (e : En) (F H : Hp) (σ : L2.St) (v u : V), Wd K e F H σ S → RepX K F σ v x → RepX K F σ u y → ∀ Q : VK,
  (∀ a o S' F' H', Wd K e F' H' σ S' → Same F F' → F' a = none → e.H0 a = none → OwnOk K F' H' a o → (∀ (i : Nat) n b p, S'[i]? = some (.own n b p) → b ≠ a) → R o S' → Q (.ref a) H') → r v u H Q
def RBN (K : PySem.W.Frag) (r : List V → Hp → VK → Prop) (xs : List Vx) (S : List Sl) (R : Own → List Sl → Prop) : Prop := ∀ (e : En) (F H : Hp) (σ : L2.St) (vs : List V), Wd K e F H σ S → RepXs K F σ vs xs → ∀ Q : VK,
  (∀ a o S' F' H', Wd K e F' H' σ S' → Same F F' → F' a = none → e.H0 a = none → OwnOk K F' H' a o → (∀ (i : Nat) n b p, S'[i]? = some (.own n b p) → b ≠ a) → R o S' → Q (.ref a) H') → r vs H Q
def RS (K : PySem.W.Frag) (r : V → Option Int → Option Int → Hp → VK → Prop) (x : Vx) (lo hi : Option Int) (S : List Sl) (R : Vx → List Sl → Prop) : Prop := ∀ (e : En) (F H : Hp) (σ : L2.St) (v : V), Wd K e F H σ S → RepX K F σ v x → ∀ Q : VK, (∀ v x S' F' H', Wd K e F' H' σ S' → Same F F' → RepX K F' σ v x → R x S' → Q v H') → r v lo hi H Q
def RM (K : PySem.W.Frag) (r : V → List V → Hp → VK → Prop) (x : Vx) (xs : List Vx) (S : List Sl) (R : Vx → List Sl → Prop) : Prop := ∀ (e : En) (F H : Hp) (σ : L2.St) (v : V) (vs : List V), Wd K e F H σ S → RepX K F σ v x → RepXs K F σ vs xs → ∀ Q : VK, (∀ v x S' F' H', Wd K e F' H' σ S' → Same F F' → RepX K F' σ v x → R x S' → Q v H') → r v vs H Q

section
variable {K : PySem.W.Frag} {S : List Sl} {R : Vx → List Sl → Prop} {RT : Bool → List Sl → Prop} {ta tb te : TE} {t u : TT}
theorem ee_var {i : Nat} {d : PyData} (h : S[i]? = some (.dat d)) (q : R (.dat d) S) : EE K (tVar i) S R := fun e F H σ w Q k => by
  obtain ⟨v, h1, h2⟩ := w.slots i _ h
  exact ⟨v, h1, k v (.dat d) S F H w (Same.refl _) h2 q⟩
theorem ee_ptr {i : Nat} {m : Bool} {a : Addr} {o : Own} (h : S[i]? = some (.own m a o)) (q : R (.ptr i) S) : EE K (tVar i) S R := fun e F H σ w Q k => by
  obtain ⟨h1, _⟩ := w.slots i _ h
  exact ⟨_, h1, k _ (.ptr i) S F H w (Same.refl _) h1 q⟩
theorem ee_c {v : V} {d : PyData} (r : ∀ F, Rep K F v d) (q : R (.dat d) S) : EE K (tC v) S R := fun e F H σ w Q k => k v (.dat d) S F H w (Same.refl _) (r F) q
theorem ee_int {i : Int} (q : R (.dat (.int i)) S) : EE K (tC (.int i)) S R := ee_c (fun _ => .int i) q
theorem ee_str {i : Str} (q : R (.dat (.str i)) S) : EE K (tC (.str i)) S R := ee_c (fun _ => .str i) q
theorem ee_bl {i : Bool} (q : R (.dat (.bool i)) S) : EE K (tC (.bl i)) S R := ee_c (fun _ => .bl i) q
theorem ee_non (q : R (.dat .none) S) : EE K (tC .non) S R := ee_c (fun _ => .non) q
theorem ee_op {r : R2} (h : EE K ta S fun x S1 => EE K tb S1 fun y S2 => RR K r x y S2 R) : EE K (tOp r ta tb) S R := fun e F H σ w Q k =>
  h e F H σ w _ fun v x S1 F1 H1 w1 m1 r1 q1 => q1 e F1 H1 σ w1 _ fun u y S2 F2 H2 w2 m2 r2 q2 =>
    q2 e F2 H2 σ v u w2 (r1.mono m2) r2 Q fun z x3 S3 F3 H3 w3 m3 r3 q3 => k z x3 S3 F3 H3 w3 ((m1.trans m2).trans m3) r3 q3
theorem ee_un {r : V → Hp → VK → Prop} (h : EE K ta S fun x S1 => RB K (fun vs H Q => ∃ v, vs = [v] ∧ r v H Q) [x] S1 R) : EE K (tUn r ta) S R := fun e F H σ w Q k =>
  h e F H σ w _ fun v x S1 F1 H1 w1 m1 r1 q1 => by
    obtain ⟨v', e1, h1⟩ := q1 e F1 H1 σ [v] w1 (.cons r1 .nil) Q fun z x3 S3 F3 H3 w3 m3 r3 q3 => k z x3 S3 F3 H3 w3 (m1.trans m3) r3 q3
    cases e1
    exact h1
theorem ee_if (h : ET K t S fun b S1 => if b = true then EE K ta S1 R else EE K tb S1 R) : EE K (tIf t ta tb) S R := fun e F H σ w Q k =>
  h e F H σ w _ fun b S1 F1 H1 w1 m1 q1 => by
    cases b with
    | true => exact iteT ((show EE K ta S1 R from q1) e F1 H1 σ w1 Q fun z x3 S3 F3 H3 w3 m3 r3 q3 => k z x3 S3 F3 H3 w3 (m1.trans m3) r3 q3)
    | false => exact iteF ((show EE K tb S1 R from q1) e F1 H1 σ w1 Q fun z x3 S3 F3 H3 w3 m3 r3 q3 => k z x3 S3 F3 H3 w3 (m1.trans m3) r3 q3)
theorem ee_imp {R' : Vx → List Sl → Prop} (h : EE K te S R') (q : ∀ x S', R' x S' → R x S') : EE K te S R := fun e F H σ w Q k => h e F H σ w Q fun v x S' F' H' w' m r z => k v x S' F' H' w' m r (q x S' z)
theorem et_test (h : EE K te S fun x S1 => ∃ b, x = .dat (.bool b) ∧ RT b S1) : ET K (tTest te) S RT := fun e F H σ w Q k =>
  h e F H σ w _ fun v x S1 F1 H1 w1 m1 r1 ⟨b, e1, q⟩ => by
    subst e1
    cases r1
    exact ⟨b, rfl, k b S1 F1 H1 w1 m1 q⟩
theorem et_B (h : EE K te S fun x S1 => ∃ b, x = .dat (.bool b) ∧ RT b S1) : ET K (tB te) S RT := fun e F H σ w Q k =>
  h e F H σ w _ fun v x S1 F1 H1 w1 m1 r1 ⟨b, e1, q⟩ => by
    subst e1
    cases r1
    exact ⟨b, rfl, k b S1 F1 H1 w1 m1 q⟩
theorem et_and (h : ET K t S fun b S1 => if b = true then ET K u S1 RT else RT false S1) : ET K (tAnd t u) S RT := fun e F H σ w Q k =>
  h e F H σ w _ fun b S1 F1 H1 w1 m1 q => by
    cases b with
    | true => exact iteT ((show ET K u S1 RT from q) e F1 H1 σ w1 Q fun b S2 F2 H2 w2 m2 q2 => k b S2 F2 H2 w2 (m1.trans m2) q2)
    | false => exact iteF (k false S1 F1 H1 w1 m1 q)
theorem et_or (h : ET K t S fun b S1 => if b = true then RT true S1 else ET K u S1 RT) : ET K (tOr t u) S RT := fun e F H σ w Q k =>
  h e F H σ w _ fun b S1 F1 H1 w1 m1 q => by
    cases b with
    | false => exact iteF ((show ET K u S1 RT from q) e F1 H1 σ w1 Q fun b S2 F2 H2 w2 m2 q2 => k b S2 F2 H2 w2 (m1.trans m2) q2)
    | true => exact iteT (k true S1 F1 H1 w1 m1 q)
theorem et_not (h : ET K t S fun b S1 => RT (!b) S1) : ET K (tNot t) S RT := fun e F H σ w Q k => h e F H σ w _ fun b S1 F1 H1 w1 m1 q => k (!b) S1 F1 H1 w1 m1 q
theorem ee_andV (h : EE K ta S fun x S1 => ∃ b, x = .dat (.bool b) ∧ if b = true then EE K tb S1 R else R (.dat (.bool false)) S1) : EE K (tAndV ta tb) S R := fun e F H σ w Q k =>
  h e F H σ w _ fun v x S1 F1 H1 w1 m1 r1 ⟨b, e1, q⟩ => by
    subst e1
    cases r1
    refine ⟨b, rfl, ?_⟩
    cases b with
    | true => exact iteT ((show EE K tb S1 R from q) e F1 H1 σ w1 Q fun z x3 S3 F3 H3 w3 m3 r3 q3 => k z x3 S3 F3 H3 w3 (m1.trans m3) r3 q3)
    | false => exact iteF (k _ (.dat (.bool false)) S1 F1 H1 w1 m1 (.bl false) q)
theorem ee_orV (h : EE K ta S fun x S1 => ∃ b, x = .dat (.bool b) ∧ if b = true then R (.dat (.bool true)) S1 else EE K tb S1 R) : EE K (tOrV ta tb) S R := fun e F H σ w Q k =>
  h e F H σ w _ fun v x S1 F1 H1 w1 m1 r1 ⟨b, e1, q⟩ => by
    subst e1
    cases r1
    refine ⟨b, rfl, ?_⟩
    cases b with
    | false => exact iteF ((show EE K tb S1 R from q) e F1 H1 σ w1 Q fun z x3 S3 F3 H3 w3 m3 r3 q3 => k z x3 S3 F3 H3 w3 (m1.trans m3) r3 q3)
    | true => exact iteT (k _ (.dat (.bool true)) S1 F1 H1 w1 m1 (.bl true) q)
theorem ee_notV (h : EE K ta S fun x S1 => ∃ b, x = .dat (.bool b) ∧ R (.dat (.bool (!b))) S1) : EE K (tNotV ta) S R := fun e F H σ w Q k =>
  h e F H σ w _ fun v x S1 F1 H1 w1 m1 r1 ⟨b, e1, q⟩ => by
    subst e1
    cases r1
    exact ⟨b, rfl, k _ (.dat (.bool (!b))) S1 F1 H1 w1 m1 (.bl _) q⟩
/-- a comparison chain -/
theorem ee_chain {r r' : R2} {tc : TE} (h : EE K ta S fun x S1 => EE K tb S1 fun y S2 => RR K r x y S2 fun z S3 => ∃ b, z = .dat (.bool b) ∧ if b = true then EE K tc S3 fun y' S4 => RR K r' y y' S4 R else R (.dat (.bool false)) S3) : EE K (tChain r r' ta tb tc) S R := fun e F H σ w Q k =>
  h e F H σ w _ fun v x S1 F1 H1 w1 m1 r1 q1 => q1 e F1 H1 σ w1 _ fun u y S2 F2 H2 w2 m2 r2 q2 =>
    q2 e F2 H2 σ v u w2 (r1.mono m2) r2 _ fun z x3 S3 F3 H3 w3 m3 r3 ⟨b, e3, q3⟩ => by
      subst e3
      cases r3
      refine ⟨b, rfl, ?_⟩
      cases b with
      | true => exact iteT ((show EE K tc S3 _ from q3) e F3 H3 σ w3 _ fun v4 x4 S4 F4 H4 w4 m4 r4 q4 => q4 e F4 H4 σ u v4 w4 (r2.mono (m3.trans m4)) r4 Q fun z x5 S5 F5 H5 w5 m5 r5 q5 => k z x5 S5 F5 H5 w5 ((((m1.trans m2).trans m3).trans m4).trans m5) r5 q5)
      | false => exact iteF (k _ (.dat (.bool false)) S3 F3 H3 w3 ((m1.trans m2).trans m3) (.bl false) q3)
/-- arguments -/
theorem ea_nil {R : List Vx → List Sl → Prop} (q : R [] S) : EA K tNil S R := fun e F H σ w Q k => k [] [] S F H w (Same.refl _) .nil q
theorem ea_cons {tr : TA} {R : List Vx → List Sl → Prop} (h : EE K ta S fun x S1 => EA K tr S1 fun xs S2 => R (x :: xs) S2) : EA K (tCons ta tr) S R := fun e F H σ w Q k =>
  h e F H σ w _ fun v x S1 F1 H1 w1 m1 r1 q1 => q1 e F1 H1 σ w1 _ fun vs xs S2 F2 H2 w2 m2 r2 q2 => k (v :: vs) (x :: xs) S2 F2 H2 w2 (m1.trans m2) (.cons (r1.mono m2) r2) q2
theorem ee_cb {r : List V → Hp → VK → Prop} {tr : TA} (h : EA K tr S fun xs S1 => RB K r xs S1 R) : EE K (tCB r tr) S R := fun e F H σ w Q k =>
  h e F H σ w _ fun vs xs S1 F1 H1 w1 m1 r1 q1 => q1 e F1 H1 σ vs w1 r1 Q fun z x3 S3 F3 H3 w3 m3 r3 q3 => k z x3 S3 F3 H3 w3 (m1.trans m3) r3 q3
theorem en_cb {r : List V → Hp → VK → Prop} {tr : TA} {R : Own → List Sl → Prop} (h : EA K tr S fun xs S1 => RBN K r xs S1 R) : EN K (tCB r tr) S R := fun e F H σ w Q k =>
  h e F H σ w _ fun vs xs S1 F1 H1 w1 m1 r1 q1 => q1 e F1 H1 σ vs w1 r1 Q fun a o S3 F3 H3 w3 m3 n1 n2 r3 no q3 => k a o S3 F3 H3 w3 (m1.trans m3) n1 n2 r3 no q3
theorem en_op {r : R2} {R : Own → List Sl → Prop} (h : EE K ta S fun x S1 => EE K tb S1 fun y S2 => RN K r x y S2 R) : EN K (tOp r ta tb) S R := fun e F H σ w Q k =>
  h e F H σ w _ fun v x S1 F1 H1 w1 m1 r1 q1 => q1 e F1 H1 σ w1 _ fun u y S2 F2 H2 w2 m2 r2 q2 =>
    q2 e F2 H2 σ v u w2 (r1.mono m2) r2 Q fun a o S3 F3 H3 w3 m3 n1 n2 r3 no q3 => k a o S3 F3 H3 w3 ((m1.trans m2).trans m3) n1 n2 r3 no q3
/-- slices -/
theorem eo_none {R : Option Int → List Sl → Prop} (q : R none S) : EO K tNoPart S R := fun e F H σ w Q k => k none S F H w (Same.refl _) q
theorem eo_some {R : Option Int → List Sl → Prop} (h : EE K te S fun x S1 => ∃ i, x = .dat (.int i) ∧ R (some i) S1) : EO K (tPart te) S R := fun e F H σ w Q k =>
  h e F H σ w _ fun v x S1 F1 H1 w1 m1 r1 ⟨i, e1, q⟩ => by
    subst e1
    cases r1
    exact ⟨i, rfl, k _ S1 F1 H1 w1 m1 q⟩
theorem ee_sl {r : V → Option Int → Option Int → Hp → VK → Prop} {tl th : TO} (h : EE K te S fun x S1 => EO K tl S1 fun lo S2 => EO K th S2 fun hi S3 => RS K r x lo hi S3 R) : EE K (tSl r te tl th) S R := fun e F H σ w Q k =>
  h e F H σ w _ fun v x S1 F1 H1 w1 m1 r1 q1 => q1 e F1 H1 σ w1 _ fun lo S2 F2 H2 w2 m2 q2 => q2 e F2 H2 σ w2 _ fun hi S3 F3 H3 w3 m3 q3 =>
    q3 e F3 H3 σ v w3 (r1.mono (m2.trans m3)) Q fun z x4 S4 F4 H4 w4 m4 r4 q4 => k z x4 S4 F4 H4 w4 (((m1.trans m2).trans m3).trans m4) r4 q4
/-- a new thing that nobody writes is data -/
def frz : Own → PyData
  | .lst ds => .list ds
  | .scr ns => .list (ns.map PyData.int)
  | .dct ds => .dict ds
  | .dtt ds => .dict ((.none, .none) :: ds)
def isScr : Own → Bool
  | .scr _ => true
  | _ => false
theorem own_frz {F H : Hp} {a : Addr} {o : Own} (h : OwnOk K F H a o) (hs : isScr o = false) : ∃ u, H a = some u ∧ (F a = none → Rep K (upd F a u) (.ref a) (frz o)) := by
  cases o with
  | lst ds =>
    obtain ⟨xs, h1, h2⟩ := h
    exact ⟨_, h1, fun n => .lst upd_same (h2.mono (same_new n))⟩
  | scr ns => cases hs
  | dct ds =>
    obtain ⟨xs, h1, h2⟩ := h
    exact ⟨_, h1, fun n => .dk upd_same (h2.mono (same_new n))⟩
  | dtt ds =>
    obtain ⟨xs, h1, h2⟩ := h
    exact ⟨_, h1, fun n => .dt upd_same (h2.mono (same_new n))⟩
theorem ee_new {R : Vx → List Sl → Prop} (h : EN K te S fun o S1 => isScr o = false ∧ R (.dat (frz o)) S1) : EE K te S R := fun e F H σ w Q k =>
  h e F H σ w _ fun a o S1 F1 H1 w1 m1 n1 n0 r1 no q => by
    obtain ⟨u, hu, hr⟩ := own_frz r1 q.1
    exact k _ (.dat (frz o)) S1 (upd F1 a u) H1 (w1.freeze hu n0 n1 no) (m1.trans (same_new n1)) (hr n1) q.2
/-- a new list, a new tuple of items -/
theorem Wd.n0 {e : En} {F H : Hp} {σ : L2.St} (w : Wd K e F H σ S) {a : Addr} (n : H a = none) : e.H0 a = none := by
  cases q : e.H0 a with
  | none => rfl
  | some u => exact absurd n (w.live a (by rw [q]; exact fun z => nomatch z))
theorem Wd.no {e : En} {F H : Hp} {σ : L2.St} (w : Wd K e F H σ S) {a : Addr} (n : H a = none) : ∀ (i : Nat) n b p, S[i]? = some (.own n b p) → b ≠ a := fun i n' b p h => by
  obtain ⟨u, hu⟩ := (w.slots i _ h).2.2.2.there
  exact ne_of_none hu n
def dats : List PyData → List Vx := List.map Vx.dat
theorem RepXs.reps {F : Hp} {σ : L2.St} : ∀ {vs : List V} {ds : List PyData}, RepXs K F σ vs (dats ds) → Reps K F vs ds
  | _, [], .nil => .nil
  | _, _ :: _, .cons h r => .cons h (RepXs.reps r)
theorem en_lst {tr : TA} {R : Own → List Sl → Prop} (h : EA K tr S fun xs S1 => ∃ ds, xs = dats ds ∧ ds.length ≤ sizeLine ∧ R (.lst ds) S1) : EN K (tLst tr) S R := fun e F H σ w Q k =>
  h e F H σ w _ fun vs xs S1 F1 H1 w1 m1 r1 ⟨ds, e1, hl, q⟩ => by
    subst e1
    have r := r1.reps
    refine ⟨by rw [r.length]; exact hl, fun p hp => ?_⟩
    exact k p (.lst ds) S1 F1 _ (w1.fresh hp) m1 (w1.sub.free hp) (w1.n0 hp) ⟨vs, upd_same, r⟩ (w1.no hp) q
theorem ee_tup {tr : TA} (h : EA K tr S fun xs S1 => ∃ ds, xs = dats ds ∧ ds.length ≤ sizeLine ∧ R (.dat (.tuple ds)) S1) : EE K (tTup tr) S R := fun e F H σ w Q k =>
  h e F H σ w _ fun vs xs S1 F1 H1 w1 m1 r1 ⟨ds, e1, hl, q⟩ => by
    subst e1
    have r := r1.reps
    refine ⟨by rw [r.length]; exact hl, fun p hp => ?_⟩
    have nf : F1 p = none := w1.sub.free hp
    exact k _ (.dat (.tuple ds)) S1 _ _ (w1.laid (o := .tup vs) hp) (m1.trans (same_new nf)) (.tup (.inl upd_same) (r.mono (same_new nf))) q
end
end DL

namespace DL
open PySem PySem.Spec L2

/-! ## calls by a contract over data -/
abbrev Ct := List Sl → (PyData → List Sl → Prop) → Prop
/-- the promise of a def by its contract -/
def spC (K : PySem.W.Frag) (C : Ct) : Sp := fun vs H Q _ => ∃ (F : Hp) (as : List Sl) (O : Addr → Prop), Wd K ⟨F, H, O⟩ F H (vs.map some) as ∧ (∀ a, O a → ∃ (i : Nat) (o : Own), as[i]? = some (.own false a o)) ∧
  ∃ R : PyData → List Sl → Prop, C as R ∧ ∀ d as', R d as' → ∀ v F' H', Wd K ⟨F, H, O⟩ F' H' (vs.map some) as' → Rep K F' v d → Q v H'
/-- as a callee sees it -/
def lent : Sl → Sl
  | .own _ a o => .own false a o
  | s => s
def argS (S : List Sl) : Vx → Sl
  | .dat d => .dat d
  | .ptr i => lent (S.getD i .no)
/-- as it comes back -/
def came : Sl → Sl → Sl
  | .own m _ _, .own _ a o => .own m a o
  | s, _ => s
def updA : List Vx → List Sl → List Sl → List Sl
  | .ptr i :: as, s :: ss, S => updA as ss (S.set i (came (S.getD i .no) s))
  | .dat _ :: as, _ :: ss, S => updA as ss S
  | _, _, S => S
def isPtr : Vx → Option Nat
  | .ptr i => some i
  | _ => none
section
variable {K : PySem.W.Frag} {e : En} {F F' H H' : Hp} {σ σ' : L2.St} {S S' : List Sl}
theorem RepXs.get : ∀ {vs : List V} {xs : List Vx} {i : Nat} {x : Vx}, RepXs K F σ vs xs → xs[i]? = some x → ∃ v, vs[i]? = some v ∧ RepX K F σ v x
  | _, _, _, _, .nil, h => by simp at h
  | _, _, 0, _, .cons h _, q => by
    simp at q
    subst q
    exact ⟨_, rfl, h⟩
  | _, _, i + 1, _, .cons _ r, q => by
    obtain ⟨v, h1, h2⟩ := RepXs.get (i := i) r (by simpa using q)
    exact ⟨v, by simpa using h1, h2⟩
theorem RepXs.length : ∀ {vs : List V} {xs : List Vx}, RepXs K F σ vs xs → vs.length = xs.length
  | _, _, .nil => rfl
  | _, _, .cons _ r => congrArg (· + 1) (RepXs.length r)
/-- every argument that points, points to an owned thing; none twice -/
def ptrs (xs : List Vx) (S : List Sl) : Prop := (xs.filterMap isPtr).Nodup ∧ ∀ k, Vx.ptr k ∈ xs → ∃ m a o, S[k]? = some (.own m a o)
def lentO (xs : List Vx) (S : List Sl) : Addr → Prop := fun a => ∃ (i : Nat) (o : Own), (xs.map (argS S))[i]? = some (.own false a o)
theorem getD_own {k : Nat} {s : Sl} (h : S[k]? = some s) : S.getD k .no = s := by
  rw [List.getD_eq_getElem?_getD, h]
  rfl
theorem arg_own {xs : List Vx} (hp : ptrs xs S) {i : Nat} {n : Bool} {a : Addr} {o : Own} (h : (xs.map (argS S))[i]? = some (.own n a o)) : n = false ∧ ∃ k m, xs[i]? = some (.ptr k) ∧ S[k]? = some (.own m a o) := by
  rw [List.getElem?_map] at h
  cases q : xs[i]? with
  | none => rw [q] at h; cases h
  | some x =>
    rw [q] at h
    cases x with
    | dat d => cases h
    | ptr k =>
      obtain ⟨m, b, p, hk⟩ := hp.2 k (List.mem_of_getElem? q)
      have h2 : lent (S.getD k .no) = .own n a o := Option.some.inj h
      rw [getD_own hk] at h2
      cases h2
      exact ⟨rfl, k, m, rfl, hk⟩
theorem nodup_ptr {xs : List Vx} (nd : (xs.filterMap isPtr).Nodup) {i j k : Nat} (hi : xs[i]? = some (.ptr k)) (hj : xs[j]? = some (.ptr k)) : i = j := by
  have g : ∀ (ys : List Vx) (i j : Nat), i < j → ys[i]? = some (.ptr k) → ys[j]? = some (.ptr k) → (ys.filterMap isPtr).Nodup → False := fun ys => by
    induction ys with
    | nil => intro i j _ h; simp at h
    | cons y ys ih =>
      intro i j hij h1 h2 nd
      cases j with
      | zero => omega
      | succ j =>
        have h2' : ys[j]? = some (.ptr k) := by simpa using h2
        cases i with
        | zero =>
          have h1' : y = .ptr k := by simpa using h1
          subst h1'
          have nd2 : (k :: ys.filterMap isPtr).Nodup := nd
          refine (List.nodup_cons.mp nd2).1 (List.mem_filterMap.mpr ⟨.ptr k, List.mem_of_getElem? h2', rfl⟩)
        | succ i =>
          have h1' : ys[i]? = some (.ptr k) := by simpa using h1
          have nd2 : (ys.filterMap isPtr).Nodup := by
            rw [List.filterMap_cons] at nd
            cases q : isPtr y with
            | none => rw [q] at nd; exact nd
            | some m => rw [q] at nd; exact (List.nodup_cons.mp nd).2
          exact ih i j (by omega) h1' h2' nd2
  rcases Nat.lt_trichotomy i j with h | h | h
  · exact (g xs i j h hi hj nd).elim
  · exact h
  · exact (g xs j i h hj hi nd).elim
/-- the callee's own world at its entry -/
theorem Wd.enter (w : Wd K e F H σ S) {vs : List V} {xs : List Vx} (r : RepXs K F σ vs xs) (hp : ptrs xs S) : Wd K ⟨F, H, lentO xs S⟩ F H (vs.map some) (xs.map (argS S)) := by
  exact {
    sub := w.sub
    f0 := Same.refl _
    keep := fun _ _ h _ => h
    live := fun _ h => h
    unf := fun _ _ h => h
    len := by simp [r.length]
    slots := fun i s h => by
      cases s with
      | no => trivial
      | dat d =>
        rw [List.getElem?_map] at h
        cases q : xs[i]? with
        | none => rw [q] at h; cases h
        | some x =>
          rw [q] at h
          obtain ⟨v, hv, rv⟩ := r.get q
          cases x with
          | dat d' =>
            cases h
            exact ⟨v, by rw [List.getElem?_map, hv]; rfl, rv⟩
          | ptr k =>
            obtain ⟨m, b, p, hk⟩ := hp.2 k (List.mem_of_getElem? q)
            have h2 : lent (S.getD k .no) = .dat d := Option.some.inj h
            rw [getD_own hk] at h2
            cases h2
      | own n a o =>
        obtain ⟨hn, k, m, hx, hk⟩ := arg_own hp h
        subst hn
        obtain ⟨v, hv, rv⟩ := r.get hx
        obtain ⟨h1, h2, h3, h4⟩ := w.slots k _ hk
        have e1 : v = .ref a := by
          have e2 : σ[k]? = some (some v) := rv
          rw [h1] at e2
          exact (Option.some.inj (Option.some.inj e2)).symm
        subst e1
        exact ⟨by rw [List.getElem?_map, hv]; rfl, h2, ⟨i, o, h⟩, h4⟩
    sep := fun i j m a o n b p hij h1 h2 => by
      obtain ⟨_, k, m1, hx, hk⟩ := arg_own hp h1
      obtain ⟨_, l, m2, hy, hl⟩ := arg_own hp h2
      have hkl : k ≠ l := fun z => by
        subst z
        exact hij (nodup_ptr hp.1 hx hy)
      exact w.sep k l m1 a o m2 b p hkl hk hl }
/-- what the slots are behind the call -/
theorem updA_len : ∀ (xs : List Vx) (as S : List Sl), (updA xs as S).length = S.length
  | [], _, _ => rfl
  | .ptr i :: xs, [], _ => rfl
  | .dat d :: xs, [], _ => rfl
  | .ptr i :: xs, s :: as, S => by
    show (updA xs as (S.set i _)).length = S.length
    rw [updA_len xs as, List.length_set]
  | .dat d :: xs, s :: as, S => updA_len xs as S
theorem updA_get : ∀ (xs : List Vx) (as S : List Sl) (k : Nat) (s : Sl), (xs.filterMap isPtr).Nodup → (updA xs as S)[k]? = some s → (S[k]? = some s ∧ Vx.ptr k ∉ xs.take as.length) ∨ (∃ (i : Nat) (t : Sl), xs[i]? = some (Vx.ptr k) ∧ as[i]? = some t ∧ s = came (S.getD k .no) t)
  | [], as, S, k, s, _, h => .inl ⟨h, by simp⟩
  | .ptr i :: xs, [], S, k, s, _, h => .inl ⟨h, by simp⟩
  | .dat d :: xs, [], S, k, s, _, h => .inl ⟨h, by simp⟩
  | .ptr i :: xs, t :: as, S, k, s, nd, h => by
    have nd2 : (i :: xs.filterMap isPtr).Nodup := nd
    rcases updA_get xs as (S.set i _) k s (List.nodup_cons.mp nd2).2 h with ⟨h1, h2⟩ | ⟨j, t', h1, h2, h3⟩
    · rcases get_set h1 with ⟨rfl, rfl, _⟩ | ⟨hk, h1⟩
      · exact .inr ⟨0, t, rfl, rfl, rfl⟩
      · refine .inl ⟨h1, fun z => ?_⟩
        rcases List.mem_cons.mp z with z | z
        · cases z
          exact hk rfl
        · exact h2 z
    · refine .inr ⟨j + 1, t', by simpa using h1, by simpa using h2, ?_⟩
      have hki : i ≠ k := fun z => by
        subst z
        exact (List.nodup_cons.mp nd2).1 (List.mem_filterMap.mpr ⟨.ptr i, List.mem_of_getElem? h1, rfl⟩)
      rw [h3, List.getD_eq_getElem?_getD, List.getElem?_set_ne hki, ← List.getD_eq_getElem?_getD]
  | .dat d :: xs, t :: as, S, k, s, nd, h => by
    rcases updA_get xs as S k s nd h with ⟨h1, h2⟩ | ⟨j, t', h1, h2, h3⟩
    · refine .inl ⟨h1, fun z => ?_⟩
      rcases List.mem_cons.mp z with z | z
      · cases z
      · exact h2 z
    · exact .inr ⟨j + 1, t', by simpa using h1, by simpa using h2, h3⟩
theorem Wd.leave (w : Wd K e F H σ S) {vs : List V} {xs : List Vx} {as' : List Sl} (r : RepXs K F σ vs xs) (hp : ptrs xs S) (w' : Wd K ⟨F, H, lentO xs S⟩ F' H' (vs.map some) as') (hl : as'.length = xs.length)
    (hw : ∀ (i k : Nat), xs[i]? = some (.ptr k) → ∃ n a o, as'[i]? = some (.own n a o)) : Wd K e F' H' σ (updA xs as' S) := by
  have hO : ∀ b, lentO xs S b → ∃ k m o, Vx.ptr k ∈ xs ∧ S[k]? = some (.own m b o) := fun b ⟨i, o, h⟩ => by
    obtain ⟨_, k, m, hx, hk⟩ := arg_own hp h
    exact ⟨k, m, o, List.mem_of_getElem? hx, hk⟩
  have m1 : Same F F' := w'.f0
  have adr : ∀ (i k : Nat) (n : Bool) (b : Addr) (q : Own), xs[i]? = some (.ptr k) → as'[i]? = some (.own n b q) → ∃ m o, S[k]? = some (.own m b o) := fun i k n b q h1 h2 => by
    obtain ⟨m, a, o, hk⟩ := hp.2 k (List.mem_of_getElem? h1)
    obtain ⟨v, hv, rv⟩ := r.get h1
    have z := (w'.slots i _ h2).1
    rw [List.getElem?_map, hv] at z
    have e1 : v = .ref b := Option.some.inj (Option.some.inj z)
    have e2 : σ[k]? = some (some v) := rv
    rw [(w.slots k _ hk).1, e1] at e2
    have e3 : a = b := V.ref.inj (Option.some.inj (Option.some.inj e2))
    subst e3
    exact ⟨m, o, hk⟩
  have cas : ∀ (k : Nat) (s : Sl), (updA xs as' S)[k]? = some s → (S[k]? = some s ∧ Vx.ptr k ∉ xs) ∨ ∃ (i : Nat) (n m : Bool) (a : Addr) (o o' : Own), xs[i]? = some (.ptr k) ∧ as'[i]? = some (.own n a o') ∧ S[k]? = some (.own m a o) ∧ s = .own m a o' := fun k s h => by
    rcases updA_get xs as' S k s hp.1 h with ⟨h1, h2⟩ | ⟨i, t, h1, h2, h3⟩
    · rw [hl, List.take_length] at h2
      exact .inl ⟨h1, h2⟩
    · obtain ⟨n, a, o', ht⟩ := hw i k h1
      obtain ⟨m, o, hk⟩ := adr i k n a o' h1 ht
      rw [ht] at h2
      cases h2
      rw [getD_own hk] at h3
      exact .inr ⟨i, n, m, a, o, o', h1, ht, hk, h3⟩
  exact {
    sub := w'.sub
    f0 := w.f0.trans m1
    keep := fun b o h n => w'.keep b o (w.keep b o h n) fun z => by
      obtain ⟨k, m, p, _, hk⟩ := hO b z
      rcases (w.slots k _ hk).2.2.1.or with y | y
      · exact n y
      · rw [y] at h
        cases h
    live := fun b h => w'.live b (w.live b h)
    unf := fun b h1 h2 => w'.unf b (w.live b h1) (w.unf b h1 h2)
    len := by rw [updA_len]; exact w.len
    slots := fun k s h => by
      rcases cas k s h with ⟨h1, h2⟩ | ⟨i, n, m, a, o, o', h1, h2, h3, h4⟩
      · have q := w.slots k s h1
        cases s with
        | no => trivial
        | dat d =>
          obtain ⟨v, z1, z2⟩ := q
          exact ⟨v, z1, z2.mono m1⟩
        | own m a o =>
          obtain ⟨z1, z2, z3, z4⟩ := q
          obtain ⟨u, hu⟩ := z4.there
          refine ⟨z1, w'.unf a (fun z => by rw [show H a = none from z] at hu; cases hu) z2, z3, z4.mono m1 fun u hu => w'.keep a u hu fun z => ?_⟩
          obtain ⟨l, m2, p, hl1, hl2⟩ := hO a z
          have e1 : k ≠ l := fun y => by
            subst y
            exact h2 hl1
          exact w.sep k l m a o m2 a p e1 h1 hl2 rfl
      · subst h4
        have q := w'.slots i _ h2
        obtain ⟨z1, z2, z3, z4⟩ := w.slots k _ h3
        exact ⟨z1, q.2.1, z3, q.2.2.2⟩
    sep := fun i j m a o n b p hij h1 h2 => by
      have own1 : ∀ (i : Nat) (m : Bool) (a : Addr) (o : Own), (updA xs as' S)[i]? = some (.own m a o) → ∃ m' o', S[i]? = some (.own m' a o') := fun i m a o h => by
        rcases cas i _ h with ⟨h1, _⟩ | ⟨_, n, m', a', o1, o2, _, _, h3, h4⟩
        · exact ⟨m, o, h1⟩
        · cases h4
          exact ⟨_, _, h3⟩
      obtain ⟨m1, o1, q1⟩ := own1 i m a o h1
      obtain ⟨m2, o2, q2⟩ := own1 j n b p h2
      exact w.sep i j m1 a o1 m2 b o2 hij q1 q2 }
end
theorem ptrs_dats {S : List Sl} (ds : List PyData) : ptrs (dats ds) S := by
  constructor
  · have e : (dats ds).filterMap isPtr = [] := by
      unfold dats
      rw [List.filterMap_map]
      exact List.filterMap_eq_nil_iff.mpr fun _ _ => rfl
    rw [e]
    exact List.nodup_nil
  · intro k h
    unfold dats at h
    obtain ⟨d, _, z⟩ := List.mem_map.mp h
    cases z
section
variable {K : PySem.W.Frag} {S : List Sl} {R : Vx → List Sl → Prop}
theorem ee_call {C : Ct} {E : XK} {tr : TA} (h : EA K tr S fun xs S1 => ptrs xs S1 ∧ C (xs.map (argS S1)) fun d as' => (as'.length = xs.length ∧ ∀ (i k : Nat), xs[i]? = some (.ptr k) → ∃ n a o, as'[i]? = some (.own n a o)) ∧ R (.dat d) (updA xs as' S1)) : EE K (tCall (spC K C) [] E tr) S R := fun e F H σ w Q k =>
  h e F H σ w _ fun vs xs S1 F1 H1 w1 m1 r1 ⟨hp, hc⟩ => by
    rw [List.append_nil]
    refine ⟨F1, xs.map (argS S1), _, w1.enter r1 hp, fun a h => h, _, hc, fun d as' ⟨⟨hl, hw⟩, hR⟩ v F' H' w' rv => ?_⟩
    exact k v (.dat d) _ F' H' (w1.leave r1 hp w' hl hw) (m1.trans w'.f0) rv hR
end

/-- a contract over data alone -/
abbrev Cp := List PyData → (PyData → Prop) → Prop
def pureC (C : Cp) : Ct := fun as R => ∃ ds : List PyData, as = ds.map Sl.dat ∧ ∃ R' : PyData → Prop, C ds R' ∧ ∀ d, R' d → R d as
theorem args_dats (S : List Sl) (ds : List PyData) : (dats ds).map (argS S) = ds.map Sl.dat := by
  unfold dats
  rw [List.map_map]
  rfl
theorem updA_dats : ∀ (ds : List PyData) (as S : List Sl), updA (dats ds) as S = S
  | [], _, _ => rfl
  | d :: ds, [], _ => rfl
  | d :: ds, a :: as, S => updA_dats ds as S
theorem ee_callP {K : PySem.W.Frag} {S : List Sl} {R : Vx → List Sl → Prop} {C : Cp} {E : XK} {tr : TA} (h : EA K tr S fun xs S1 => ∃ ds, xs = dats ds ∧ C ds fun d => R (.dat d) S1) : EE K (tCall (spC K (pureC C)) [] E tr) S R := by
  refine ee_call (fun e F H σ w Q k => h e F H σ w Q fun vs xs S1 F1 H1 w1 m1 r1 ⟨ds, e1, hc⟩ => k vs xs S1 F1 H1 w1 m1 r1 ?_)
  subst e1
  refine ⟨ptrs_dats ds, ds, args_dats S1 ds, _, hc, fun d hd => ⟨⟨by rw [List.length_map], fun i k z => ?_⟩, ?_⟩⟩
  · unfold dats at z
    rw [List.getElem?_map] at z
    cases q : ds[i]? with
    | none => rw [q] at z; cases z
    | some x => rw [q] at z; cases z
  · rw [updA_dats]
    exact hd
/-! ## statements -/
theorem Wd.give {K : PySem.W.Frag} {e : En} {F H : Hp} {σ : L2.St} {S : List Sl} (w : Wd K e F H σ S) {i : Nat} {a : Addr} {o : Own} (h : S[i]? = some (.own true a o)) (hs : isScr o = false) : ∃ F', Wd K e F' H σ (S.set i (.dat (frz o))) ∧ Same F F' := by
  obtain ⟨h1, h2, h3, h4⟩ := w.slots i _ h
  obtain ⟨u, hu, hr⟩ := own_frz h4 hs
  have hi : i < S.length := (List.getElem?_eq_some_iff.mp h).1
  refine ⟨upd F a u, ?_, same_new h2⟩
  exact {
    sub := fun b x q => by
      by_cases hb : b = a
      · subst hb
        rw [upd_same] at q
        cases q
        exact hu
      · rw [upd_ne hb] at q
        exact w.sub b x q
    f0 := w.f0.trans (same_new h2)
    keep := w.keep
    live := w.live
    unf := fun b q1 q2 => by
      have hb : b ≠ a := fun z => by
        subst z
        exact q1 h3
      rw [upd_ne hb]
      exact w.unf b q1 q2
    len := by simp [w.len]
    slots := fun j s q => by
      rcases get_set q with ⟨rfl, rfl, _⟩ | ⟨hj, q⟩
      · exact ⟨_, h1, hr h2⟩
      · have z := w.slots j s q
        cases s with
        | no => trivial
        | dat d =>
          obtain ⟨v, z1, z2⟩ := z
          exact ⟨v, z1, z2.mono (same_new h2)⟩
        | own n b x =>
          refine ⟨z.1, ?_, z.2.2.1, z.2.2.2.mono (same_new h2) fun y hy => hy⟩
          rw [upd_ne (w.sep j i n b x true a o hj q h)]
          exact z.2.1
    sep := fun j k n b x l c y hjk q1 q2 => by
      rcases get_set q1 with ⟨_, z, _⟩ | ⟨_, q1⟩
      · cases z
      rcases get_set q2 with ⟨_, z, _⟩ | ⟨_, q2⟩
      · cases z
      exact w.sep j k n b x l c y hjk q1 q2 }
structure Po where
  nx : List Sl → Prop
  rt : PyData → List Sl → Prop
  bk : List Sl → Prop := fun _ => False
  ct : List Sl → Prop := fun _ => False
def SS (K : PySem.W.Frag) (t : TS) (S : List Sl) (P : Po) : Prop := ∀ (e : En) (F H : Hp) (σ : L2.St) (D : Ends), Wd K e F H σ S →
  (∀ S' F' H' σ', Wd K e F' H' σ' S' → Same F F' → P.nx S' → D.nx σ' H') →
  (∀ v d S' F' H' σ', Wd K e F' H' σ' S' → Same F F' → Rep K F' v d → P.rt d S' → D.rt v H') →
  (∀ S' F' H' σ', Wd K e F' H' σ' S' → Same F F' → P.bk S' → D.bk σ' H') →
  (∀ S' F' H' σ', Wd K e F' H' σ' S' → Same F F' → P.ct S' → D.ct σ' H') → t D σ H
def GG (K : PySem.W.Frag) (g : TG) (d : PyData) (S : List Sl) (R : List Sl → Prop) : Prop := ∀ (e : En) (F H : Hp) (σ : L2.St) (v : V), Wd K e F H σ S → Rep K F v d → ∀ Q : L2.St → Hp → Prop, (∀ S' F' H' σ', Wd K e F' H' σ' S' → Same F F' → R S' → Q σ' H') → g v σ H Q
def GGs (K : PySem.W.Frag) (g : TGs) (ds : List PyData) (S : List Sl) (R : List Sl → Prop) : Prop := ∀ (e : En) (F H : Hp) (σ : L2.St) (vs : List V), Wd K e F H σ S → Reps K F vs ds → ∀ Q : L2.St → Hp → Prop, (∀ S' F' H' σ', Wd K e F' H' σ' S' → Same F F' → R S' → Q σ' H') → g vs σ H Q
section
variable {K : PySem.W.Frag} {S : List Sl} {P : Po} {te : TE} {t u : TS} {tc : TT}
theorem gg_name {i : Nat} {d : PyData} {R : List Sl → Prop} (hi : i < S.length) (q : R (S.set i (.dat d))) : GG K (gName i) d S R := fun e F H σ v w r Q k => k _ F H _ (w.put hi r) (Same.refl _) q
theorem gg_nil {R : List Sl → Prop} (q : R S) : GGs K gNil [] S R := fun e F H σ vs w r Q k => by
  cases r
  exact ⟨rfl, k S F H σ w (Same.refl _) q⟩
theorem gg_cons {g : TG} {gs : TGs} {d : PyData} {ds : List PyData} {R : List Sl → Prop} (h : GG K g d S fun S1 => GGs K gs ds S1 R) : GGs K (gCons g gs) (d :: ds) S R := fun e F H σ vs w r Q k => by
  cases r with
  | cons h1 r1 => exact ⟨_, _, rfl, h e F H σ _ w h1 _ fun S1 F1 H1 σ1 w1 m1 q1 => q1 e F1 H1 σ1 _ w1 (r1.mono m1) _ fun S2 F2 H2 σ2 w2 m2 q2 => k S2 F2 H2 σ2 w2 (m1.trans m2) q2⟩
theorem gg_tup {gs : TGs} {n : Nat} {ds : List PyData} {R : List Sl → Prop} (hn : ds.length = n) (h : GGs K gs ds S R) : GG K (gTup K n gs) (.tuple ds) S R := fun e F H σ v w r Q k => by
  cases r with
  | tup h1 r1 => exact ⟨_, _, rfl, Same.tupU w.sub h1, by rw [r1.length]; exact hn, h e F H σ _ w r1 Q k⟩
theorem ss_seq (h : SS K t S { P with nx := fun S1 => SS K u S1 P }) : SS K (tSeq t u) S P := fun e F H σ D w n r b c =>
  h e F H σ { D with nx := u D } w (fun S1 F1 H1 σ1 w1 m1 q1 => q1 e F1 H1 σ1 D w1 (fun S2 F2 H2 σ2 w2 m2 q => n S2 F2 H2 σ2 w2 (m1.trans m2) q) (fun v d S2 F2 H2 σ2 w2 m2 x q => r v d S2 F2 H2 σ2 w2 (m1.trans m2) x q)
    (fun S2 F2 H2 σ2 w2 m2 q => b S2 F2 H2 σ2 w2 (m1.trans m2) q) (fun S2 F2 H2 σ2 w2 m2 q => c S2 F2 H2 σ2 w2 (m1.trans m2) q)) r b c
theorem ss_next (q : P.nx S) : SS K tNext S P := fun e F H σ D w n r b c => n S F H σ w (Same.refl _) q
theorem ss_break (q : P.bk S) : SS K tBreak S P := fun e F H σ D w n r b c => b S F H σ w (Same.refl _) q
theorem ss_cont (q : P.ct S) : SS K tCont S P := fun e F H σ D w n r b c => c S F H σ w (Same.refl _) q
theorem ss_asg {g : TG} (h : EE K te S fun x S1 => ∃ d, x = .dat d ∧ GG K g d S1 P.nx) : SS K (tAsg te g) S P := fun e F H σ D w n r b c =>
  h e F H σ w _ fun v x S1 F1 H1 w1 m1 r1 ⟨d, e1, q⟩ => by
    subst e1
    exact q e F1 H1 σ v w1 r1 _ fun S2 F2 H2 σ2 w2 m2 q2 => n S2 F2 H2 σ2 w2 (m1.trans m2) q2
theorem ss_set {i : Nat} (h : EE K te S fun x S1 => ∃ d, x = .dat d ∧ i < S1.length ∧ P.nx (S1.set i (.dat d))) : SS K (tAsg te (gName i)) S P := ss_asg (ee_imp h fun x S1 ⟨d, e, hi, q⟩ => ⟨d, e, gg_name hi q⟩)
theorem ss_own {i : Nat} (h : EN K te S fun o S1 => i < S1.length ∧ ∀ a, P.nx (S1.set i (.own true a o))) : SS K (tAsg te (gName i)) S P := fun e F H σ D w n r b c =>
  h e F H σ w _ fun a o S1 F1 H1 w1 m1 n1 n0 r1 no ⟨hi, q⟩ => n _ F1 H1 _ (w1.putOwn (m := true) hi n0 n1 r1 no) m1 (q a)
theorem ss_drop (h : EE K te S fun _ S1 => P.nx S1) : SS K (tDrop te) S P := fun e F H σ D w n r b c => h e F H σ w _ fun v x S1 F1 H1 w1 m1 r1 q => n S1 F1 H1 σ w1 m1 q
theorem ss_ret (h : EE K te S fun x S1 => ∃ d, x = .dat d ∧ P.rt d S1) : SS K (tRet te) S P := fun e F H σ D w n r b c => h e F H σ w _ fun v x S1 F1 H1 w1 m1 r1 ⟨d, e1, q⟩ => by
  subst e1
  exact r v d S1 F1 H1 σ w1 m1 r1 q
theorem ss_retN (q : P.rt .none S) : SS K tRetN S P := fun e F H σ D w n r b c => r .non .none S F H σ w (Same.refl _) .non q
theorem ss_if (h : ET K tc S fun b S1 => if b = true then SS K t S1 P else SS K u S1 P) : SS K (tIfS tc t u) S P := fun e F H σ D w n r b c =>
  h e F H σ w _ fun k S1 F1 H1 w1 m1 q => by
    cases k with
    | true => exact iteT ((show SS K t S1 P from q) e F1 H1 σ D w1 (fun S2 F2 H2 σ2 w2 m2 q => n S2 F2 H2 σ2 w2 (m1.trans m2) q) (fun v d S2 F2 H2 σ2 w2 m2 x q => r v d S2 F2 H2 σ2 w2 (m1.trans m2) x q) (fun S2 F2 H2 σ2 w2 m2 q => b S2 F2 H2 σ2 w2 (m1.trans m2) q) (fun S2 F2 H2 σ2 w2 m2 q => c S2 F2 H2 σ2 w2 (m1.trans m2) q))
    | false => exact iteF ((show SS K u S1 P from q) e F1 H1 σ D w1 (fun S2 F2 H2 σ2 w2 m2 q => n S2 F2 H2 σ2 w2 (m1.trans m2) q) (fun v d S2 F2 H2 σ2 w2 m2 x q => r v d S2 F2 H2 σ2 w2 (m1.trans m2) x q) (fun S2 F2 H2 σ2 w2 m2 q => b S2 F2 H2 σ2 w2 (m1.trans m2) q) (fun S2 F2 H2 σ2 w2 m2 q => c S2 F2 H2 σ2 w2 (m1.trans m2) q))
theorem ss_imp {P' : Po} (h : SS K t S P') (hn : ∀ S, P'.nx S → P.nx S) (hr : ∀ d S, P'.rt d S → P.rt d S) (hb : ∀ S, P'.bk S → P.bk S) (hc : ∀ S, P'.ct S → P.ct S) : SS K t S P := fun e F H σ D w n r b c =>
  h e F H σ D w (fun S2 F2 H2 σ2 w2 m2 q => n S2 F2 H2 σ2 w2 m2 (hn _ q)) (fun v d S2 F2 H2 σ2 w2 m2 x q => r v d S2 F2 H2 σ2 w2 m2 x (hr _ _ q)) (fun S2 F2 H2 σ2 w2 m2 q => b S2 F2 H2 σ2 w2 m2 (hb _ q)) (fun S2 F2 H2 σ2 w2 m2 q => c S2 F2 H2 σ2 w2 m2 (hc _ q))
/-- a, b = x, y -/
theorem ss_par {i j : Nat} {tr : TA} (h : EA K tr S fun xs S1 => ∃ d d', xs = [.dat d, .dat d'] ∧ i < S1.length ∧ j < S1.length ∧ P.nx ((S1.set i (.dat d)).set j (.dat d'))) : SS K (tPar i j tr) S P := fun e F H σ D w n r b c =>
  h e F H σ w _ fun vs xs S1 F1 H1 w1 m1 r1 ⟨d, d', e1, hi, hj, q⟩ => by
    subst e1
    cases r1 with
    | cons r1 r2 =>
      cases r2 with
      | cons r2 r3 =>
        cases r3
        exact ⟨_, _, rfl, n _ F1 H1 _ ((w1.put hi r1).put (by rw [List.length_set]; exact hj) r2) m1 q⟩
theorem ss_par3 {i j l : Nat} {tr : TA} (h : EA K tr S fun xs S1 => ∃ d d' d'', xs = [.dat d, .dat d', .dat d''] ∧ i < S1.length ∧ j < S1.length ∧ l < S1.length ∧ P.nx (((S1.set i (.dat d)).set j (.dat d')).set l (.dat d''))) : SS K (tPar3 i j l tr) S P := fun e F H σ D w n r b c =>
  h e F H σ w _ fun vs xs S1 F1 H1 w1 m1 r1 ⟨d, d', d'', e1, hi, hj, hl, q⟩ => by
    subst e1
    cases r1 with
    | cons r1 r2 =>
      cases r2 with
      | cons r2 r3 =>
        cases r3 with
        | cons r3 r4 =>
          cases r4
          exact ⟨_, _, _, rfl, n _ F1 H1 _ (((w1.put hi r1).put (by rw [List.length_set]; exact hj) r2).put (by rw [List.length_set, List.length_set]; exact hl) r3) m1 q⟩
/-- an owned thing of a slot is given up: it is data from now on -/
theorem ss_freeze {i : Nat} {a : Addr} {o : Own} (h : S[i]? = some (.own true a o)) (hs : isScr o = false) (q : SS K t (S.set i (.dat (frz o))) P) : SS K t S P := fun e F H σ D w n r b c => by
  obtain ⟨F', w', m⟩ := w.give h hs
  exact q e F' H σ D w' (fun S2 F2 H2 σ2 w2 m2 q => n S2 F2 H2 σ2 w2 (m.trans m2) q) (fun v d S2 F2 H2 σ2 w2 m2 x q => r v d S2 F2 H2 σ2 w2 (m.trans m2) x q) (fun S2 F2 H2 σ2 w2 m2 q => b S2 F2 H2 σ2 w2 (m.trans m2) q) (fun S2 F2 H2 σ2 w2 m2 q => c S2 F2 H2 σ2 w2 (m.trans m2) q)
theorem ee_freeze {i : Nat} {a : Addr} {o : Own} {R : Vx → List Sl → Prop} (h : S[i]? = some (.own true a o)) (hs : isScr o = false) (q : EE K te (S.set i (.dat (frz o))) R) : EE K te S R := fun e F H σ w Q k => by
  obtain ⟨F', w', m⟩ := w.give h hs
  exact q e F' H σ w' Q fun v x S2 F2 H2 w2 m2 r q => k v x S2 F2 H2 w2 (m.trans m2) r q
end

/-! ## loops -/
/-- what an iterator gives: the data ds, one after another, while what is frozen stands -/
def ItOk (K : PySem.W.Frag) (F1 : Hp) (J : It) (ds : List PyData) : Prop :=
  (∀ i F H, Same F1 F → Same F H → i < ds.length → J.go i H) ∧ (∀ F H, Same F1 F → Same F H → J.stop ds.length H) ∧
  (∀ i F H x H', Same F1 F → Same F H → i < ds.length → J.yld i H x H' → ∃ d, ds[i]? = some d ∧ ((H' = H ∧ Rep K F x d) ∨ ∃ T o, H T = none ∧ H' = upd H T o ∧ Rep K (upd F T o) x d))
def EI (K : PySem.W.Frag) (wi : TI) (S : List Sl) (R : List PyData → List Sl → Prop) : Prop := ∀ (e : En) (F H : Hp) (σ : L2.St), Wd K e F H σ S → ∀ Q : It → Hp → Prop, (∀ J ds S' F' H', Wd K e F' H' σ S' → Same F F' → ItOk K F' J ds → R ds S' → Q J H') → wi σ H Q
section
variable {K : PySem.W.Frag} {S : List Sl} {P : Po}
theorem ss_for {wi : TI} {g : TG} {tb : TS} (h : EI K wi S fun ds S1 => ∃ I : Nat → List Sl → Prop, I 0 S1 ∧
    (∀ i d S2, ds[i]? = some d → I i S2 → GG K g d S2 fun S3 => SS K tb S3 ⟨I (i + 1), P.rt, P.nx, I (i + 1)⟩) ∧ (∀ S2, I ds.length S2 → P.nx S2)) : SS K (tFor wi g tb) S P := fun e F H σ D w n r b c =>
  h e F H σ w _ fun J ds S1 F1 H1 w1 m1 ⟨go, stop, yld⟩ ⟨I, i0, step, fin⟩ => by
    refine ⟨fun i m σ' H' => m = ds.length - i ∧ i ≤ ds.length ∧ ∃ F' S', Wd K e F' H' σ' S' ∧ Same F1 F' ∧ I i S', ⟨ds.length, by omega, by omega, F1, S1, w1, Same.refl _, i0⟩, ?_⟩
    rintro i m σ2 H2 ⟨rfl, hi, F2, S2, w2, m2, hI⟩
    by_cases hlt : i < ds.length
    · refine .inr ⟨go i F2 H2 m2 w2.sub hlt, fun σ' H' => ∃ F' S', Wd K e F' H' σ' S' ∧ Same F1 F' ∧ I (i + 1) S', fun σ' H' ⟨F', S', q1, q2, q3⟩ => ⟨ds.length - (i + 1), by omega, rfl, hlt, F', S', q1, q2, q3⟩, fun x H3 hy => ?_⟩
      obtain ⟨d, hd, hx⟩ := yld i F2 H2 x H3 m2 w2.sub hlt hy
      have fin2 : ∀ F3, Wd K e F3 H3 σ2 S2 → Same F2 F3 → Rep K F3 x d → g x σ2 H3 fun σ2 H2 => tb { D with nx := fun σ' H' => ∃ F' S', Wd K e F' H' σ' S' ∧ Same F1 F' ∧ I (i + 1) S', ct := fun σ' H' => ∃ F' S', Wd K e F' H' σ' S' ∧ Same F1 F' ∧ I (i + 1) S', bk := D.nx } σ2 H2 := fun F3 w3 m3 r3 =>
        step i d S2 hd hI e F3 H3 σ2 x w3 r3 _ fun S4 F4 H4 σ4 w4 m4 q4 => q4 e F4 H4 σ4 _ w4
          (fun S5 F5 H5 σ5 w5 m5 q => ⟨F5, S5, w5, ((m2.trans m3).trans m4).trans m5, q⟩)
          (fun v d S5 F5 H5 σ5 w5 m5 x q => r v d S5 F5 H5 σ5 w5 (m1.trans (((m2.trans m3).trans m4).trans m5)) x q)
          (fun S5 F5 H5 σ5 w5 m5 q => n S5 F5 H5 σ5 w5 (m1.trans (((m2.trans m3).trans m4).trans m5)) q)
          (fun S5 F5 H5 σ5 w5 m5 q => ⟨F5, S5, w5, ((m2.trans m3).trans m4).trans m5, q⟩)
      rcases hx with ⟨rfl, hr⟩ | ⟨T, o, hT, rfl, hr⟩
      · exact fin2 F2 w2 (Same.refl _) hr
      · exact fin2 _ (w2.laid hT) (same_new (w2.sub.free hT)) hr
    · have e1 : i = ds.length := by omega
      subst e1
      exact .inl ⟨stop F2 H2 m2 w2.sub, n S2 F2 H2 σ2 w2 (m1.trans m2) (fin S2 hI)⟩
theorem ss_while {tc : TT} {tb : TS} (I : Nat → List Sl → Prop) (h0 : ∃ m, I m S) (h : ∀ m S1, I m S1 → ET K tc S1 fun b S2 => if b = true then SS K tb S2 ⟨fun S3 => ∃ m', m' < m ∧ I m' S3, P.rt, P.nx, fun S3 => ∃ m', m' < m ∧ I m' S3⟩ else P.nx S2) : SS K (tWhile tc tb) S P := fun e F H σ D w n r b c => by
  obtain ⟨m0, i0⟩ := h0
  refine ⟨fun m σ' H' => ∃ F' S', Wd K e F' H' σ' S' ∧ Same F F' ∧ I m S', ⟨m0, F, S, w, Same.refl _, i0⟩, ?_⟩
  rintro m σ1 H1 ⟨F1, S1, w1, m1, hI⟩
  refine h m S1 hI e F1 H1 σ1 w1 _ fun k S2 F2 H2 w2 m2 q => ?_
  cases k with
  | true =>
    refine iteT ⟨fun σ' H' => ∃ F' S', Wd K e F' H' σ' S' ∧ Same F F' ∧ ∃ m', m' < m ∧ I m' S', fun σ' H' ⟨F', S', q1, q2, m', q3, q4⟩ => ⟨m', q3, F', S', q1, q2, q4⟩, ?_⟩
    exact (show SS K tb S2 _ from q) e F2 H2 σ1 _ w2 (fun S5 F5 H5 σ5 w5 m5 q => ⟨F5, S5, w5, (m1.trans m2).trans m5, q⟩) (fun v d S5 F5 H5 σ5 w5 m5 x q => r v d S5 F5 H5 σ5 w5 ((m1.trans m2).trans m5) x q)
      (fun S5 F5 H5 σ5 w5 m5 q => n S5 F5 H5 σ5 w5 ((m1.trans m2).trans m5) q) (fun S5 F5 H5 σ5 w5 m5 q => ⟨F5, S5, w5, (m1.trans m2).trans m5, q⟩)
  | false => exact iteF (n S2 F2 H2 σ1 w2 (m1.trans m2) q)
end
end DL

namespace DL
open PySem PySem.Spec PyProof.Rows L2

/-! ## a def by its contract -/
inductive FinOk : List Sl → List Sl → List Sl → Prop
  | nil {S : List Sl} : FinOk [] S []
  | dat {as S as' : List Sl} {d : PyData} {s : Sl} : FinOk as S as' → FinOk (.dat d :: as) (s :: S) (.dat d :: as')
  | own {as S as' : List Sl} {m : Bool} {a : Addr} {o p : Own} : FinOk as S as' → FinOk (.own m a o :: as) (.own m a p :: S) (.own m a p :: as')
theorem FinOk.get : ∀ {as S as' : List Sl}, FinOk as S as' → as'.length = as.length ∧ ∀ (i : Nat) (s : Sl), as'[i]? = some s → (∃ d, s = .dat d ∧ as[i]? = some (.dat d)) ∨ ∃ m a o p, s = .own m a p ∧ as[i]? = some (.own m a o) ∧ S[i]? = some (.own m a p)
  | _, _, _, .nil => ⟨rfl, fun i s h => by simp at h⟩
  | _, _, _, .dat h => by
    obtain ⟨l, g⟩ := FinOk.get h
    refine ⟨congrArg (· + 1) l, fun i s q => ?_⟩
    cases i with
    | zero =>
      have e : Sl.dat _ = s := Option.some.inj q
      subst e
      exact .inl ⟨_, rfl, rfl⟩
    | succ i => exact g i s q
  | _, _, _, .own h => by
    obtain ⟨l, g⟩ := FinOk.get h
    refine ⟨congrArg (· + 1) l, fun i s q => ?_⟩
    cases i with
    | zero =>
      have e : Sl.own _ _ _ = s := Option.some.inj q
      subst e
      exact .inr ⟨_, _, _, _, rfl, rfl, rfl⟩
    | succ i => exact g i s q
def fill (n : Nat) (as : List Sl) : List Sl := as ++ List.replicate (n - as.length) .no
section
variable {K : PySem.W.Frag}
theorem get_none_rep {n i : Nat} {α : Type} {x y : α} (h : (List.replicate n x)[i]? = some y) : y = x := List.eq_of_mem_replicate (List.mem_of_getElem? h)
theorem Wd.start {e : En} {F H : Hp} {vs : List V} {as : List Sl} (w : Wd K e F H (vs.map some) as) (N : List Str) : Wd K e F H (L2.start N vs) (fill N.length as) := by
  have hl : vs.length = as.length := by simpa using w.len
  have split : ∀ (i : Nat) (s : Sl), (fill N.length as)[i]? = some s → as[i]? = some s ∨ s = .no := fun i s h => by
    unfold fill at h
    rw [List.getElem?_append] at h
    split at h
    · exact .inl h
    · exact .inr (get_none_rep h)
  exact {
    sub := w.sub, f0 := w.f0, keep := w.keep, live := w.live, unf := w.unf
    len := by
      unfold L2.start fill
      simp [hl]
    slots := fun i s h => by
      rcases split i s h with h | h
      · have q := w.slots i s h
        have hi : i < (vs.map some).length := by
          rw [List.length_map, hl]
          exact (List.getElem?_eq_some_iff.mp h).1
        have e1 : (L2.start N vs)[i]? = (vs.map some)[i]? := by
          unfold L2.start
          rw [List.getElem?_append_left hi]
        rw [e1]
        exact q
      · subst h
        trivial
    sep := fun i j m a o n b p hij h1 h2 => by
      rcases split i _ h1 with h1 | h1
      · rcases split j _ h2 with h2 | h2
        · exact w.sep i j m a o n b p hij h1 h2
        · cases h2
      · cases h1 }
theorem Wd.finish {e : En} {F H F' H' : Hp} {vs : List V} {σ' : L2.St} {as as' S' : List Sl} (w : Wd K e F H (vs.map some) as) (w' : Wd K e F' H' σ' S') (m : Same F F') (f : FinOk as S' as') : Wd K e F' H' (vs.map some) as' := by
  obtain ⟨l, g⟩ := f.get
  exact {
    sub := w'.sub, f0 := w'.f0, keep := w'.keep, live := w'.live, unf := w'.unf
    len := by rw [l]; exact w.len
    slots := fun i s h => by
      rcases g i s h with ⟨d, rfl, q⟩ | ⟨n, a, o, p, rfl, q1, q2⟩
      · obtain ⟨v, h1, h2⟩ := w.slots i _ q
        exact ⟨v, h1, h2.mono m⟩
      · obtain ⟨_, z2, z3, z4⟩ := w'.slots i _ q2
        exact ⟨(w.slots i _ q1).1, z2, z3, z4⟩
    sep := fun i j m a o n b p hij h1 h2 => by
      rcases g i _ h1 with ⟨d, z, q⟩ | ⟨_, _, _, _, z, q1, q2⟩
      · cases z
      · cases z
        rcases g j _ h2 with ⟨d, z, q⟩ | ⟨_, _, _, _, z, q3, q4⟩
        · cases z
        · cases z
          exact w.sep i j _ _ _ _ _ _ hij q1 q3 }
theorem Wd.finishD {e : En} {F H F' H' : Hp} {vs : List V} {σ' : L2.St} {S' : List Sl} {ds : List PyData} (w : Wd K e F H (vs.map some) (ds.map Sl.dat)) (w' : Wd K e F' H' σ' S') (m : Same F F') : Wd K e F' H' (vs.map some) (ds.map Sl.dat) := by
  exact {
    sub := w'.sub, f0 := w'.f0, keep := w'.keep, live := w'.live, unf := w'.unf
    len := w.len
    slots := fun i s h => by
      have q := w.slots i s h
      cases s with
      | no => trivial
      | dat d =>
        obtain ⟨v, h1, h2⟩ := q
        exact ⟨v, h1, h2.mono m⟩
      | own n a o =>
        rw [List.getElem?_map] at h
        cases z : ds[i]? with
        | none => rw [z] at h; cases h
        | some d => rw [z] at h; cases h
    sep := fun i j m a o n b p hij h1 h2 => by
      rw [List.getElem?_map] at h1
      cases z : ds[i]? with
      | none => rw [z] at h1; cases h1
      | some d => rw [z] at h1; cases h1 }
variable {P : Program} {w : World} {mg : Str → Option Value} {base : Heap}
theorem fn_by {x qual : Str} {params : Arguments} {body : List Stmt} {scope : Scope} {f : Addr} {fd : FuncData} {N ps : List Str} {k : Nat} {C : Ct} (F : FunD K x qual params body scope [] [] f fd) (S : FnScope N ps scope) (hl : ∀ as R, C as R → as.length = ps.length)
    (hb : ∀ (cdv : Value) (A : Around) (outer : List Env) (s : Shared) (H : Hp) (E : XK), Room k (A.deeper (envOfC qual scope s.heap.objs.size f cdv)) →
      ∃ t, PSs (cxOf CX0 P w K mg base N qual scope f cdv A outer s H E).nox body t ∧ ∀ as R, C as R → SS K t (fill N.length as) ⟨fun S' => ∃ as', FinOk as S' as' ∧ R .none as', fun d S' => ∃ as', FinOk as S' as' ∧ R d as', fun _ => False, fun _ => False⟩) :
    FnOk P w K mg base CX0 (k + 1) f fd ps (spC K C) := by
  refine F.ok S (fun vs H Q E ⟨F1, as, O, w0, _, R, hc, _⟩ => ?_) (fun cdv A outer s H vs Q E hr ⟨F1, as, O, w0, hO, R, hc, hq⟩ => ?_)
  · have := w0.len
    rw [List.length_map] at this
    rw [this]
    exact hl as R hc
  · obtain ⟨t, h, q⟩ := hb cdv A outer s H E hr
    refine ⟨t, h.nox, ?_⟩
    refine q as R hc ⟨F1, H, O⟩ F1 H (L2.start N vs) _ (w0.start N) ?_ ?_ ?_ ?_
    · intro S' F' H' σ' w' m ⟨as', fo, r⟩
      exact hq _ as' r _ F' H' (w0.finish w' m fo) .non
    · intro v d S' F' H' σ' w' m rv ⟨as', fo, r⟩
      exact hq _ as' r _ F' H' (w0.finish w' m fo) rv
    · intro S' F' H' σ' w' m z
      exact z.elim
    · intro S' F' H' σ' w' m z
      exact z.elim
theorem fn_pure {x qual : Str} {params : Arguments} {body : List Stmt} {scope : Scope} {f : Addr} {fd : FuncData} {N ps : List Str} {k : Nat} {C : Cp} (F : FunD K x qual params body scope [] [] f fd) (S : FnScope N ps scope) (hl : ∀ ds R, C ds R → ds.length = ps.length)
    (hb : ∀ (cdv : Value) (A : Around) (outer : List Env) (s : Shared) (H : Hp) (E : XK), Room k (A.deeper (envOfC qual scope s.heap.objs.size f cdv)) →
      ∃ t, PSs (cxOf CX0 P w K mg base N qual scope f cdv A outer s H E).nox body t ∧ ∀ ds R, C ds R → SS K t (fill N.length (ds.map Sl.dat)) ⟨fun _ => R .none, fun d _ => R d, fun _ => False, fun _ => False⟩) :
    FnOk P w K mg base CX0 (k + 1) f fd ps (spC K (pureC C)) := by
  refine F.ok S (fun vs H Q E ⟨F1, as, O, w0, _, R, ⟨ds, e1, R', hc, _⟩, _⟩ => ?_) (fun cdv A outer s H vs Q E hr ⟨F1, as, O, w0, hO, R, ⟨ds, e1, R', hc, hR⟩, hq⟩ => ?_)
  · have := w0.len
    rw [List.length_map, e1, List.length_map] at this
    rw [this]
    exact hl ds R' hc
  · subst e1
    obtain ⟨t, h, q⟩ := hb cdv A outer s H E hr
    refine ⟨t, h.nox, ?_⟩
    refine q ds R' hc ⟨F1, H, O⟩ F1 H (L2.start N vs) _ (w0.start N) ?_ ?_ ?_ ?_
    · intro S' F' H' σ' w' m r
      exact hq _ _ (hR _ r) _ F' H' (w0.finishD w' m) .non
    · intro v d S' F' H' σ' w' m rv r
      exact hq _ _ (hR _ r) _ F' H' (w0.finishD w' m) rv
    · intro S' F' H' σ' w' m z
      exact z.elim
    · intro S' F' H' σ' w' m z
      exact z.elim
end

/-! ## comprehensions -/
def wipeS (S : List Sl) : List Nat → List Sl
  | [] => S
  | v :: vs => (wipeS S vs).set v .no
section
variable {K : PySem.W.Frag} {e : En} {F H : Hp} {σ σ' : L2.St} {S : List Sl}
theorem wipeS_len (S : List Sl) : ∀ vs, (wipeS S vs).length = S.length
  | [] => rfl
  | v :: vs => by
    unfold wipeS
    rw [List.length_set, wipeS_len S vs]
theorem wipeS_get : ∀ {vs : List Nat} {i : Nat} {s : Sl}, (wipeS S vs)[i]? = some s → s = .no ∨ (i ∉ vs ∧ S[i]? = some s)
  | [], i, s, h => .inr ⟨by simp, h⟩
  | v :: vs, i, s, h => by
    unfold wipeS at h
    rcases get_set h with ⟨_, h, _⟩ | ⟨hi, h⟩
    · exact .inl h
    · rcases wipeS_get h with h | ⟨h1, h2⟩
      · exact .inl h
      · exact .inr ⟨by simp [hi, h1], h2⟩
theorem wipeS_in {i : Nat} : ∀ {vs : List Nat}, i ∈ vs → i < S.length → (wipeS S vs)[i]? = some .no
  | v :: vs, h, hl => by
    unfold wipeS
    by_cases e : i = v
    · subst e
      rw [List.getElem?_set_self (by rw [wipeS_len]; exact hl)]
    · rw [List.getElem?_set_ne (Ne.symm e)]
      exact wipeS_in (by simpa [e] using h) hl
theorem wipeS_out {i : Nat} : ∀ {vs : List Nat}, i ∉ vs → (wipeS S vs)[i]? = S[i]?
  | [], h => rfl
  | v :: vs, h => by
    unfold wipeS
    have h1 : i ≠ v := fun z => h (by simp [z])
    have h2 : i ∉ vs := fun z => h (by simp [z])
    rw [List.getElem?_set_ne (Ne.symm h1)]
    exact wipeS_out h2
theorem wipeS_wipeS (S : List Sl) (vs : List Nat) : wipeS (wipeS S vs) vs = wipeS S vs := by
  apply List.ext_getElem?
  intro j
  by_cases hj : j ∈ vs
  · by_cases hl : j < S.length
    · rw [wipeS_in hj hl, wipeS_in hj (by rw [wipeS_len]; exact hl)]
    · rw [List.getElem?_eq_none (by rw [wipeS_len, wipeS_len]; omega), List.getElem?_eq_none (by rw [wipeS_len]; omega)]
  · rw [wipeS_out hj]
theorem Wd.slots_of (w : Wd K e F H σ S) (hl : σ'.length = σ.length) {S' : List Sl} (hS : S'.length = S.length) (h : ∀ (i : Nat) (s : Sl), S'[i]? = some s → s = .no ∨ (S[i]? = some s ∧ σ'[i]? = σ[i]?)) : Wd K e F H σ' S' := by
  exact {
    sub := w.sub, f0 := w.f0, keep := w.keep, live := w.live, unf := w.unf
    len := by rw [hl, hS]; exact w.len
    slots := fun i s q => by
      rcases h i s q with z | ⟨z1, z2⟩
      · subst z
        trivial
      · rw [z2]
        exact w.slots i s z1
    sep := fun i j m a o n b p hij h1 h2 => by
      rcases h i _ h1 with z | ⟨z1, _⟩
      · cases z
      rcases h j _ h2 with z | ⟨z2, _⟩
      · cases z
      exact w.sep i j m a o n b p hij z1 z2 }
theorem Wd.wipe (w : Wd K e F H σ S) (vs : List Nat) : Wd K e F H (wipe σ vs) (wipeS S vs) :=
  w.slots_of (wipe_length σ vs) (wipeS_len S vs) fun i s h => by
    rcases wipeS_get h with z | ⟨z1, z2⟩
    · exact .inl z
    · exact .inr ⟨z2, wipe_out z1⟩
theorem Wd.unwipe {vs : List Nat} (w : Wd K e F H (L2.wipe σ vs) S) (hS : wipeS S vs = S) : Wd K e F H σ S :=
  w.slots_of (wipe_length σ vs).symm rfl fun i s h => by
    rw [← hS] at h
    rcases wipeS_get h with z | ⟨z1, z2⟩
    · exact .inl z
    · exact .inr ⟨z2, (wipe_out z1).symm⟩
/-- a tracked list of one's own, seen as the entry's -/
def En.with (e : En) (D : Addr) (o : HO) : En := ⟨e.F0, upd e.H0 D o, fun a => e.O a ∧ a ≠ D⟩
theorem Wd.with (w : Wd K e F H σ S) {D : Addr} {o : HO} (hD : H D = some o) (nf : F D = none) (no : ∀ (i : Nat) n b p, S[i]? = some (.own n b p) → b ≠ D) : Wd K (e.with D o) F H σ S := by
  exact {
    sub := w.sub, f0 := w.f0
    keep := fun b u h n => by
      by_cases hb : b = D
      · subst hb
        have h2 : upd e.H0 b o b = some u := h
        rw [upd_same] at h2
        cases h2
        exact hD
      · have h2 : upd e.H0 D o b = some u := h
        rw [upd_ne hb] at h2
        exact w.keep b u h2 fun z => n ⟨z, hb⟩
    live := fun b h => by
      by_cases hb : b = D
      · subst hb
        rw [hD]
        exact fun z => nomatch z
      · refine w.live b fun z => h ?_
        show upd e.H0 D o b = none
        rw [upd_ne hb]
        exact z
    unf := fun b h1 h2 => by
      by_cases hb : b = D
      · subst hb
        exact nf
      · refine w.unf b (fun z => h1 ?_) h2
        show upd e.H0 D o b = none
        rw [upd_ne hb]
        exact z
    len := w.len
    slots := fun i s h => by
      have q := w.slots i s h
      cases s with
      | no => trivial
      | dat d => exact q
      | own m a p =>
        refine ⟨q.1, q.2.1, ?_, q.2.2.2⟩
        have ha := no i m a p h
        have z := q.2.2.1
        cases m with
        | true =>
          show upd e.H0 D o a = none
          rw [upd_ne ha]
          exact z
        | false => exact ⟨z, ha⟩
    sep := w.sep }
theorem Wd.without {D : Addr} {o : HO} (w : Wd K (e.with D o) F H σ S) (n0 : e.H0 D = none) (nf : e.F0 D = none) : Wd K e F H σ S ∧ H D = some o ∧ F D = none ∧ ∀ (i : Nat) n b p, S[i]? = some (.own n b p) → b ≠ D := by
  have hup : (e.with D o).H0 D = some o := upd_same
  refine ⟨?_, w.keep D o hup fun z => z.2 rfl, w.unf D (by rw [hup]; exact fun z => nomatch z) nf, fun i m b p h z => ?_⟩
  · exact {
      sub := w.sub, f0 := w.f0
      keep := fun b u h n => by
        have hb : b ≠ D := ne_of_none h n0
        refine w.keep b u ?_ fun z => n z.1
        show upd e.H0 D o b = some u
        rw [upd_ne hb]
        exact h
      live := fun b h => by
        have hb : b ≠ D := fun z => by
          subst z
          exact h n0
        refine w.live b fun z => h ?_
        have z2 : upd e.H0 D o b = none := z
        rw [upd_ne hb] at z2
        exact z2
      unf := fun b h1 h2 => by
        have hb : b ≠ D := fun z => by
          subst z
          exact h1 n0
        refine w.unf b (fun z => h1 ?_) h2
        have z2 : upd e.H0 D o b = none := z
        rw [upd_ne hb] at z2
        exact z2
      len := w.len
      slots := fun i s h => by
        have q := w.slots i s h
        cases s with
        | no => trivial
        | dat d => exact q
        | own m a p =>
          refine ⟨q.1, q.2.1, ?_, q.2.2.2⟩
          have z := q.2.2.1
          cases m with
          | true =>
            have z2 : upd e.H0 D o a = none := z
            by_cases ha : a = D
            · subst ha
              exact n0
            · rw [upd_ne ha] at z2
              exact z2
          | false => exact z.1
      sep := w.sep }
  · have q := (w.slots i _ h).2.2.1
    cases m with
    | true =>
      subst z
      have q2 : upd e.H0 b o b = none := q
      rw [upd_same] at q2
      cases q2
    | false => exact q.2 z
/-- the comprehension's targets are its own -/
def GW (g : TG) (vs : List Nat) : Prop := ∀ (v : V) (σ : L2.St) (H : Hp) (Q : L2.St → Hp → Prop), (g v σ H fun σ' H' => wipe σ' vs = wipe σ vs → Q σ' H') → g v σ H fun σ' H' => wipe σ' vs = wipe σ vs ∧ Q σ' H'
def GWs (g : TGs) (vs : List Nat) : Prop := ∀ (v : List V) (σ : L2.St) (H : Hp) (Q : L2.St → Hp → Prop), (g v σ H fun σ' H' => wipe σ' vs = wipe σ vs → Q σ' H') → g v σ H fun σ' H' => wipe σ' vs = wipe σ vs ∧ Q σ' H'
theorem wipe_get {i : Nat} : ∀ {vs : List Nat}, i ∈ vs → i < σ.length → (wipe σ vs)[i]? = some none
  | v :: vs, h, hl => by
    unfold L2.wipe
    by_cases e : i = v
    · subst e
      rw [List.getElem?_set_self (by rw [wipe_length]; exact hl)]
    · rw [List.getElem?_set_ne (Ne.symm e)]
      exact wipe_get (by simpa [e] using h) hl
theorem wipe_set {i : Nat} {x : Option V} {vs : List Nat} (h : i ∈ vs) : wipe (σ.set i x) vs = wipe σ vs := by
  apply List.ext_getElem?
  intro j
  by_cases hj : j ∈ vs
  · by_cases hl : j < σ.length
    · rw [wipe_get hj hl, wipe_get hj (by rw [List.length_set]; exact hl)]
    · rw [List.getElem?_eq_none (by rw [wipe_length, List.length_set]; omega), List.getElem?_eq_none (by rw [wipe_length]; omega)]
  · rw [wipe_out hj, wipe_out hj, List.getElem?_set_ne]
    intro z
    subst z
    exact hj h
theorem wipe_wipe (vs : List Nat) : wipe (wipe σ vs) vs = wipe σ vs := by
  apply List.ext_getElem?
  intro j
  by_cases hj : j ∈ vs
  · by_cases hl : j < σ.length
    · rw [wipe_get hj hl, wipe_get hj (by rw [wipe_length]; exact hl)]
    · rw [List.getElem?_eq_none (by rw [wipe_length, wipe_length]; omega), List.getElem?_eq_none (by rw [wipe_length]; omega)]
  · rw [wipe_out hj]
theorem gw_name {i : Nat} {vs : List Nat} (h : i ∈ vs) : GW (gName i) vs := fun v σ H Q q => ⟨wipe_set h, q (wipe_set h)⟩
theorem gw_nil {vs : List Nat} : GWs gNil vs := fun v σ H Q q => ⟨q.1, rfl, q.2 rfl⟩
theorem gw_cons {g : TG} {gs : TGs} {vs : List Nat} (mono : ∀ v σ H (Q Q' : L2.St → Hp → Prop), (∀ a b, Q a b → Q' a b) → g v σ H Q → g v σ H Q') (h1 : GW g vs) (h2 : GWs gs vs) : GWs (gCons g gs) vs := fun v σ H Q ⟨x, r, e, q⟩ =>
  ⟨x, r, e, mono _ _ _ _ _ (fun σ' H' ⟨z1, z2⟩ => by
    have z3 := h2 r σ' H' Q
    rw [z1] at z3
    exact z3 z2) (h1 x σ H _ (mono _ _ _ _ _ (fun σ' H' q _ => q) q))⟩
theorem gw_tup {gs : TGs} {n : Nat} {vs : List Nat} (h : GWs gs vs) : GW (gTup K n gs) vs := fun v σ H Q ⟨a, xs, e, q1, q2, q3⟩ => ⟨a, xs, e, q1, q2, h xs σ H Q q3⟩
theorem name_mono {i : Nat} : ∀ v σ H (Q Q' : L2.St → Hp → Prop), (∀ a b, Q a b → Q' a b) → gName i v σ H Q → gName i v σ H Q' := fun _ _ _ _ _ h q => h _ _ q
theorem gw_two {i j : Nat} {n : Nat} {vs : List Nat} (hi : i ∈ vs) (hj : j ∈ vs) : GW (gTup K n (gCons (gName i) (gCons (gName j) gNil))) vs := gw_tup (gw_cons name_mono (gw_name hi) (gw_cons name_mono (gw_name hj) gw_nil))
variable {g : TG} {tt : TT} {te : TE} {wi : TI} {vs : List Nat}
/-- a comprehension: acc is what is made so far -/
theorem en_lc {R : Own → List Sl → Prop} (hg : GW g vs) (h : EI K wi S fun ds S1 => wipeS S1 vs = S1 ∧ ds.length ≤ 1000000 ∧ ∃ I : Nat → List PyData → List Sl → Prop, I 0 [] S1 ∧
    (∀ i d acc S2, ds[i]? = some d → I i acc S2 → acc.length ≤ i → GG K g d S2 fun S3 => ET K tt S3 fun b S4 => if b = true then EE K te S4 fun x S5 => ∃ dy, x = .dat dy ∧ I (i + 1) (acc ++ [dy]) (wipeS S5 vs) else I (i + 1) acc (wipeS S4 vs)) ∧
    (∀ acc S2, I ds.length acc S2 → R (.lst acc) S2)) : EN K (tLc wi g tt te vs) S R := fun e F H σ w Q k =>
  h e F H σ w _ fun J ds S1 F1 H1 w1 m1 ⟨go, stop, yld⟩ ⟨hw, hn, I, i0, step, fin⟩ => by
    intro D nD
    have n0 : e.H0 D = none := w1.n0 nD
    have f0 : e.F0 D = none := (w1.f0.trans w1.sub).free nD
    refine ⟨fun i m H => m = ds.length - i ∧ i ≤ ds.length ∧ ∃ F S2 acc accV, Wd K e F H (wipe σ vs) S2 ∧ Same F1 F ∧ H D = some (.lst accV) ∧ Reps K F accV acc ∧ F D = none ∧ (∀ (i : Nat) n b p, S2[i]? = some (.own n b p) → b ≠ D) ∧ wipeS S2 vs = S2 ∧ acc.length ≤ i ∧ I i acc S2,
      ⟨ds.length, by omega, by omega, F1, S1, [], [], ?_, Same.refl _, upd_same, .nil, w1.sub.free nD, w1.no nD, hw, by simp, i0⟩, ?_⟩
    · have z := (w1.fresh (o := .lst []) nD).wipe vs
      rw [hw] at z
      exact z
    rintro i m H2 ⟨rfl, hi, F2, S2, acc, accV, w2, m2, hD, rA, nf, no, hw2, ha, hI⟩
    by_cases hlt : i < ds.length
    · refine .inr ⟨go i F2 H2 m2 w2.sub hlt, fun H => ∃ F S2 acc accV, Wd K e F H (wipe σ vs) S2 ∧ Same F1 F ∧ H D = some (.lst accV) ∧ Reps K F accV acc ∧ F D = none ∧ (∀ (i : Nat) n b p, S2[i]? = some (.own n b p) → b ≠ D) ∧ wipeS S2 vs = S2 ∧ acc.length ≤ i + 1 ∧ I (i + 1) acc S2,
        fun H' z => ⟨ds.length - (i + 1), by omega, rfl, hlt, z⟩, fun x H3 hy => ?_⟩
      obtain ⟨d, hd, hx⟩ := yld i F2 H2 x H3 m2 w2.sub hlt hy
      have main : ∀ F3, Wd K e F3 H3 (wipe σ vs) S2 → Same F2 F3 → H3 D = some (.lst accV) → F3 D = none → Rep K F3 x d → g x (wipe σ vs) H3 fun σ2 H2 => wipe σ2 vs = wipe σ vs ∧ tt σ2 H2 fun b H3 => if b = true then te σ2 H3 fun y H4 => ∃ acc, H4 D = some (.lst acc) ∧ acc.length < sizeLine ∧
          (∃ F S2 acc' accV, Wd K e F (upd H4 D (.lst (acc ++ [y]))) (wipe σ vs) S2 ∧ Same F1 F ∧ (upd H4 D (.lst (acc ++ [y]))) D = some (.lst accV) ∧ Reps K F accV acc' ∧ F D = none ∧ (∀ (i : Nat) n b p, S2[i]? = some (.own n b p) → b ≠ D) ∧ wipeS S2 vs = S2 ∧ acc'.length ≤ i + 1 ∧ I (i + 1) acc' S2)
          else (∃ F S2 acc accV, Wd K e F H3 (wipe σ vs) S2 ∧ Same F1 F ∧ H3 D = some (.lst accV) ∧ Reps K F accV acc ∧ F D = none ∧ (∀ (i : Nat) n b p, S2[i]? = some (.own n b p) → b ≠ D) ∧ wipeS S2 vs = S2 ∧ acc.length ≤ i + 1 ∧ I (i + 1) acc S2) := fun F3 w3 m3 hD3 nf3 r3 => by
        have ww := w3.with hD3 nf3 no
        have q0 := hg x (wipe σ vs) H3
        rw [wipe_wipe] at q0
        refine q0 _ (step i d acc S2 hd hI ha _ F3 H3 (wipe σ vs) x ww r3 _ fun S4 F4 H4 σ4 w4 m4 q4 hσ => ?_)
        refine q4 _ F4 H4 σ4 w4 _ fun b S5 F5 H5 w5 m5 q5 => ?_
        cases b with
        | false =>
          refine iteF ?_
          have q6 : I (i + 1) acc (wipeS S5 vs) := q5
          have w6 := w5.wipe vs
          rw [hσ] at w6
          obtain ⟨w7, hD7, nf7, no7⟩ := w6.without n0 f0
          refine ⟨F5, _, acc, accV, w7, ((m2.trans m3).trans m4).trans m5, hD7, rA.mono ((m3.trans m4).trans m5), nf7, no7, ?_, by omega, q6⟩
          exact wipeS_wipeS S5 vs
        | true =>
          refine iteT ?_
          refine (show EE K te S5 _ from q5) _ F5 H5 σ4 w5 _ fun y xx S6 F6 H6 w6 m6 r6 q6 => ?_
          obtain ⟨dy, rfl, q6⟩ := q6
          have w7 := w6.wipe vs
          rw [hσ] at w7
          obtain ⟨w8, hD8, nf8, no8⟩ := w7.without n0 f0
          have mm : Same F2 F6 := ((m3.trans m4).trans m5).trans m6
          refine ⟨accV, hD8, ?_, F6, _, acc ++ [dy], accV ++ [y], w8.change n0 nf8 no8, m2.trans mm, upd_same, (rA.mono mm).append (.cons r6 .nil), nf8, no8, wipeS_wipeS S6 vs, ?_, q6⟩
          · rw [rA.length]
            have : (sizeLine : Nat) = sizeLine := rfl
            rw [sizeLine_eq]
            omega
          · rw [List.length_append, List.length_singleton]
            omega
      rcases hx with ⟨rfl, hr⟩ | ⟨T, o, hT, rfl, hr⟩
      · exact main F2 w2 (Same.refl _) hD nf hr
      · have hTD : D ≠ T := ne_of_none hD hT
        refine main _ (w2.laid hT) (same_new (w2.sub.free hT)) ?_ ?_ hr
        · rw [upd_ne hTD]
          exact hD
        · rw [upd_ne hTD]
          exact nf
    · have e1 : i = ds.length := by omega
      subst e1
      exact .inl ⟨stop F2 H2 m2 w2.sub, k D (.lst acc) S2 F2 H2 (w2.unwipe hw2) (m1.trans m2) nf n0 ⟨accV, hD, rA⟩ no (fin acc S2 hI)⟩
end
end DL

namespace DL
open PySem PySem.Spec PyProof.Rows L2
section
variable {X : Cx}
/-! ## rules that the layer lacks -/
/-- a text n times -/
def repS (z : Str) (n : Int) : Str := ⟨(List.replicate n.toNat z.cps.toList).flatten.toArray⟩
theorem fold_app (xs : Array Nat) : ∀ (n : Nat) (acc : Array Nat), (List.replicate n xs).foldl (· ++ ·) acc = (acc.toList ++ (List.replicate n xs.toList).flatten).toArray
  | 0, acc => by simp
  | n + 1, acc => by
    rw [List.replicate_succ, List.foldl_cons, fold_app xs n, List.replicate_succ, List.flatten_cons]
    simp
def rMulS : R2 := fun x y H Q => ∃ z n, x = .str z ∧ y = .int n ∧ (-1000000 ≤ n ∧ n ≤ 1000000 ∧ z.length ≤ 10) ∧ Q (.str (repS z n)) H
theorem op_mul_str : OpR X (binaryOp .Mult) rMulS := by
  intro pins s σ H x y v u Q I rx ry h
  obtain ⟨z, n, rfl, rfl, ⟨h1, h2, h3⟩, q⟩ := h
  obtain ⟨t, rfl⟩ := rx
  obtain ⟨t', rfl⟩ := ry
  refine PySem.P.mul_str ?_ ?_ ?_ ?_
  · have a : ¬ n < -(2 ^ 63 : Int) := by omega
    have b : ¬ n ≥ 2 ^ 63 := by omega
    rw [decide_eq_false a, decide_eq_false b]
    rfl
  · intro hn _ hc
    have : (2 ^ 63 - 1 : Int) / n ≥ 10 := by
      apply Int.le_ediv_of_mul_le (by omega)
      omega
    omega
  · intro hn _
    have hz : z.length * n.toNat ≤ 10 * 1000000 := Nat.mul_le_mul h3 (by omega)
    unfold Builtin.Str.tooLong
    refine decide_eq_false ?_
    have hs := sizeLine_eq
    omega
  · by_cases c1 : n < 1
    · rw [if_pos c1]
      have e : repS z n = Str.empty := by
        have e0 : n.toNat = 0 := by omega
        unfold repS
        rw [e0]
        rfl
      rw [e] at q
      exact ⟨by decide, .str _, H, I.tok _, ⟨_, rfl⟩, q⟩
    · rw [if_neg c1]
      by_cases c2 : (n == 1 || z.length == 0) = true
      · rw [if_pos c2]
        have e : repS z n = z := by
          unfold repS
          rw [Bool.or_eq_true] at c2
          rcases c2 with c2 | c2
          · have e0 : n = 1 := by simpa using c2
            subst e0
            apply Str.ext'
            simp
          · have e0 : z.cps.size = 0 := by
              have : z.length = 0 := by simpa using c2
              exact this
            have e1 : z.cps = #[] := Array.eq_empty_of_size_eq_zero e0
            apply Str.ext'
            simp [e1]
        rw [e] at q
        exact ⟨.str z, H, I, ⟨t, rfl⟩, q⟩
      · rw [if_neg c2]
        have e : (⟨(List.replicate n.toNat z.cps).foldl (· ++ ·) #[]⟩ : Str) = repS z n := by
          unfold repS
          rw [fold_app]
          simp
        rw [e]
        refine ⟨?_, .str _, H, I.tok _, ⟨_, rfl⟩, q⟩
        have hz : z.length * n.toNat ≤ 10 * 1000000 := Nat.mul_le_mul h3 (by omega)
        show ((List.replicate n.toNat z.cps.toList).flatten.toArray).size ≤ sizeLine
        rw [List.size_toArray, PyProof.Rows.lm_len_rep_flat]
        have hs := sizeLine_eq
        have e3 : z.cps.toList.length = z.length := rfl
        rw [e3, Nat.mul_comm]
        omega
/-- text[::-1] -/
def revS (z : Str) : Str := ⟨z.cps.toList.reverse.toArray⟩
def tRevS (te : TE) : TE := fun σ H Q => te σ H fun x H1 => ∃ z, x = .str z ∧ z.length ≤ 1000000 ∧ Q (.str (revS z)) H1
theorem fm_congr {α β : Type} {f g : α → Option β} : ∀ {l : List α}, (∀ x ∈ l, f x = g x) → l.filterMap f = l.filterMap g
  | [], _ => rfl
  | a :: l, h => by
    rw [List.filterMap_cons, List.filterMap_cons, h a (by simp), fm_congr fun x hx => h x (by simp [hx])]
theorem pick_rev : ∀ (l : List Nat), (List.range l.length).filterMap (fun k => l[l.length - 1 - k]?) = l.reverse
  | [] => rfl
  | a :: t => by
    rw [List.length_cons, List.range_succ, List.filterMap_append, List.reverse_cons, ← pick_rev t]
    congr 1
    · apply fm_congr
      intro k hk
      have hk2 := List.mem_range.mp hk
      have e : t.length + 1 - 1 - k = (t.length - 1 - k) + 1 := by omega
      rw [e, List.getElem?_cons_succ]
    · simp
theorem picked_rev (z : Str) : ((Builtin.Str.strSliceIndices none none (-1) z.length).filterMap (z.cps[·]?)) = z.cps.toList.reverse := by
  rw [← pick_rev]
  show ((List.range (if (((z.length : Int) - 1) > (-1 : Int)) then (((z.length : Int) - 1) - (-1) - (-1) - 1) / (-(-1)) else 0).toNat).map fun (k : Nat) => ((z.length : Int) - 1 + (-1) * (k : Int)).toNat).filterMap (z.cps[·]?) = _
  have e1 : (if (((z.length : Int) - 1) > (-1 : Int)) then (((z.length : Int) - 1) - (-1) - (-1) - 1) / (-(-1)) else 0).toNat = z.cps.toList.length := by
    have : z.cps.toList.length = z.length := rfl
    rw [this]
    split
    · have : (((z.length : Int) - 1) - (-1) - (-1) - 1) / (-(-1)) = (z.length : Int) := by
        rw [show (-(-1) : Int) = 1 from rfl, Int.ediv_one]
        omega
      rw [this]
      omega
    · omega
  rw [e1, List.filterMap_map]
  apply fm_congr
  intro k hk
  have hk2 := List.mem_range.mp hk
  have e2 : z.cps.toList.length = z.length := rfl
  have e3 : ((z.length : Int) - 1 + (-1) * (k : Int)).toNat = z.cps.toList.length - 1 - k := by omega
  show z.cps[((z.length : Int) - 1 + (-1) * (k : Int)).toNat]? = _
  rw [e3, Array.getElem?_toList]
theorem pe_revS {e : Expr} {te : TE} {k : Nat} {p1 p2 p3 pos : Pos} (he : PE X e te) : PE X (.Subscript e (.Slice none none (some (.UnaryOp .USub (.Constant (.int 1) k p1) p2)) p3) pos) (tRevS te) := by
  refine ⟨fun pins s σ H Q I h => ?_⟩
  refine Subscript_ (thn (he.run pins s σ H _ I h) fun v s1 ⟨x, H1, I1, r1, q1⟩ => ?_)
  obtain ⟨z, ex, hz, q⟩ := q1
  subst ex
  obtain ⟨t, rfl⟩ := r1
  have hst : PO X (some (.UnaryOp .USub (.Constant (.int 1) k p1) p2)) (tPart (tUn (rU fun i => .int (-i)) (tC (.int 1)))) := po_some (pe_un un_neg pe_int)
  refine wpAny_Slice (thn (po_none.run pins s1 σ H1 (fun o H2 => o = none ∧ H2 = H1) I1 ⟨rfl, rfl⟩) fun vl s2 ⟨l, H2, I2, pl, el, e2⟩ => ?_)
  subst el e2
  refine thn (po_none.run pins s2 σ H2 (fun o H3 => o = none ∧ H3 = H2) I2 ⟨rfl, rfl⟩) fun vu s3 ⟨u, H3, I3, pu, eu, e3⟩ => ?_
  subst eu e3
  refine thn (hst.run pins s3 σ H3 (fun o H4 => o = some (-1) ∧ H4 = H3) I3 ⟨1, rfl, -1, rfl, rfl, rfl⟩) fun vs s4 ⟨o, H4, I4, ps, eo, e4⟩ => ?_
  subst eo e4
  have I5 : Inv X pins σ H4 { s4 with heap := s4.heap.push { cls := .type "slice", data := .fields #[vl, vu, vs] } } := I4.kept (t' := s4.toks) fun b ob q => Heap.get?_push_of_some _ q
  obtain ⟨l, e1, e2⟩ := IsPart.raw pl
  obtain ⟨u, e3, e4⟩ := IsPart.raw pu
  obtain ⟨st, e5, e6⟩ := IsPart.raw ps
  show wpAny (model X.prog X.w) X.A (subscriptTail e (.Slice none none (some (.UnaryOp .USub (.Constant (.int 1) k p1) p2)) p3) (.str z t) (.ref s4.heap.objs.size)) (EP X pins σ Q) X.xe { s4 with heap := s4.heap.push { cls := .type "slice", data := .fields #[vl, vu, vs] } }
  have hsl := sizeLine_eq
  have e7 : l = none := by cases l with
    | none => rfl
    | some a => cases e2
  have e8 : u = none := by cases u with
    | none => rfl
    | some a => cases e4
  subst e7 e8
  obtain ⟨⟨n, tk⟩, rfl⟩ : ∃ a, st = some a := by cases st with
    | none => cases e6
    | some a => exact ⟨a, rfl⟩
  have e9 : n = -1 := Option.some.inj e6
  subst e9
  subst e1 e3 e5
  refine tail_any (ops := [.ref s4.heap.objs.size, .str z t]) (typeIs_str _ _ _) F.slot_str_getitem.lookup (wpAny_getItem_str_slice (l := none) (u := none) (st := some (-1, tk)) ⟨_, Heap.get?_push_size _ rfl, rfl, rfl⟩ rfl ?_) (by with_unfolding_all rfl)
  show Made.post (if ((-1 : Int) == 1 && (Builtin.Str.strSliceIndices none none (-1) z.length).length == z.length) = true then Made.val (.str z t)
    else Made.str ⟨((Builtin.Str.strSliceIndices none none (-1) z.length).filterMap (z.cps[·]?)).toArray⟩) (EP X pins σ Q) _
  rw [if_neg (by simp), picked_rev]
  refine ⟨?_, .str _, H4, I5.tok _, ⟨_, rfl⟩, q⟩
  show (z.cps.toList.reverse.toArray).size ≤ sizeLine
  rw [List.size_toArray, List.length_reverse]
  have e2 : z.cps.toList.length = z.length := rfl
  omega

/-- sum of a tuple of ints -/
theorem sumT_raw {prog : Program} {w : World} {A : Around} {E : Value → Shared → Prop} {s : Shared} {l : Addr} {its : List Value} {ns : List Int} {Q : Value → Shared → Prop} (hh : A.handled = none) (hl : s.heap.IsTuple l its.toArray) (hi : IntsAre its ns)
    (h : ∀ h' tk t', (∀ b o, s.heap.get? b = some o → h'.get? b = some o) → Q (.int ns.sum t') { s with heap := h', toks := tk }) : wpAny (model prog w) A (call (.builtin "sum") [.ref l]) Q E s := by
  obtain ⟨xs, e⟩ := hi.allInts.items
  have hn : numsOf (intItems xs).toList = ns := by rw [← e]; exact hi.numsOf
  rw [nums_intItems] at hn
  rw [e] at hl
  have hlt : l < s.heap.objs.size := by obtain ⟨_, e, _⟩ := hl; exact Heap.lt_size e
  refine call_sum_walkG (wpAny_pyIter_tuple hl ?_)
  refine ⟨_, _, _, _, _, _, numAt xs, rfl, Walks.tuple (A := A.in1) hh s.heap.objs.size l (Nat.ne_of_lt hlt) (intItems xs), ⟨⟨_, Heap.get?_push_size _ rfl, rfl, rfl⟩, hl.push _⟩, ?_, (fun _ _ => intItems_at), fun h' tk t' hk => ?_⟩
  · intro b hb
    show b < (s.heap.push _).objs.size
    rw [Heap.size_push]
    rcases List.mem_cons.mp hb with rfl | hb
    · exact Nat.lt_succ_self _
    · rcases List.mem_cons.mp hb with rfl | hb
      · exact Nat.lt_succ_of_lt hlt
      · cases hb
  · have := h h' tk t' fun b o e => by
      refine hk b o (fun hm => ?_) (Heap.get?_push_of_some _ e)
      rcases List.mem_cons.mp hm with e1 | hm
      · exact absurd (e1 ▸ Heap.lt_size e) (Nat.lt_irrefl _)
      · cases hm
    rw [preSum_eq, List.take_of_length_le (by simp [intItems]), hn]
    exact this
def rSumU (K : PySem.W.Frag) : List V → Hp → VK → Prop := fun vs H Q => ∃ (a : Addr) (ns : List Int), vs = [V.ref a] ∧ (SqL K H a (ns.map V.int) ∨ SqT K H a (ns.map V.int)) ∧ Q (.int ns.sum) H
theorem cr_sumU (hc : X.calm = true) : CallR X (.builtin "sum") (rSumU X.K) := by
  intro pins s σ H vs us Q I r h
  obtain ⟨a, ns, rfl, hs, q⟩ := h
  rcases hs with hs | hs
  · exact cr_sum hc pins s σ H [.ref a] us Q I r ⟨a, ns, rfl, hs, q⟩
  · obtain ⟨its, rv, hl, _⟩ := I.tuple hs
    rw [Vals.ref1 r]
    exact sumT_raw (I.ok.hd hc) hl rv.ints fun h' tk t' hk => ⟨.int _, H, I.kept hk, ⟨_, rfl⟩, q⟩
end
end DL

namespace DL
open PySem PySem.Spec PyProof.Rows L2

/-! ## rules whatever the kind of the values -/
theorem PE_or {X : Cx} {e : Expr} {t u : TE} (h : PE X e t) (k : PE X e u) : PE X e (fun σ H Q => t σ H Q ∨ u σ H Q) := ⟨fun pins s σ H Q I h' => by
  rcases h' with h' | h'
  · exact h.run pins s σ H Q I h'
  · exact k.run pins s σ H Q I h'⟩
theorem PI_or {X : Cx} {tg e : Expr} {t u : TI} (h : PI X tg e t) (k : PI X tg e u) : PI X tg e (fun σ H Q => t σ H Q ∨ u σ H Q) := ⟨fun pins s σ H Q I h' => by
  rcases h' with h' | h'
  · exact h.run pins s σ H Q I h'
  · exact k.run pins s σ H Q I h'⟩
def rAddS : R2 := fun x y H Q => ∃ i j, x = .str i ∧ y = .str j ∧ i.length + j.length ≤ sizeLine ∧ Q (.str (i ++ j)) H
def rAddI : R2 := rI0 fun i j => .int (i + j)
def uAddR (K : PySem.W.Frag) : R2 := fun x y H Q => rAddI x y H Q ∨ rAddS x y H Q ∨ rCat x y H Q ∨ rCatA K x y H Q
def rMulI : R2 := rI CMul fun i j => .int (i * j)
def rMulW : R2 := rI CMulW fun i j => .int (i * j)
def uMulR (K : PySem.W.Frag) : R2 := fun x y H Q => rMulI x y H Q ∨ rMulW x y H Q ∨ rRep x y H Q ∨ rMulS x y H Q
def uEqR (K : PySem.W.Frag) : R2 := fun x y H Q => rEq x y H Q ∨ rEqD K x y H Q
def uNeR (K : PySem.W.Frag) : R2 := fun x y H Q => rNe x y H Q ∨ rNeD K x y H Q
def rIsN : R2 := fun x y H Q => y = .non ∧ Q (.bl (decide (x = .non))) H
def rNotN : R2 := fun x y H Q => y = .non ∧ Q (.bl (!decide (x = .non))) H
def uIsR : R2 := fun x y H Q => rIsN x y H Q ∨ rIsB x y H Q
def uIsNotR : R2 := fun x y H Q => rNotN x y H Q ∨ rNotB x y H Q
def rInSign : R2 := fun x y H Q => ∃ (c : Nat) (z : Str), x = .str ⟨#[c]⟩ ∧ y = .str z ∧ Q (.bl (decide (c ∈ z.cps.toList))) H
def rInD : R2 := fun y x H Q => ∃ a o, x = .ref a ∧ DGet H a y o ∧ Q (.bl o.isSome) H
theorem op_in_dict {X : Cx} (hu : X.A.units + 64 < cLine) : OpR X (compareOp .In) rInD := by
  intro pins s σ H y x u v Q I ry rx h
  obtain ⟨a, o, rfl, g, q⟩ := h
  obtain rfl : v = Value.ref a := rx
  exact d_in (by omega) I g ry fun s3 I3 => ⟨.bl o.isSome, H, I3, rfl, q⟩
def uInR (K : PySem.W.Frag) : R2 := fun x y H Q => rIn K false x y H Q ∨ rInSign x y H Q ∨ rInD x y H Q
def rLenV (K : PySem.W.Frag) : List V → Hp → VK → Prop := fun xs H Q => ∃ x n, xs = [x] ∧ LenV K x H n ∧ Q (.int n) H
def rLenK : List V → Hp → VK → Prop := fun xs H Q => ∃ a kvs, xs = [V.ref a] ∧ H a = some (.dK kvs) ∧ Q (.int kvs.length) H
def uLenR (K : PySem.W.Frag) : List V → Hp → VK → Prop := fun xs H Q => rLenV K xs H Q ∨ rLenK xs H Q
def uSlR (K : PySem.W.Frag) : V → Option Int → Option Int → Hp → VK → Prop := fun x lo hi H Q => rSlL K x lo hi H Q ∨ rSlS x lo hi H Q ∨ rSlA K x lo hi H Q
def rTupleOf (K : PySem.W.Frag) : List V → Hp → VK → Prop := fun xs H Q => ∃ p ys, xs = [.ref p] ∧ ((SqL K H p ys ∧ ∀ l, H l = none → Q (.ref l) (upd H l (.tup ys))) ∨ (SqT K H p ys ∧ Q (.ref p) H))
def rListOf (K : PySem.W.Frag) : List V → Hp → VK → Prop := fun xs H Q => ∃ p ys, xs = [.ref p] ∧ (SqL K H p ys ∨ SqT K H p ys) ∧ ∀ l, H l = none → Q (.ref l) (upd H l (.lst ys))
def uListR (K : PySem.W.Frag) : List V → Hp → VK → Prop := fun xs H Q => rListOf K xs H Q ∨ rListD xs H Q
def tRevU (K : PySem.W.Frag) (te : TE) : TE := fun σ H Q => tRevL K te σ H Q ∨ tRevS te σ H Q
def iAny (K : PySem.W.Frag) (te : TE) : TI := fun σ H R => iList K te σ H R ∨ iTup K te σ H R ∨ iStr te σ H R
def tTru (K : PySem.W.Frag) (te : TE) : TT := fun σ H Q => te σ H fun x H1 => ∃ k, TruV K x H1 k ∧ Q k H1
def rSIndex : V → List V → Hp → VK → Prop := fun x xs H Q => ∃ a b i rest, x = .str a ∧ xs = [.str b] ∧ Builtin.Str.occurrences a b 0 a.length 1 = i :: rest ∧ Q (.int (i : Nat)) H
section
variable {X : Cx}
theorem PT_or {e : Expr} {t u : TT} (h : PT X e t) (k : PT X e u) : PT X e (fun σ H Q => t σ H Q ∨ u σ H Q) := ⟨fun pins s σ H Q I h' => by
  rcases h' with h' | h'
  · exact h.run pins s σ H Q I h'
  · exact k.run pins s σ H Q I h'⟩
theorem uAdd : OpR X (binaryOp .Add) (uAddR X.K) := op_add.or (op_add_str.or (op_cat.or op_catA))
theorem uMul : OpR X (binaryOp .Mult) (uMulR X.K) := op_mul.or (op_mulW.or (op_rep.or op_mul_str))
theorem uEq (hu : X.A.units + 64 < cLine) : OpR X (compareOp .Eq) (uEqR X.K) := op_eq.or (op_eqD hu)
theorem uNotEq (hu : X.A.units + 64 < cLine) : OpR X (compareOp .NotEq) (uNeR X.K) := op_ne.or (op_neD hu)
theorem uIs : OpR X (compareOp .Is) uIsR := op_isN.or op_isBl
theorem uIsNot : OpR X (compareOp .IsNot) uIsNotR := op_notN.or op_notBl
theorem uIn {k : Nat} (hr : Room k X.A) (hu : X.A.units + 64 < cLine) : OpR X (compareOp .In) (uInR X.K) := op_in_seq.or (op_in_sign.or (op_in_dict hu))
theorem uLen : CallR X (.builtin "len") (uLenR X.K) := call_len.or call_lenD
theorem uSl : SlR X (uSlR X.K) := sl_list.or (sl_str.or sl_tupA)
theorem uTuple : CallR X (.type "tuple") (rTupleOf X.K) := call_tuple_of
theorem uList (hc : X.calm = true) : CallR X (.type "list") (uListR X.K) := call_list_of.or (call_list_dK hc)
theorem pe_revU {e : Expr} {te : TE} {k : Nat} {p1 p2 p3 pos : Pos} (he : PE X e te) : PE X (.Subscript e (.Slice none none (some (.UnaryOp .USub (.Constant (.int 1) k p1) p2)) p3) pos) (tRevU X.K te) := PE_or (pe_revL he) (pe_revS he)
theorem pi_any {tg e : Expr} {te : TE} (he : PE X e te) : PI X tg e (iAny X.K te) := PI_or (pi_list he) (PI_or (pi_tup he) (pi_str he))
theorem pt_tru {a : Expr} {ta : TE} (ha : PE X a ta) (he : ∀ whole, isTrue a X.env whole = (do let v ← whole; standAt a.pos; holding [v] (truthy v)) := by intro _; rfl) : PT X a (tTru X.K ta) := pt_truth ha he
theorem uGet : PGet X (rIxL X.K) := by
  intro pins s σ H x y v u Q I rx ry h
  obtain ⟨p, xs, i, z, rfl, rfl, hq, he, q⟩ := h
  cases rx
  obtain ⟨t, rfl⟩ := ry
  obtain ⟨its, r, pl, hz⟩ := I.list hq
  obtain ⟨j, h1, h2, h3, h4, h5⟩ := atI_get he
  obtain ⟨w, ew, rw'⟩ := r.get h2
  have hl := r.length
  have hn := line63
  have fin : EP X pins σ Q w s := ⟨z, H, I, rw', q⟩
  by_cases h0 : 0 ≤ i
  · have hj : i.toNat = j := by
      rw [seqIndex_of h0 h5] at h1
      exact Option.some.inj h1
    exact wpAny_getItem_list pl.isList h0 (by omega) (by rw [hj]; simpa using ew) fin
  · have hj : (i + (its.toArray.size : Int)).toNat = j := by
      rw [seqIndex_neg (by omega) h4] at h1
      rw [List.size_toArray, ← hl]
      exact Option.some.inj h1
    exact wpAny_getItem_list_neg pl.isList (by omega) (by rw [List.size_toArray] <;> omega) (by omega) (by rw [hj]; simpa using ew) fin
end
/-- a def of the program, as its callers see it -/
structure Df (P : Program) (w : World) (K : PySem.W.Frag) (mg : Str → Option Value) (base : Heap) (x : Str) (k : Nat) (ps : List Str) (C : Ct) (f : Addr) (fd : FuncData) : Prop where
  ok : FnOk P w K mg base CX0 k f fd ps (spC K C)
  gl : mg x = some (.ref f)
  kp : PySem.W.keepIn K (.ref f) = true
  bi : Binds K fd ps []
theorem pe_callD {X : Cx} {k j : Nat} {x : Str} {ps : List Str} {C : Ct} {f : Addr} {fd : FuncData} {e : Expr} {es : List Expr} {t : TA} {p pos : Pos} (d : Df X.prog X.w X.K X.mg X.base x k ps C f fd) (hr : Room j X.A) (hk : k ≤ j) (hg : Gl X x) (ha : PA X (e :: es) t)
    (hdb : (x == ("__debug__" : Str)) = false := by decide) (hst : starEach (e :: es) X.env = (false, eval e X.env) :: starEach es X.env := by rfl) (hpl : (backTo pos (starEach es X.env)).any (·.1) = false := by rfl) :
    PE X (.Call (.Name x p) (e :: es) [] pos) (tCall (spC X.K C) [] E0 t) := pe_call d.ok (hr.mono hk) hg d.gl d.kp d.bi .nil pass0 ha hdb hst hpl
end DL
namespace DL
open PySem PySem.Spec PyProof.Rows L2 RZ
/-! ## the same with the written part K named -/
section
variable {X : Cx} (K : PySem.W.Frag)
theorem kAdd (hK : X.K = K := by rfl) : OpR X (binaryOp .Add) (uAddR K) := hK ▸ uAdd
theorem kMul (hK : X.K = K := by rfl) : OpR X (binaryOp .Mult) (uMulR K) := hK ▸ uMul
theorem kEq (hu : X.A.units + 64 < cLine) (hK : X.K = K := by rfl) : OpR X (compareOp .Eq) (uEqR K) := hK ▸ uEq hu
theorem kNotEq (hu : X.A.units + 64 < cLine) (hK : X.K = K := by rfl) : OpR X (compareOp .NotEq) (uNeR K) := hK ▸ uNotEq hu
theorem kIn {k : Nat} (hr : Room k X.A) (hu : X.A.units + 64 < cLine) (hK : X.K = K := by rfl) : OpR X (compareOp .In) (uInR K) := hK ▸ uIn hr hu
theorem kLen (hK : X.K = K := by rfl) : CallR X (.builtin "len") (uLenR K) := hK ▸ uLen
theorem kSl (hK : X.K = K := by rfl) : SlR X (uSlR K) := hK ▸ uSl
theorem kTuple (hK : X.K = K := by rfl) : CallR X (.type "tuple") (rTupleOf K) := hK ▸ uTuple
theorem kList (hc : X.calm = true) (hK : X.K = K := by rfl) : CallR X (.type "list") (uListR K) := hK ▸ uList hc
theorem kRev {e : Expr} {te : TE} {k : Nat} {p1 p2 p3 pos : Pos} (he : PE X e te) (hK : X.K = K := by rfl) : PE X (.Subscript e (.Slice none none (some (.UnaryOp .USub (.Constant (.int 1) k p1) p2)) p3) pos) (tRevU K te) := hK ▸ pe_revU he
theorem kAny {tg e : Expr} {te : TE} (he : PE X e te) (hK : X.K = K := by rfl) : PI X tg e (iAny K te) := hK ▸ pi_any he
theorem kTru {a : Expr} {ta : TE} (ha : PE X a ta) (hK : X.K = K := by rfl) (he : ∀ whole, isTrue a X.env whole = (do let v ← whole; standAt a.pos; holding [v] (truthy v)) := by intro _; rfl) : PT X a (tTru K ta) := hK ▸ pt_tru ha he
theorem kIx (hK : X.K = K := by rfl) : IxR X (rIx K) := hK ▸ ix_seq
theorem kGet (hK : X.K = K := by rfl) : PGet X (rIxL K) := hK ▸ uGet
theorem kIsi (hK : X.K = K := by rfl) : CallR X (.builtin "isinstance") (rIsi K) := hK ▸ call_isi
theorem kAll (hc : X.calm = true) (hK : X.K = K := by rfl) : CallR X (.builtin "all") (rAll K) := hK ▸ cr_all hc
theorem kAnyB (hc : X.calm = true) (hK : X.K = K := by rfl) : CallR X (.builtin "any") (rAny K) := hK ▸ cr_any hc
theorem kSum (hc : X.calm = true) (hK : X.K = K := by rfl) : CallR X (.builtin "sum") (rSumU K) := hK ▸ cr_sumU hc
theorem kMax (hc : X.calm = true) (hK : X.K = K := by rfl) : CallR X (.builtin "max") (rMax K) := hK ▸ cr_max hc
theorem kEnum {e : Expr} {ta : TA} {p pos tpos : Pos} {elts : List Expr} {kk : Nat} (hg : Gl X "enumerate") (hm : X.mg "enumerate" = none) (ha : PA X [e] ta) (hK : X.K = K := by rfl) (hs : starEach [e] X.env = [(false, eval e X.env)] := by rfl) :
    PI X (.Tuple elts kk tpos) (.Call (.Name "enumerate" p) [e] [] pos) (iEnum K ta) := hK ▸ pi_enum hg hm ha hs
theorem kZip {e e2 : Expr} {ta : TA} {p pos tpos : Pos} {elts : List Expr} {kk : Nat} (hg : Gl X "zip") (hm : X.mg "zip" = none) (ha : PA X [e, e2] ta) (hK : X.K = K := by rfl)
    (hs : starEach [e, e2] X.env = (false, eval e X.env) :: starEach [e2] X.env := by rfl) (hpl : (backTo pos (starEach [e2] X.env)).any (·.1) = false := by rfl) :
    PI X (.Tuple elts kk tpos) (.Call (.Name "zip" p) [e, e2] [] pos) (iZipA K ta) := hK ▸ pi_zipA hg hm ha hs hpl
def rJoin (K : PySem.W.Frag) : V → List V → Hp → VK → Prop := fun x xs H Q => ∃ a p, ∃ ys : List Str, x = .str a ∧ xs = [.ref p] ∧ (SqL K H p (ys.map V.str) ∨ SqT K H p (ys.map V.str)) ∧ (ys.map (·.length)).sum + ys.length * a.length ≤ 16777216 ∧ Q (.str (Txt.join a ys)) H
theorem kJoin {o e : Expr} {to te : TE} {apos pos : Pos} (ho : PE X o to) (he : PE X e te) (hK : X.K = K := by rfl) (hs : starEach [e] X.env = [(false, eval e X.env)] := by rfl) (hbase : attributeBase o "join" X.env (eval o X.env) = eval o X.env := by rfl) (hline : (apos.endLine == pos.line) = true := by rfl) :
    PE X (.Call (.Attribute o "join" apos) [e] [] pos) (tM1 (rJoin K) to te) := by
  subst hK
  exact pe_join ho he hs hbase hline
theorem kTup {es : List Expr} {k : Nat} {t : TGs} {n : Nat} {pos : Pos} (hc : X.calm = true) (h : PGs X es t) (hK : X.K = K := by rfl) (hn : (assignEach es X.env).length = n := by rfl) (hst : (assignEach es X.env).findIdx? (·.1) = none := by rfl) : PG X (.Tuple es k pos) (gTup K n t) := hK ▸ pg_tup hc h hn hst
theorem kBm {o e : Expr} {es : List Expr} {to : TE} {t : TA} {T id : String} {name : Str} {r : V → List V → Hp → VK → Prop} {apos cpos : Pos} (pa : PlainAttrs T) (slot : Slot T name id) (hty : typeOf (.builtin id) = pure (.type "method_descriptor")) (hm : MtR X id r) (ho : PE X o to) (ha : PA X (e :: es) t) (hK : X.K = K := by rfl)
    (hbase : attributeBase o name X.env (eval o X.env) = eval o X.env := by rfl)
    (hfew : ((backTo cpos (starEach (e :: es) X.env)).all (fun x => !x.1) && (backToKw cpos (keywordEach [] X.env)).all (fun x => x.1.isSome)
      && decide ((e :: es).length + ([] : List Keyword).length + (if ([] : List Keyword).isEmpty then 0 else 1) < 30)) = true := by rfl)
    (hline : (apos.endLine == cpos.line) = true := by rfl) (hs : starEach (e :: es) X.env = (false, eval e X.env) :: starEach es X.env := by rfl) (hplain : (backTo cpos (starEach es X.env)).any (·.1) = false := by rfl) :
    PE X (.Call (.Attribute o name apos) (e :: es) [] cpos) (tBM K T r to t) := hK ▸ pe_bm pa slot hty hm ho ha hbase hfew hline hs hplain
theorem kCall {k j : Nat} {x : Str} {ps : List Str} {C : Ct} {f : Addr} {fd : FuncData} {e : Expr} {es : List Expr} {t : TA} {p pos : Pos} (d : Df X.prog X.w K X.mg X.base x k ps C f fd) (hr : Room j X.A) (hk : k ≤ j) (hg : Gl X x) (ha : PA X (e :: es) t) (hK : X.K = K := by rfl)
    (hdb : (x == ("__debug__" : Str)) = false := by decide) (hst : starEach (e :: es) X.env = (false, eval e X.env) :: starEach es X.env := by rfl) (hpl : (backTo pos (starEach es X.env)).any (·.1) = false := by rfl) :
    PE X (.Call (.Name x p) (e :: es) [] pos) (tCall (spC K C) [] E0 t) := by
  subst hK
  exact pe_callD d hr hk hg ha hdb hst hpl
end
end DL

namespace DL
open PySem PySem.Spec PyProof.Rows L2

/-! ## operations on data -/
def scD : PyData → PyData → Bool
  | .none, .none => true | .none, .int _ => true | .int _, .none => true | .none, .bool _ => true | .bool _, .none => true | .none, .str _ => true | .str _, .none => true
  | .int _, .int _ => true | .bool _, .bool _ => true | .str _, .str _ => true
  | .int _, .str _ => true | .str _, .int _ => true | .bool _, .str _ => true | .str _, .bool _ => true
  | _, _ => false
def eqS : PyData → PyData → Bool
  | .none, .none => true
  | .int i, .int j => decide (i = j)
  | .bool i, .bool j => decide (i = j)
  | .str i, .str j => decide (i = j)
  | _, _ => false
def isNone : PyData → Bool
  | .none => true
  | _ => false
def cutL {α : Type} (xs : List α) (lo hi : Option Int) : List α := (xs.drop (HT.sIx xs.length 0 lo)).take (HT.sIx xs.length xs.length hi - HT.sIx xs.length 0 lo)
theorem cutL_length {α : Type} (xs : List α) (lo hi : Option Int) : (cutL xs lo hi).length ≤ xs.length := by
  unfold cutL
  rw [List.length_take, List.length_drop]
  omega
theorem sz1 {n : Nat} (h : n ≤ 1000000) : n ≤ sizeLine := by
  rw [sizeLine_eq]
  omega
theorem sz2 {n : Nat} (h : n ≤ 1000000) : n < sizeLine := by
  rw [sizeLine_eq]
  omega
theorem decide_iff {p q : Prop} [Decidable p] [Decidable q] (h : p ↔ q) : decide p = decide q := by
  by_cases hp : p
  · rw [decide_eq_true hp, decide_eq_true (h.mp hp)]
  · rw [decide_eq_false hp, decide_eq_false fun hq => hp (h.mpr hq)]
section
variable {K : PySem.W.Frag} {S : List Sl} {R : Vx → List Sl → Prop} {RO : Own → List Sl → Prop} {RT : Bool → List Sl → Prop}
theorem atI_reps {F : Hp} {vs : List V} {ds : List PyData} (r : Reps K F vs ds) {i : Int} {d : PyData} (h : atI ds i = some d) : ∃ v, atI vs i = some v ∧ Rep K F v d := by
  unfold atI at h ⊢
  rw [r.length]
  cases q : ixN ds.length i with
  | none => rw [q] at h; cases h
  | some j =>
    rw [q] at h
    obtain ⟨v, h1, h2⟩ := r.get (show ds[j]? = some d from h)
    exact ⟨v, h1, h2⟩
theorem cut_reps {F : Hp} {vs : List V} {ds : List PyData} (r : Reps K F vs ds) (lo hi : Option Int) : Reps K F (cutV vs lo hi) (cutL ds lo hi) := by
  unfold cutV cutL
  rw [r.length]
  exact (r.drop _).take _
/-! ints -/
theorem rr_addI {i j : Int} (q : R (.dat (.int (i + j))) S) : RR K (uAddR K) (.dat (.int i)) (.dat (.int j)) S R := fun e F H σ v u w rx ry Q k => by
  cases rx
  cases ry
  exact .inl ⟨i, j, rfl, rfl, k _ (.dat _) S F H w (Same.refl _) (.int _) q⟩
theorem rr_addS {i j : Str} (h : i.length + j.length ≤ 1000000) (q : R (.dat (.str (i ++ j))) S) : RR K (uAddR K) (.dat (.str i)) (.dat (.str j)) S R := fun e F H σ v u w rx ry Q k => by
  cases rx
  cases ry
  exact .inr (.inl ⟨i, j, rfl, rfl, sz1 h, k _ (.dat _) S F H w (Same.refl _) (.str _) q⟩)
theorem rr_addT {xs ys : List PyData} (h : xs.length + ys.length ≤ 1000000) (q : R (.dat (.tuple (xs ++ ys))) S) : RR K (uAddR K) (.dat (.tuple xs)) (.dat (.tuple ys)) S R := fun e F H σ v u w rx ry Q k => by
  cases rx with
  | tup hx r1 =>
    cases ry with
    | tup hy r2 =>
      have l1 := r1.length
      have l2 := r2.length
      refine .inr (.inr (.inr ⟨_, _, _, _, rfl, rfl, Same.tupU w.sub hx, Same.tupU w.sub hy, sz1 (by rw [l1, l2]; exact h), fun z => ?_, fun z1 z2 => ?_, fun _ _ p hp => ?_⟩))
      · subst z
        cases r1
        exact k _ (.dat _) S F H w (Same.refl _) (.tup hy r2) q
      · subst z2
        cases r2
        rw [List.append_nil] at q
        exact k _ (.dat _) S F H w (Same.refl _) (.tup hx r1) q
      · have nf : F p = none := w.sub.free hp
        exact k _ (.dat _) S _ _ (w.laid (o := .tup _) hp) (same_new nf) (.tup (.inl upd_same) ((r1.append r2).mono (same_new nf))) q
/-- two lists: an owned one or data -/
def lstSl : Option Sl → Option (List PyData)
  | some (.own _ _ (.lst ds)) => some ds
  | _ => none
def lstOf (S : List Sl) : Vx → Option (List PyData)
  | .dat (.list ds) => some ds
  | .ptr i => lstSl S[i]?
  | _ => none
def LstAt (S : List Sl) (ds : List PyData) (x : Vx) : Prop := lstOf S x = some ds
theorem LstAt.get {e : En} {F H : Hp} {σ : L2.St} {v : V} {ds : List PyData} {x : Vx} (w : Wd K e F H σ S) (r : RepX K F σ v x) (h : LstAt S ds x) : ∃ a xs, v = .ref a ∧ H a = some (.lst xs) ∧ Reps K F xs ds := by
  cases x with
  | dat d =>
    cases d with
    | list ds' =>
      have h2 : some ds' = some ds := h
      cases h2
      cases r with
      | lst h1 r1 => exact ⟨_, _, rfl, w.sub _ _ h1, r1⟩
    | _ => cases h
  | ptr i =>
    have h2 : lstSl S[i]? = some ds := h
    obtain ⟨m, a, hi⟩ : ∃ m a, S[i]? = some (.own m a (.lst ds)) := by
      cases q : S[i]? with
      | none => rw [q] at h2; cases h2
      | some s =>
        rw [q] at h2
        cases s with
        | own m a o =>
          cases o with
          | lst ds' =>
            cases h2
            exact ⟨m, a, rfl⟩
          | _ => cases h2
        | _ => cases h2
    obtain ⟨h1, _, _, xs, h4, h5⟩ := w.slots i _ hi
    have h6 : σ[i]? = some (some v) := r
    rw [h1] at h6
    cases h6
    exact ⟨a, xs, rfl, h4, h5⟩
theorem rn_addL {x y : Vx} {xs ys : List PyData} (hx : LstAt S xs x) (hy : LstAt S ys y) (h : xs.length + ys.length ≤ 1000000) (q : RO (.lst (xs ++ ys)) S) : RN K (uAddR K) x y S RO := fun e F H σ v u w rx ry Q k => by
  obtain ⟨a, vs, rfl, ha, r1⟩ := hx.get w rx
  obtain ⟨b, us, rfl, hb, r2⟩ := hy.get w ry
  refine .inr (.inr (.inl ⟨a, b, vs, us, rfl, rfl, ha, hb, sz1 (by rw [r1.length, r2.length]; exact h), fun p hp => ?_⟩))
  exact k p (.lst _) S F _ (w.fresh hp) (Same.refl _) (w.sub.free hp) (w.n0 hp) ⟨_, upd_same, r1.append r2⟩ (w.no hp) q
theorem rr_sub {i j : Int} (q : R (.dat (.int (i - j))) S) : RR K (rI0 fun i j => .int (i - j)) (.dat (.int i)) (.dat (.int j)) S R := fun e F H σ v u w rx ry Q k => by
  cases rx
  cases ry
  exact ⟨i, j, rfl, rfl, k _ (.dat _) S F H w (Same.refl _) (.int _) q⟩
theorem rr_mulI {i j : Int} (h : CMul i j) (q : R (.dat (.int (i * j))) S) : RR K (uMulR K) (.dat (.int i)) (.dat (.int j)) S R := fun e F H σ v u w rx ry Q k => by
  cases rx
  cases ry
  exact .inl ⟨i, j, rfl, rfl, h, k _ (.dat _) S F H w (Same.refl _) (.int _) q⟩
theorem rr_mulW {i j : Int} (h : CMulW i j) (q : R (.dat (.int (i * j))) S) : RR K (uMulR K) (.dat (.int i)) (.dat (.int j)) S R := fun e F H σ v u w rx ry Q k => by
  cases rx
  cases ry
  exact .inr (.inl ⟨i, j, rfl, rfl, h, k _ (.dat _) S F H w (Same.refl _) (.int _) q⟩)
theorem rr_mulS {z : Str} {n : Int} (h : -1000000 ≤ n ∧ n ≤ 1000000 ∧ z.length ≤ 10) (q : R (.dat (.str (repS z n))) S) : RR K (uMulR K) (.dat (.str z)) (.dat (.int n)) S R := fun e F H σ v u w rx ry Q k => by
  cases rx
  cases ry
  exact .inr (.inr (.inr ⟨z, n, rfl, rfl, h, k _ (.dat _) S F H w (Same.refl _) (.str _) q⟩))
theorem rn_rep {x : Vx} {xs : List PyData} {n : Int} (hx : LstAt S xs x) (h1 : -1000000 ≤ n) (h2 : n ≤ 1000000) (h : xs.length * n.toNat ≤ 1000000) (q : RO (.lst (List.replicate n.toNat xs).flatten) S) : RN K (uMulR K) x (.dat (.int n)) S RO := fun e F H σ v u w rx ry Q k => by
  obtain ⟨a, vs, rfl, ha, r1⟩ := hx.get w rx
  cases ry
  refine .inr (.inr (.inl ⟨a, n, vs, rfl, rfl, ha, by omega, by omega, sz1 (by rw [r1.length]; exact h), fun p hp => ?_⟩))
  exact k p (.lst _) S F _ (w.fresh hp) (Same.refl _) (w.sub.free hp) (w.n0 hp) ⟨_, upd_same, r1.rep n.toNat⟩ (w.no hp) q
theorem rr_fdiv {i j : Int} (h : 0 < j ∧ j < 1073741824) (q : R (.dat (.int (i / j))) S) : RR K (rI CDiv fun i j => .int (i / j)) (.dat (.int i)) (.dat (.int j)) S R := fun e F H σ v u w rx ry Q k => by
  cases rx
  cases ry
  exact ⟨i, j, rfl, rfl, h, k _ (.dat _) S F H w (Same.refl _) (.int _) q⟩
theorem rr_mod {i j : Int} (h : 0 < j) (q : R (.dat (.int (i % j))) S) : RR K (rI (fun _ j => 0 < j) fun i j => .int (i % j)) (.dat (.int i)) (.dat (.int j)) S R := fun e F H σ v u w rx ry Q k => by
  cases rx
  cases ry
  exact ⟨i, j, rfl, rfl, h, k _ (.dat _) S F H w (Same.refl _) (.int _) q⟩
theorem rr_pow {i j : Int} (h : CPow i j) (q : R (.dat (.int (i ^ j.toNat))) S) : RR K (rI CPow fun i j => .int (i ^ j.toNat)) (.dat (.int i)) (.dat (.int j)) S R := fun e F H σ v u w rx ry Q k => by
  cases rx
  cases ry
  exact ⟨i, j, rfl, rfl, h, k _ (.dat _) S F H w (Same.refl _) (.int _) q⟩
theorem rr_lt {i j : Int} (q : R (.dat (.bool (decide (i < j)))) S) : RR K (rI0 fun i j => .bl (decide (i < j))) (.dat (.int i)) (.dat (.int j)) S R := fun e F H σ v u w rx ry Q k => by
  cases rx
  cases ry
  exact ⟨i, j, rfl, rfl, k _ (.dat _) S F H w (Same.refl _) (.bl _) q⟩
theorem rr_le {i j : Int} (q : R (.dat (.bool (decide (i ≤ j)))) S) : RR K (rI0 fun i j => .bl (decide (i ≤ j))) (.dat (.int i)) (.dat (.int j)) S R := fun e F H σ v u w rx ry Q k => by
  cases rx
  cases ry
  exact ⟨i, j, rfl, rfl, k _ (.dat _) S F H w (Same.refl _) (.bl _) q⟩
theorem rr_gt {i j : Int} (q : R (.dat (.bool (decide (j < i)))) S) : RR K (rI0 fun i j => .bl (decide (j < i))) (.dat (.int i)) (.dat (.int j)) S R := fun e F H σ v u w rx ry Q k => by
  cases rx
  cases ry
  exact ⟨i, j, rfl, rfl, k _ (.dat _) S F H w (Same.refl _) (.bl _) q⟩
theorem rr_ge {i j : Int} (q : R (.dat (.bool (decide (j ≤ i)))) S) : RR K (rI0 fun i j => .bl (decide (j ≤ i))) (.dat (.int i)) (.dat (.int j)) S R := fun e F H σ v u w rx ry Q k => by
  cases rx
  cases ry
  exact ⟨i, j, rfl, rfl, k _ (.dat _) S F H w (Same.refl _) (.bl _) q⟩
/-! == -/
theorem sc_rep {F : Hp} {v u : V} {a b : PyData} (ra : Rep K F v a) (rb : Rep K F u b) (h : scD a b = true) : scal v u = true ∧ decide (v = u) = eqS a b := by
  cases ra <;> cases rb <;> first | (exact ⟨rfl, rfl⟩) | (cases h; done) | (refine ⟨rfl, ?_⟩; exact decide_iff ⟨fun z => by cases z; rfl, fun z => by subst z; rfl⟩) | (refine ⟨rfl, decide_eq_false fun z => ?_⟩; cases z)
theorem rr_eqS {a b : PyData} (h : scD a b = true) (q : R (.dat (.bool (eqS a b))) S) : RR K (uEqR K) (.dat a) (.dat b) S R := fun e F H σ v u w rx ry Q k => by
  obtain ⟨h1, h2⟩ := sc_rep rx ry h
  exact .inl ⟨h1, k _ (.dat (.bool (eqS a b))) S F H w (Same.refl _) (by rw [h2]; exact .bl _) q⟩
theorem rr_neS {a b : PyData} (h : scD a b = true) (q : R (.dat (.bool (!eqS a b))) S) : RR K (uNeR K) (.dat a) (.dat b) S R := fun e F H σ v u w rx ry Q k => by
  obtain ⟨h1, h2⟩ := sc_rep rx ry h
  exact .inl ⟨h1, k _ (.dat (.bool (!eqS a b))) S F H w (Same.refl _) (by rw [h2]; exact .bl _) q⟩
def okD (d : PyData) : Bool := plain d && SeqAt.shaped d
theorem okD_p {d : PyData} (h : okD d = true) : plain d = true := (Bool.and_eq_true_iff.mp h).1
theorem okD_s {d : PyData} (h : okD d = true) : SeqAt.shaped d = true := (Bool.and_eq_true_iff.mp h).2
theorem dp_mono {F F' : Hp} (m : Same F F') {v : V} {d : PyData} (p : plain d = true) (r : Rep K F v d) : Dp K F' v d := Rep.dp p (r.mono m)
theorem rr_eqD {a b : PyData} (ha : okD a = true) (hb : okD b = true) (q : R (.dat (.bool (PyData.eqv a b))) S) : RR K (uEqR K) (.dat a) (.dat b) S R := fun e F H σ v u w rx ry Q k =>
  .inr ⟨a, b, dp_mono w.sub (okD_p ha) rx, dp_mono w.sub (okD_p hb) ry, okD_s ha, okD_s hb, k _ (.dat (.bool _)) S F H w (Same.refl _) (.bl _) q⟩
theorem rr_neD {a b : PyData} (ha : okD a = true) (hb : okD b = true) (q : R (.dat (.bool (!PyData.eqv a b))) S) : RR K (uNeR K) (.dat a) (.dat b) S R := fun e F H σ v u w rx ry Q k =>
  .inr ⟨a, b, dp_mono w.sub (okD_p ha) rx, dp_mono w.sub (okD_p hb) ry, okD_s ha, okD_s hb, k _ (.dat (.bool _)) S F H w (Same.refl _) (.bl _) q⟩
theorem dpAll_ints {H : Hp} : ∀ ns : List Int, DpAll K H (ns.map V.int) (ns.map PyData.int)
  | [] => .nil
  | n :: ns => .cons (.int n) (dpAll_ints ns)
theorem rr_eqScr {i : Nat} {m : Bool} {a : Addr} {ns : List Int} (h : S[i]? = some (.own m a (.scr ns))) (hs : SeqAt.shaped (.list (ns.map PyData.int)) = true) (q : R (.dat (.bool (decide (ns = [])))) S) : RR K (uEqR K) (.ptr i) (.dat (.list [])) S R := fun e F H σ v u w rx ry Q k => by
  obtain ⟨h1, _, _, _, h5⟩ := w.slots i _ h
  have h6 : σ[i]? = some (some v) := rx
  rw [h1] at h6
  cases h6
  refine .inr ⟨.list (ns.map PyData.int), .list [], .lst h5 (dpAll_ints ns), dp_mono w.sub rfl ry, hs, rfl, k _ (.dat (.bool _)) S F H w (Same.refl _) (.bl _) ?_⟩
  have e : PyData.eqv (.list (ns.map PyData.int)) (.list []) = decide (ns = []) := by
    cases ns with
    | nil => simp [PyData.eqv, PyData.eqvAll]
    | cons a b => simp [PyData.eqv, PyData.eqvAll]
  rw [e]
  exact q
/-! is -/
theorem non_iff {F : Hp} {v : V} {d : PyData} (r : Rep K F v d) : decide (v = V.non) = isNone d := by
  cases r <;> first | rfl | (exact decide_eq_false fun z => by cases z)
theorem rr_isN {d : PyData} (q : R (.dat (.bool (isNone d))) S) : RR K uIsR (.dat d) (.dat .none) S R := fun e F H σ v u w rx ry Q k => by
  cases ry
  refine .inl ⟨rfl, k _ (.dat (.bool (isNone d))) S F H w (Same.refl _) ?_ q⟩
  rw [non_iff rx]
  exact .bl _
theorem rr_notN {d : PyData} (q : R (.dat (.bool (!isNone d))) S) : RR K uIsNotR (.dat d) (.dat .none) S R := fun e F H σ v u w rx ry Q k => by
  cases ry
  refine .inl ⟨rfl, k _ (.dat (.bool (!isNone d))) S F H w (Same.refl _) ?_ q⟩
  rw [non_iff rx]
  exact .bl _
theorem rr_isB {a b : Bool} (q : R (.dat (.bool (decide (a = b)))) S) : RR K uIsR (.dat (.bool a)) (.dat (.bool b)) S R := fun e F H σ v u w rx ry Q k => by
  cases rx
  cases ry
  exact .inr ⟨a, b, rfl, rfl, k _ (.dat (.bool _)) S F H w (Same.refl _) (.bl _) q⟩
theorem rr_notB {a b : Bool} (q : R (.dat (.bool (!decide (a = b)))) S) : RR K uIsNotR (.dat (.bool a)) (.dat (.bool b)) S R := fun e F H σ v u w rx ry Q k => by
  cases rx
  cases ry
  exact .inr ⟨a, b, rfl, rfl, k _ (.dat (.bool _)) S F H w (Same.refl _) (.bl _) q⟩
/-! in -/
theorem rr_inSign {c : Nat} {z : Str} (q : R (.dat (.bool (decide (c ∈ z.cps.toList)))) S) : RR K (uInR K) (.dat (.str ⟨#[c]⟩)) (.dat (.str z)) S R := fun e F H σ v u w rx ry Q k => by
  cases rx
  cases ry
  exact .inr (.inl ⟨c, z, rfl, rfl, k _ (.dat (.bool _)) S F H w (Same.refl _) (.bl _) q⟩)
theorem inV_strs (z : Str) : ∀ xs : List Str, inV (.str z) (xs.map V.str) = decide (z ∈ xs)
  | [] => by simp [inV]
  | x :: xs => by
    have ih := inV_strs z xs
    unfold inV at ih ⊢
    rw [List.map_cons, List.any_cons, ih]
    show (x == z || _) = _
    by_cases h : x = z
    · subst h
      simp
    · have h2 : (x == z) = false := by simpa using h
      rw [h2, Bool.false_or]
      apply decide_iff
      simp [Ne.symm h]
theorem flat_strs (xs : List Str) : (xs.map V.str).all flatV = true := by
  rw [List.all_map]
  exact List.all_eq_true.mpr fun _ _ => rfl
theorem rr_inT {z : Str} {xs : List Str} (q : R (.dat (.bool (decide (z ∈ xs)))) S) : RR K (uInR K) (.dat (.str z)) (.dat (.tuple (xs.map PyData.str))) S R := fun e F H σ v u w rx ry Q k => by
  cases rx
  cases ry with
  | tup h r =>
    have e1 := r.str_inv
    subst e1
    refine .inl ⟨_, _, rfl, .inr (Same.tupU w.sub h), rfl, flat_strs xs, ?_⟩
    refine k _ (.dat (.bool (decide (z ∈ xs)))) S F H w (Same.refl _) ?_ q
    show Rep K F (.bl (if false = true then !inV (.str z) (xs.map V.str) else inV (.str z) (xs.map V.str))) _
    rw [if_neg (by simp), inV_strs]
    exact .bl _
/-- z in a constant of the module -/
theorem ee_inC {u : Addr} {xs : List Str} (hc : ∀ H, SqT K H u (xs.map V.str)) {ta : TE} (h : EE K ta S fun x S1 => ∃ z, x = .dat (.str z) ∧ R (.dat (.bool (decide (z ∈ xs)))) S1) : EE K (tOp (uInR K) ta (tC (.ref u))) S R := fun e F H σ w Q k =>
  h e F H σ w _ fun v x S1 F1 H1 w1 m1 r1 ⟨z, e1, q⟩ => by
    subst e1
    cases r1
    refine .inl ⟨_, _, rfl, .inr (hc H1), rfl, flat_strs xs, ?_⟩
    refine k _ (.dat (.bool (decide (z ∈ xs)))) S1 F1 H1 w1 m1 ?_ q
    show Rep K F1 (.bl (if false = true then !inV (.str z) (xs.map V.str) else inV (.str z) (xs.map V.str))) _
    rw [if_neg (by simp), inV_strs]
    exact .bl _
/-! o[i] -/
theorem rr_ixT {xs : List PyData} {i : Int} {d : PyData} (h : atI xs i = some d) (q : R (.dat d) S) : RR K (rIx K) (.dat (.tuple xs)) (.dat (.int i)) S R := fun e F H σ v u w rx ry Q k => by
  cases ry
  cases rx with
  | tup hx r =>
    obtain ⟨v, h1, h2⟩ := atI_reps r h
    exact .inr (.inl ⟨_, _, i, v, rfl, rfl, Same.tupU w.sub hx, h1, k _ (.dat d) S F H w (Same.refl _) h2 q⟩)
theorem rr_ixL {x : Vx} {xs : List PyData} {i : Int} {d : PyData} (hx : LstAt S xs x) (h : atI xs i = some d) (q : R (.dat d) S) : RR K (rIx K) x (.dat (.int i)) S R := fun e F H σ v u w rx ry Q k => by
  cases ry
  obtain ⟨a, vs, rfl, ha, r⟩ := hx.get w rx
  obtain ⟨v, h1, h2⟩ := atI_reps r h
  exact .inl ⟨_, _, i, v, rfl, rfl, SqL.of ha, h1, k _ (.dat d) S F H w (Same.refl _) h2 q⟩
theorem rr_ixS {z : Str} {i : Int} {c : Nat} (hz : z.length ≤ 1000000) (h : atI z.cps.toList i = some c) (q : R (.dat (.str ⟨#[c]⟩)) S) : RR K (rIx K) (.dat (.str z)) (.dat (.int i)) S R := fun e F H σ v u w rx ry Q k => by
  cases ry
  cases rx
  exact .inr (.inr ⟨z, i, c, rfl, rfl, sz1 hz, h, k _ (.dat (.str _)) S F H w (Same.refl _) (.str _) q⟩)
theorem rr_ixScr {i : Nat} {m : Bool} {a : Addr} {ns : List Int} {j n : Int} (h : S[i]? = some (.own m a (.scr ns))) (hn : atI ns j = some n) (q : R (.dat (.int n)) S) : RR K (rIx K) (.ptr i) (.dat (.int j)) S R := fun e F H σ v u w rx ry Q k => by
  cases ry
  obtain ⟨h1, _, _, _, h5⟩ := w.slots i _ h
  have h6 : σ[i]? = some (some v) := rx
  rw [h1] at h6
  cases h6
  refine .inl ⟨_, _, j, .int n, rfl, rfl, h5, ?_, k _ (.dat (.int n)) S F H w (Same.refl _) (.int n) q⟩
  unfold atI at hn ⊢
  rw [List.length_map]
  cases z : ixN ns.length j with
  | none => rw [z] at hn; cases hn
  | some l =>
    rw [z] at hn
    show (ns.map V.int)[l]? = _
    rw [List.getElem?_map, show ns[l]? = some n from hn]
    rfl
/-! slices -/
theorem rs_S {z : Str} {lo hi : Option Int} (hz : z.length ≤ 1000000) (q : R (.dat (.str (cutS z lo hi))) S) : RS K (uSlR K) (.dat (.str z)) lo hi S R := fun e F H σ v w rx Q k => by
  cases rx
  exact .inr (.inl ⟨z, rfl, sz1 hz, k _ (.dat (.str _)) S F H w (Same.refl _) (.str _) q⟩)
theorem rs_L {x : Vx} {xs : List PyData} {lo hi : Option Int} (hx : LstAt S xs x) (q : R (.dat (.list (cutL xs lo hi))) S) : RS K (uSlR K) x lo hi S R := fun e F H σ v w rx Q k => by
  obtain ⟨a, vs, rfl, ha, r⟩ := hx.get w rx
  refine .inl ⟨_, _, rfl, SqL.of ha, fun p hp => ?_⟩
  have nf : F p = none := w.sub.free hp
  exact k _ (.dat (.list _)) S _ _ (w.laid (o := .lst _) hp) (same_new nf) (.lst upd_same ((cut_reps r lo hi).mono (same_new nf))) q
theorem cut_whole {α : Type} {xs : List α} {lo hi : Option Int} (h : HT.sIx xs.length 0 lo = 0 ∧ HT.sIx xs.length xs.length hi = xs.length) : cutL xs lo hi = xs := by
  unfold cutL
  rw [h.1, h.2, List.drop_zero, Nat.sub_zero, List.take_length]
theorem rs_T {xs : List PyData} {lo hi : Option Int} (q : R (.dat (.tuple (cutL xs lo hi))) S) : RS K (uSlR K) (.dat (.tuple xs)) lo hi S R := fun e F H σ v w rx Q k => by
  cases rx with
  | tup hx r =>
    refine .inr (.inr ⟨_, _, rfl, Same.tupU w.sub hx, fun z => ?_, fun _ p hp => ?_⟩)
    · rw [r.length] at z
      rw [cut_whole z] at q
      exact k _ (.dat _) S F H w (Same.refl _) (.tup hx r) q
    · have nf : F p = none := w.sub.free hp
      exact k _ (.dat (.tuple _)) S _ _ (w.laid (o := .tup _) hp) (same_new nf) (.tup (.inl upd_same) ((cut_reps r lo hi).mono (same_new nf))) q
/-! calls -/
theorem rb_lenT {xs : List PyData} (q : R (.dat (.int xs.length)) S) : RB K (uLenR K) [.dat (.tuple xs)] S R := fun e F H σ vs w rx Q k => by
  cases rx with
  | cons rx r0 =>
    cases r0
    cases rx with
    | tup hx r => exact .inl ⟨_, _, rfl, .inr ⟨_, Same.tupU w.sub hx, rfl⟩, k _ (.dat (.int _)) S F H w (Same.refl _) (by rw [r.length]; exact .int _) q⟩
theorem rb_lenL {x : Vx} {xs : List PyData} (hx : LstAt S xs x) (q : R (.dat (.int xs.length)) S) : RB K (uLenR K) [x] S R := fun e F H σ vs w rx Q k => by
  cases rx with
  | cons rx r0 =>
    cases r0
    obtain ⟨a, vs, rfl, ha, r⟩ := hx.get w rx
    exact .inl ⟨_, _, rfl, .inl ⟨_, SqL.of ha, rfl⟩, k _ (.dat (.int _)) S F H w (Same.refl _) (by rw [r.length]; exact .int _) q⟩
theorem rb_lenS {z : Str} (hz : z.length ≤ 1000000) (q : R (.dat (.int z.length)) S) : RB K (uLenR K) [.dat (.str z)] S R := fun e F H σ vs w rx Q k => by
  cases rx with
  | cons rx r0 =>
    cases r0
    cases rx
    exact .inl ⟨_, _, rfl, ⟨sz1 hz, rfl⟩, k _ (.dat (.int _)) S F H w (Same.refl _) (.int _) q⟩
theorem rb_lenScr {i : Nat} {m : Bool} {a : Addr} {ns : List Int} (h : S[i]? = some (.own m a (.scr ns))) (q : R (.dat (.int ns.length)) S) : RB K (uLenR K) [.ptr i] S R := fun e F H σ vs w rx Q k => by
  cases rx with
  | cons rx r0 =>
    cases r0
    obtain ⟨h1, _, _, _, h5⟩ := w.slots i _ h
    have h6 : σ[i]? = some (some _) := rx
    rw [h1] at h6
    cases h6
    exact .inl ⟨_, _, rfl, .inl ⟨_, h5, rfl⟩, k _ (.dat (.int _)) S F H w (Same.refl _) (by rw [List.length_map]; exact .int _) q⟩
theorem rb_max2 {i j : Int} (q : R (.dat (.int (max i j))) S) : RB K (fun xs H Q => ∃ i j, xs = [V.int i, V.int j] ∧ Q (.int (if j > i then j else i)) H) [.dat (.int i), .dat (.int j)] S R := fun e F H σ vs w rx Q k => by
  cases rx with
  | cons r1 rx =>
    cases rx with
    | cons r2 rx =>
      cases rx
      cases r1
      cases r2
      refine ⟨i, j, rfl, k _ (.dat (.int (max i j))) S F H w (Same.refl _) ?_ q⟩
      have e : (if j > i then j else i) = max i j := by
        split <;> omega
      rw [e]
      exact .int _
theorem rb_min2 {i j : Int} (q : R (.dat (.int (min i j))) S) : RB K (fun xs H Q => ∃ i j, xs = [V.int i, V.int j] ∧ Q (.int (if j < i then j else i)) H) [.dat (.int i), .dat (.int j)] S R := fun e F H σ vs w rx Q k => by
  cases rx with
  | cons r1 rx =>
    cases rx with
    | cons r2 rx =>
      cases rx
      cases r1
      cases r2
      refine ⟨i, j, rfl, k _ (.dat (.int (min i j))) S F H w (Same.refl _) ?_ q⟩
      have e : (if j < i then j else i) = min i j := by
        split <;> omega
      rw [e]
      exact .int _
theorem rb_all {bs : List Bool} (q : R (.dat (.bool (bs.all id))) S) : RB K (rAll K) [.dat (.list (bs.map PyData.bool))] S R := fun e F H σ vs w rx Q k => by
  cases rx with
  | cons rx r0 =>
    cases r0
    cases rx with
    | lst h r =>
      have e1 := r.bl_inv
      subst e1
      exact ⟨_, bs, rfl, SqL.of (w.sub _ _ h), k _ (.dat (.bool _)) S F H w (Same.refl _) (.bl _) q⟩
theorem rb_any {bs : List Bool} (q : R (.dat (.bool (bs.any id))) S) : RB K (rAny K) [.dat (.list (bs.map PyData.bool))] S R := fun e F H σ vs w rx Q k => by
  cases rx with
  | cons rx r0 =>
    cases r0
    cases rx with
    | lst h r =>
      have e1 := r.bl_inv
      subst e1
      exact ⟨_, bs, rfl, SqL.of (w.sub _ _ h), k _ (.dat (.bool _)) S F H w (Same.refl _) (.bl _) q⟩
theorem rb_sum {ns : List Int} (q : R (.dat (.int ns.sum)) S) : RB K (rSumU K) [.dat (.list (ns.map PyData.int))] S R := fun e F H σ vs w rx Q k => by
  cases rx with
  | cons rx r0 =>
    cases r0
    cases rx with
    | lst h r =>
      have e1 := r.int_inv
      subst e1
      exact ⟨_, ns, rfl, .inl (SqL.of (w.sub _ _ h)), k _ (.dat (.int _)) S F H w (Same.refl _) (.int _) q⟩
theorem rb_sumT {ns : List Int} (q : R (.dat (.int ns.sum)) S) : RB K (rSumU K) [.dat (.tuple (ns.map PyData.int))] S R := fun e F H σ vs w rx Q k => by
  cases rx with
  | cons rx r0 =>
    cases r0
    cases rx with
    | tup h r =>
      have e1 := r.int_inv
      subst e1
      exact ⟨_, ns, rfl, .inr (Same.tupU w.sub h), k _ (.dat (.int _)) S F H w (Same.refl _) (.int _) q⟩
theorem rb_tupleL {x : Vx} {xs : List PyData} (hx : LstAt S xs x) (q : R (.dat (.tuple xs)) S) : RB K (rTupleOf K) [x] S R := fun e F H σ vs w rx Q k => by
  cases rx with
  | cons rx r0 =>
    cases r0
    obtain ⟨a, vs, rfl, ha, r⟩ := hx.get w rx
    refine ⟨_, _, rfl, .inl ⟨SqL.of ha, fun p hp => ?_⟩⟩
    have nf : F p = none := w.sub.free hp
    exact k _ (.dat (.tuple _)) S _ _ (w.laid (o := .tup _) hp) (same_new nf) (.tup (.inl upd_same) (r.mono (same_new nf))) q
theorem rb_tupleT {xs : List PyData} (q : R (.dat (.tuple xs)) S) : RB K (rTupleOf K) [.dat (.tuple xs)] S R := fun e F H σ vs w rx Q k => by
  cases rx with
  | cons rx r0 =>
    cases r0
    cases rx with
    | tup hx r => exact ⟨_, _, rfl, .inr ⟨Same.tupU w.sub hx, k _ (.dat (.tuple _)) S F H w (Same.refl _) (.tup hx r) q⟩⟩
theorem rbn_listL {x : Vx} {xs : List PyData} (hx : LstAt S xs x) (q : RO (.lst xs) S) : RBN K (uListR K) [x] S RO := fun e F H σ vs w rx Q k => by
  cases rx with
  | cons rx r0 =>
    cases r0
    obtain ⟨a, vs, rfl, ha, r⟩ := hx.get w rx
    exact .inl ⟨_, _, rfl, .inl (SqL.of ha), fun p hp => k p (.lst _) S F _ (w.fresh hp) (Same.refl _) (w.sub.free hp) (w.n0 hp) ⟨_, upd_same, r⟩ (w.no hp) q⟩
theorem rbn_listT {xs : List PyData} (q : RO (.lst xs) S) : RBN K (uListR K) [.dat (.tuple xs)] S RO := fun e F H σ vs w rx Q k => by
  cases rx with
  | cons rx r0 =>
    cases r0
    cases rx with
    | tup hx r => exact .inl ⟨_, _, rfl, .inr (Same.tupU w.sub hx), fun p hp => k p (.lst _) S F _ (w.fresh hp) (Same.refl _) (w.sub.free hp) (w.n0 hp) ⟨_, upd_same, r⟩ (w.no hp) q⟩
end
end DL

namespace DL
open PySem PySem.Spec PyProof.Rows L2 RZ

/-! ## further readings over data -/
def tyN : PyData → String
  | .none => "NoneType"
  | .bool _ => "bool"
  | .int _ => "int"
  | .str _ => "str"
  | .list _ => "list"
  | .tuple _ => "tuple"
  | .dict _ => "dict"
theorem tyX_of {K : PySem.W.Frag} {F H : Hp} (m : Same F H) {v : V} {d : PyData} (r : Rep K F v d) : TyX K H v (.type (tyN d)) := by
  cases r with
  | non => exact .base .non
  | bl b => exact .base (.bl b)
  | int i => exact .base (.int i)
  | str x => exact .base (.str x)
  | lst h _ => exact .base (.lst (m _ _ h))
  | tup h _ =>
    rcases h.sq with (h | ⟨o, h⟩) | ⟨o, its, n, h1, h2, _⟩
    · exact .base (.tup (m _ _ h))
    · exact .fTuple (m _ _ h)
    · exact .kTuple h1 h2
  | dk h _ => exact .base (.dK (m _ _ h))
  | dt h _ => exact .base (.dT (m _ _ h))
  | dl h _ => exact .fDict (m _ _ h)
/-- truth of data -/
def truD : PyData → Bool
  | .none => false
  | .bool b => b
  | .int i => i != 0
  | .str z => (z.length : Int) != 0
  | .list xs => !xs.isEmpty
  | .tuple xs => !xs.isEmpty
  | .dict xs => !xs.isEmpty
section
variable {K : PySem.W.Frag} {S : List Sl} {R : Vx → List Sl → Prop} {RO : Own → List Sl → Prop} {RT : Bool → List Sl → Prop} {ta tb te : TE}
theorem ee_isi {n : String} (h : EE K ta S fun x S1 => ∃ d b, x = .dat d ∧ kitB (tyN d) n = some b ∧ R (.dat (.bool b)) S1) : EE K (tCB (rIsi K) (tCons ta (tCons (tC (.ty n)) tNil))) S R := fun e F H σ w Q k =>
  h e F H σ w _ fun v x S1 F1 H1 w1 m1 r1 ⟨d, b, e1, hb, q⟩ => by
    subst e1
    exact ⟨v, .ty n, _, _, b, rfl, .ty n, tyX_of w1.sub r1, kit_ty hb, k _ (.dat (.bool b)) S1 F1 H1 w1 m1 (.bl b) q⟩
theorem isEmpty_reps {F : Hp} {vs : List V} {ds : List PyData} (r : Reps K F vs ds) : vs.isEmpty = ds.isEmpty := by
  cases r <;> rfl
theorem et_tru (h : EE K te S fun x S1 => ∃ b, x = .dat (.bool b) ∧ RT b S1) : ET K (tTru K te) S RT := fun e F H σ w Q k =>
  h e F H σ w _ fun v x S1 F1 H1 w1 m1 r1 ⟨b, e1, q⟩ => by
    subst e1
    cases r1
    exact ⟨b, rfl, k b S1 F1 H1 w1 m1 q⟩
theorem ee_revU (h : EE K te S fun x S1 => (∃ z, x = .dat (.str z) ∧ z.length ≤ 1000000 ∧ R (.dat (.str (revS z))) S1)) : EE K (tRevU K te) S R := fun e F H σ w Q k => .inr (h e F H σ w _ fun v x S1 F1 H1 w1 m1 r1 ⟨z, e1, hz, q⟩ => by
    subst e1
    cases r1
    exact ⟨z, rfl, hz, k _ (.dat (.str _)) S1 F1 H1 w1 m1 (.str _) q⟩)
theorem ee_revL (h : EE K te S fun x S1 => (∃ xs, LstAt S1 xs x ∧ R (.dat (.list xs.reverse)) S1)) : EE K (tRevU K te) S R := fun e F H σ w Q k => .inl (h e F H σ w _ fun v x S1 F1 H1 w1 m1 r1 ⟨xs, hx, q⟩ => by
    obtain ⟨a, vs, rfl, ha, r⟩ := hx.get w1 r1
    refine ⟨a, vs, rfl, SqL.of ha, fun p hp => ?_⟩
    have nf : F1 p = none := w1.sub.free hp
    exact k _ (.dat (.list _)) S1 _ _ (w1.laid (o := .lst _) hp) (m1.trans (same_new nf)) (.lst upd_same (r.reverse.mono (same_new nf))) q)
theorem Reps.strs_len {F : Hp} {vs : List V} {ys : List Str} (r : Reps K F vs (ys.map PyData.str)) : vs = ys.map V.str := r.str_inv
theorem ee_join {to : TE} (h : EE K to S fun x S1 => ∃ a, x = .dat (.str a) ∧ EE K te S1 fun y S2 => ∃ ys : List Str, (LstAt S2 (ys.map PyData.str) y) ∧ (ys.map (·.length)).sum + ys.length * a.length ≤ 1000000 ∧ R (.dat (.str (Txt.join a ys))) S2) : EE K (tM1 (rJoin K) to te) S R := fun e F H σ w Q k =>
  h e F H σ w _ fun v x S1 F1 H1 w1 m1 r1 ⟨a, e1, q1⟩ => by
    subst e1
    cases r1
    refine ⟨⟨a, rfl⟩, q1 e F1 H1 σ w1 _ fun u y S2 F2 H2 w2 m2 r2 ⟨ys, hy, hl, q⟩ => ?_⟩
    obtain ⟨p, vs, rfl, hp, r⟩ := hy.get w2 r2
    have e2 := r.str_inv
    subst e2
    exact ⟨a, p, ys, rfl, rfl, .inl (SqL.of hp), by omega, k _ (.dat (.str _)) S2 F2 H2 w2 (m1.trans m2) (.str _) q⟩
theorem rgV_reps {F : Hp} (a b : Int) : Reps K F (rgV a b) ((List.range (b - a).toNat).map fun i => PyData.int (a + (i : Nat))) := by
  unfold rgV
  have g : ∀ l : List Nat, Reps K F (l.map fun i => V.int (a + (i : Nat))) (l.map fun i => PyData.int (a + (i : Nat))) := fun l => by
    induction l with
    | nil => exact .nil
    | cons x l ih => exact .cons (.int _) ih
  exact g _
theorem en_listRg1 (h : EE K ta S fun x S1 => ∃ n : Nat, x = .dat (.int (n : Int)) ∧ n ≤ 1000000 ∧ RO (.lst ((List.range n).map fun i => PyData.int (i : Nat))) S1) : EN K (tLstRg (tRg1 ta)) S RO := fun e F H σ w Q k =>
  h e F H σ w _ fun v x S1 F1 H1 w1 m1 r1 ⟨n, e1, hn, q⟩ => by
    subst e1
    cases r1
    refine ⟨(n : Int), rfl, ⟨by omega, by omega, by omega, by omega, by omega⟩, fun p hp => ?_⟩
    have e2 := rgV_reps (K := K) (F := F1) 0 (n : Int)
    have e3 : ((List.range ((n : Int) - 0).toNat).map fun i => PyData.int (0 + (i : Nat))) = (List.range n).map fun i => PyData.int (i : Nat) := by
      rw [show ((n : Int) - 0).toNat = n by omega]
      congr 1
      funext i
      rw [Int.zero_add]
    rw [e3] at e2
    exact k p (.lst _) S1 F1 _ (w1.fresh hp) m1 (w1.sub.free hp) (w1.n0 hp) ⟨_, upd_same, e2⟩ (w1.no hp) q
/-- text.index(sign), the sign being there -/
theorem ee_sindex {to : TE} {tr : TA} (h : EE K to S fun x S1 => ∃ z, x = .dat (.str z) ∧ EA K tr S1 fun xs S2 => ∃ c, xs = [.dat (.str ⟨#[c]⟩)] ∧ c ∈ z.cps.toList ∧ ∀ i : Nat, z.cps.toList[i]? = some c → R (.dat (.int i)) S2) : EE K (tBM K "str" rSIndex to tr) S R := fun e F H σ w Q k =>
  h e F H σ w _ fun v x S1 F1 H1 w1 m1 r1 ⟨z, e1, q1⟩ => by
    subst e1
    cases r1
    refine ⟨rfl, q1 e F1 H1 σ w1 _ fun vs xs S2 F2 H2 w2 m2 r2 ⟨c, e2, hc, q⟩ => ?_⟩
    subst e2
    cases r2 with
    | cons r2 r0 =>
      cases r0
      cases r2
      have hf := PySem.StrLaws.found_one z c
      rw [decide_eq_true hc] at hf
      cases ho : Builtin.Str.occurrences z ⟨#[c]⟩ 0 z.length 1 with
      | nil => rw [ho] at hf; cases hf
      | cons i rest =>
        have hs := PySem.StrLaws.occ_spec z ⟨#[c]⟩ 0 z.length 1 i (by rw [ho]; simp)
        have hi := (PySem.StrLaws.subAt_one z c i).mp hs
        exact ⟨z, ⟨#[c]⟩, i, rest, rfl, rfl, ho, k _ (.dat (.int i)) S2 F2 H2 w2 (m1.trans m2) (.int _) (q i hi)⟩
/-! owned lists -/
theorem own_type {e : En} {F H : Hp} {σ : L2.St} {i : Nat} {m : Bool} {a : Addr} {ds : List PyData} (w : Wd K e F H σ S) (h : S[i]? = some (.own m a (.lst ds))) : σ[i]? = some (some (.ref a)) ∧ tyV K "list" (.ref a) H ∧ ∃ xs, H a = some (.lst xs) ∧ Reps K F xs ds := by
  obtain ⟨h1, _, _, xs, h4, h5⟩ := w.slots i _ h
  exact ⟨h1, .inl ⟨rfl, xs, SqL.of h4⟩, xs, h4, h5⟩
theorem ee_append {i : Nat} {m : Bool} {a : Addr} {ds : List PyData} {tr : TA} (h0 : S[i]? = some (.own m a (.lst ds))) (h : EA K tr S fun xs S1 => ∃ d ds', xs = [.dat d] ∧ S1[i]? = some (.own m a (.lst ds')) ∧ ds'.length ≤ 1000000 ∧ R (.dat .none) (S1.set i (.own m a (.lst (ds' ++ [d]))))) : EE K (tBM K "list" rAppend (tVar i) tr) S R := fun e F H σ w Q k => by
  obtain ⟨h1, h2, xs, h3, h4⟩ := own_type w h0
  refine ⟨_, h1, h2, h e F H σ w _ fun vs xs' S1 F1 H1 w1 m1 r1 ⟨d, ds', e1, g, hl, q⟩ => ?_⟩
  subst e1
  cases r1 with
  | cons rd r0 =>
    cases r0
    obtain ⟨g1, g2, ys, g3, g4⟩ := own_type w1 g
    refine ⟨a, ys, _, rfl, rfl, g3, sz2 (by rw [g4.length]; exact hl), ?_⟩
    exact k _ (.dat .none) _ F1 _ (w1.writeOwn (p := .lst _) g ⟨_, upd_same, g4.append (.cons rd .nil)⟩) m1 .non q
theorem ee_extend {i : Nat} {m : Bool} {a : Addr} {ds : List PyData} {tr : TA} (h0 : S[i]? = some (.own m a (.lst ds))) (h : EA K tr S fun xs S1 => ∃ x zs ds', xs = [x] ∧ LstAt S1 zs x ∧ S1[i]? = some (.own m a (.lst ds')) ∧ ds'.length + zs.length ≤ 1000000 ∧ R (.dat .none) (S1.set i (.own m a (.lst (ds' ++ zs))))) : EE K (tBM K "list" rExtend (tVar i) tr) S R := fun e F H σ w Q k => by
  obtain ⟨h1, h2, xs, h3, h4⟩ := own_type w h0
  refine ⟨_, h1, h2, h e F H σ w _ fun vs xs' S1 F1 H1 w1 m1 r1 ⟨x, zs, ds', e1, hz, g, hl, q⟩ => ?_⟩
  subst e1
  cases r1 with
  | cons rd r0 =>
    cases r0
    obtain ⟨g1, g2, ys, g3, g4⟩ := own_type w1 g
    obtain ⟨b, us, rfl, hb, rz⟩ := hz.get w1 rd
    refine ⟨a, b, ys, us, rfl, rfl, g3, hb, sz1 (by rw [g4.length, rz.length]; exact hl), ?_⟩
    exact k _ (.dat .none) _ F1 _ (w1.writeOwn (p := .lst _) g ⟨_, upd_same, g4.append rz⟩) m1 .non q
theorem ss_item {i : Nat} {ti : TE} {P : Po} (h : EE K te S fun x S1 => ∃ d, x = .dat d ∧ ∃ m0 a0 ds0, S1[i]? = some (.own m0 a0 (.lst ds0)) ∧ EE K ti S1 fun y S2 => ∃ (j : Int) (l : Nat) (m : Bool) (a : Addr) (ds : List PyData), y = .dat (.int j) ∧ S2[i]? = some (.own m a (.lst ds)) ∧ ixN ds.length j = some l ∧ P.nx (S2.set i (.own m a (.lst (ds.set l d))))) : SS K (tAsg te (gSub (tVar i) ti rSetL)) S P := fun e F H σ D w n r b c =>
  h e F H σ w _ fun v x S1 F1 H1 w1 m1 r1 ⟨d, e1, m0, a0, ds0, g0, q1⟩ => by
    subst e1
    obtain ⟨h1, _⟩ := own_type w1 g0
    refine ⟨_, h1, q1 e F1 H1 σ w1 _ fun u y S2 F2 H2 w2 m2 r2 ⟨j, l, m, a, ds, e2, g, hj, q⟩ => ?_⟩
    subst e2
    cases r2
    obtain ⟨g1, g2, ys, g3, g4⟩ := own_type w2 g
    have e3 : a0 = a := by
      rw [h1] at g1
      exact V.ref.inj (Option.some.inj (Option.some.inj g1))
    subst e3
    refine ⟨a0, ys, j, l, rfl, rfl, g3, by rw [g4.length]; exact hj, ?_⟩
    exact n _ F2 _ σ (w2.writeOwn (p := .lst _) g ⟨_, upd_same, Reps.set (r1.mono m2) l g4⟩) (m1.trans m2) q
theorem ss_itemAug {i : Nat} {ti : TE} {P : Po} {f : Int → Int → Int} {m0 : Bool} {a0 : Addr} {ds0 : List PyData} (g0 : S[i]? = some (.own m0 a0 (.lst ds0)))
    (h : EE K ti S fun y S2 => ∃ (j : Int) (l : Nat) (m : Bool) (a : Addr) (ds : List PyData) (n : Int), y = .dat (.int j) ∧ S2[i]? = some (.own m a (.lst ds)) ∧ ixN ds.length j = some l ∧ ds[l]? = some (.int n) ∧ EE K te S2 fun z S3 => ∃ n2, z = .dat (.int n2) ∧ S3[i]? = some (.own m a (.lst ds)) ∧ P.nx (S3.set i (.own m a (.lst (ds.set l (.int (f n n2))))))) : SS K (tAugS (tVar i) ti te (rIxL K) (ipI f) rSetL) S P := fun e F H σ D w n r b c => by
  obtain ⟨h1, _⟩ := own_type w g0
  refine ⟨_, h1, h e F H σ w _ fun u y S2 F2 H2 w2 m2 r2 ⟨j, l, m, a, ds, k0, e2, g, hj, hn, q⟩ => ?_⟩
  subst e2
  cases r2
  obtain ⟨g1, g2, ys, g3, g4⟩ := own_type w2 g
  have e3 : a0 = a := by
    rw [h1] at g1
    exact V.ref.inj (Option.some.inj (Option.some.inj g1))
  subst e3
  have ha : atI ds j = some (.int k0) := by
    unfold atI
    rw [hj]
    exact hn
  obtain ⟨v, hv, rv⟩ := atI_reps g4 ha
  cases rv
  refine ⟨a0, ys, j, _, rfl, rfl, SqL.of g3, hv, q e F2 H2 σ w2 _ fun u3 y3 S3 F3 H3 w3 m3 r3 ⟨n2, e4, g5, q3⟩ => ?_⟩
  subst e4
  cases r3
  obtain ⟨_, _, ys3, g6, g7⟩ := own_type w3 g5
  refine ⟨k0, n2, rfl, rfl, a0, ys3, j, l, rfl, rfl, g6, by rw [g7.length]; exact hj, ?_⟩
  exact n _ F3 _ σ (w3.writeOwn (p := .lst _) g5 ⟨_, upd_same, Reps.set (.int _) l g7⟩) (m2.trans m3) q3
/-! what is walked -/
theorem itOk_list {F1 : Hp} {a : Addr} {xs : List V} {ds : List PyData} (h : F1 a = some (.lst xs)) (r : Reps K F1 xs ds) : ItOk K F1 (Itl K a) ds := by
  have hs : ∀ F H, Same F1 F → Same F H → SqL K H a xs := fun F H m1 m2 => SqL.of (m2 _ _ (m1 _ _ h))
  refine ⟨fun i F H m1 m2 hi => ⟨xs, xs[i]'(by rw [r.length]; exact hi), hs F H m1 m2, by simp⟩, fun F H m1 m2 => ⟨xs, hs F H m1 m2, by rw [r.length]; exact Nat.le_refl _⟩, fun i F H x H' m1 m2 hi hy => ?_⟩
  obtain ⟨d, h1, h2⟩ := r.got (hy.2 xs (hs F H m1 m2))
  exact ⟨d, h1, .inl ⟨hy.1, h2.mono m1⟩⟩
theorem itOk_tup {F1 : Hp} {a : Addr} {xs : List V} {ds : List PyData} (h : SqT K F1 a xs) (r : Reps K F1 xs ds) : ItOk K F1 (Itt K a) ds := by
  have hs : ∀ F H, Same F1 F → Same F H → SqT K H a xs := fun F H m1 m2 => Same.tupS m2 (Same.tupS m1 h)
  refine ⟨fun i F H m1 m2 hi => ⟨xs, xs[i]'(by rw [r.length]; exact hi), hs F H m1 m2, by simp⟩, fun F H m1 m2 => ⟨xs, hs F H m1 m2, by rw [r.length]; exact Nat.le_refl _⟩, fun i F H x H' m1 m2 hi hy => ?_⟩
  obtain ⟨d, h1, h2⟩ := r.got (hy.2 xs (hs F H m1 m2))
  exact ⟨d, h1, .inl ⟨hy.1, h2.mono m1⟩⟩
/-- the signs of a text -/
def signs (z : Str) : List PyData := z.cps.toList.map fun c => PyData.str ⟨#[c]⟩
theorem itOk_str {F1 : Hp} (z : Str) : ItOk K F1 (Its z) (signs z) := by
  have hl : (signs z).length = z.cps.size := by simp [signs]
  refine ⟨fun i F H m1 m2 hi => ?_, fun F H m1 m2 => ?_, fun i F H x H' m1 m2 hi hy => ?_⟩
  · show i < z.cps.size
    omega
  · show z.cps.size ≤ _
    omega
  · obtain ⟨h1, c, h2, rfl⟩ := hy
    refine ⟨.str ⟨#[c]⟩, ?_, .inl ⟨h1, .str _⟩⟩
    unfold signs
    rw [List.getElem?_map, Array.getElem?_toList, h2]
    rfl
theorem itOk_range {F1 : Hp} (lo : Int) (n : Nat) : ItOk K F1 (Itr lo n) ((List.range n).map fun i => PyData.int (lo + (i : Nat))) := by
  have hl : ((List.range n).map fun i => PyData.int (lo + (i : Nat))).length = n := by simp
  refine ⟨fun i F H m1 m2 hi => ?_, fun F H m1 m2 => ?_, fun i F H x H' m1 m2 hi hy => ?_⟩
  · show i < n
    omega
  · show n ≤ _
    omega
  · obtain ⟨h1, rfl⟩ := hy
    refine ⟨.int (lo + i), ?_, .inl ⟨h1, .int _⟩⟩
    rw [List.getElem?_map, List.getElem?_range (by omega)]
    rfl
def enumD (ds : List PyData) : List PyData := (List.range ds.length).map fun i => PyData.tuple [.int (i : Nat), ds.getD i .none]
def zipD (xs ys : List PyData) : List PyData := List.zipWith (fun x y => PyData.tuple [x, y]) xs ys
theorem itOk_enum {F1 : Hp} {a : Addr} {xs : List V} {ds : List PyData} (h : F1 a = some (.lst xs)) (r : Reps K F1 xs ds) : ItOk K F1 (Ite K a) (enumD ds) := by
  have hl : (enumD ds).length = ds.length := by simp [enumD]
  have hs : ∀ F H, Same F1 F → Same F H → SqL K H a xs := fun F H m1 m2 => SqL.of (m2 _ _ (m1 _ _ h))
  refine ⟨fun i F H m1 m2 hi => ⟨xs, xs[i]'(by rw [r.length]; omega), hs F H m1 m2, by simp⟩, fun F H m1 m2 => ⟨xs, hs F H m1 m2, by rw [r.length]; omega⟩, fun i F H x H' m1 m2 hi hy => ?_⟩
  obtain ⟨T, y, rfl, hT, rfl, hy⟩ := hy
  obtain ⟨d, h1, h2⟩ := r.got (hy xs (hs F H m1 m2))
  have nf : F T = none := m2.free hT
  refine ⟨.tuple [.int (i : Nat), d], ?_, .inr ⟨T, _, hT, rfl, .tup (.inl upd_same) (.cons (.int _) (.cons (h2.mono (m1.trans (same_new nf))) .nil))⟩⟩
  unfold enumD
  rw [List.getElem?_map, List.getElem?_range (by omega)]
  show some (PyData.tuple [PyData.int (i : Nat), ds.getD i .none]) = _
  rw [List.getD_eq_getElem?_getD, h1]
  rfl
theorem itOk_zipL {F1 : Hp} {a b : Addr} {xs ys : List V} {ds es : List PyData} (h : F1 a = some (.lst xs)) (r : Reps K F1 xs ds) (h' : F1 b = some (.lst ys)) (r' : Reps K F1 ys es) : ItOk K F1 (Itz K a b) (zipD ds es) := by
  have hl : (zipD ds es).length = min ds.length es.length := by simp [zipD]
  have l1 := r.length
  have l2 := r'.length
  have hs : ∀ F H, Same F1 F → Same F H → SqL K H a xs := fun F H m1 m2 => SqL.of (m2 _ _ (m1 _ _ h))
  have hs' : ∀ F H, Same F1 F → Same F H → SqL K H b ys := fun F H m1 m2 => SqL.of (m2 _ _ (m1 _ _ h'))
  refine ⟨fun i F H m1 m2 hi => ⟨xs, ys, xs[i]'(by omega), ys[i]'(by omega), hs F H m1 m2, hs' F H m1 m2, by simp, by simp⟩, fun F H m1 m2 => ⟨xs, ys, hs F H m1 m2, hs' F H m1 m2, by omega⟩, fun i F H x H' m1 m2 hi hy => ?_⟩
  obtain ⟨T, y, z, rfl, hT, rfl, hy, hz⟩ := hy
  obtain ⟨d, h1, h2⟩ := r.got (hy xs (hs F H m1 m2))
  obtain ⟨d', h3, h4⟩ := r'.got (hz ys (hs' F H m1 m2))
  have nf : F T = none := m2.free hT
  refine ⟨.tuple [d, d'], ?_, .inr ⟨T, _, hT, rfl, .tup (.inl upd_same) (.cons (h2.mono (m1.trans (same_new nf))) (.cons (h4.mono (m1.trans (same_new nf))) .nil))⟩⟩
  unfold zipD
  rw [List.getElem?_zipWith, h1, h3]
theorem itOk_zipT {F1 : Hp} {a b : Addr} {xs ys : List V} {ds es : List PyData} (h : SqT K F1 a xs) (r : Reps K F1 xs ds) (h' : SqT K F1 b ys) (r' : Reps K F1 ys es) : ItOk K F1 (ItzT K a b) (zipD ds es) := by
  have hl : (zipD ds es).length = min ds.length es.length := by simp [zipD]
  have l1 := r.length
  have l2 := r'.length
  have hs : ∀ F H, Same F1 F → Same F H → SqT K H a xs := fun F H m1 m2 => Same.tupS m2 (Same.tupS m1 h)
  have hs' : ∀ F H, Same F1 F → Same F H → SqT K H b ys := fun F H m1 m2 => Same.tupS m2 (Same.tupS m1 h')
  refine ⟨fun i F H m1 m2 hi => ⟨xs, ys, xs[i]'(by omega), ys[i]'(by omega), hs F H m1 m2, hs' F H m1 m2, by simp, by simp⟩, fun F H m1 m2 => ⟨xs, ys, hs F H m1 m2, hs' F H m1 m2, by omega⟩, fun i F H x H' m1 m2 hi hy => ?_⟩
  obtain ⟨T, y, z, rfl, hT, rfl, hy, hz⟩ := hy
  obtain ⟨d, h1, h2⟩ := r.got (hy xs (hs F H m1 m2))
  obtain ⟨d', h3, h4⟩ := r'.got (hz ys (hs' F H m1 m2))
  have nf : F T = none := m2.free hT
  refine ⟨.tuple [d, d'], ?_, .inr ⟨T, _, hT, rfl, .tup (.inl upd_same) (.cons (h2.mono (m1.trans (same_new nf))) (.cons (h4.mono (m1.trans (same_new nf))) .nil))⟩⟩
  unfold zipD
  rw [List.getElem?_zipWith, h1, h3]
variable {RI : List PyData → List Sl → Prop}
theorem ei_L (h : EE K te S fun x S1 => ∃ ds, x = .dat (.list ds) ∧ RI ds S1) : EI K (iAny K te) S RI := fun e F H σ w Q k => .inl (h e F H σ w _ fun v x S1 F1 H1 w1 m1 r1 ⟨ds, e1, q⟩ => by
  subst e1
  cases r1 with
  | lst h r => exact ⟨_, rfl, ⟨_, SqL.of (w1.sub _ _ h)⟩, k _ ds S1 F1 H1 w1 m1 (itOk_list h r) q⟩)
theorem ei_T (h : EE K te S fun x S1 => ∃ ds, x = .dat (.tuple ds) ∧ RI ds S1) : EI K (iAny K te) S RI := fun e F H σ w Q k => .inr (.inl (h e F H σ w _ fun v x S1 F1 H1 w1 m1 r1 ⟨ds, e1, q⟩ => by
  subst e1
  cases r1 with
  | tup h r => exact ⟨_, rfl, ⟨_, Same.tupU w1.sub h⟩, k _ ds S1 F1 H1 w1 m1 (itOk_tup h.sq r) q⟩))
theorem ei_S (h : EE K te S fun x S1 => ∃ z, x = .dat (.str z) ∧ RI (signs z) S1) : EI K (iAny K te) S RI := fun e F H σ w Q k => .inr (.inr (h e F H σ w _ fun v x S1 F1 H1 w1 m1 r1 ⟨z, e1, q⟩ => by
  subst e1
  cases r1
  exact ⟨z, rfl, k _ _ S1 F1 H1 w1 m1 (itOk_str z) q⟩))
theorem ei_range1 {tr : TA} (h : EA K tr S fun xs S1 => ∃ j : Int, xs = [.dat (.int j)] ∧ -1000000 ≤ j ∧ j ≤ 1000000 ∧ RI ((List.range j.toNat).map fun i => PyData.int (i : Nat)) S1) : EI K (iRng1 tr) S RI := fun e F H σ w Q k => h e F H σ w _ fun vs xs S1 F1 H1 w1 m1 r1 ⟨j, e1, h1, h2, q⟩ => by
  subst e1
  cases r1 with
  | cons r1 r0 =>
    cases r0
    cases r1
    have z := itOk_range (K := K) (F1 := F1) 0 j.toNat
    have e3 : ((List.range j.toNat).map fun i => PyData.int (0 + (i : Nat))) = (List.range j.toNat).map fun i => PyData.int (i : Nat) := by
      congr 1
      funext i
      rw [Int.zero_add]
    rw [e3] at z
    exact ⟨j, rfl, by omega, by omega, k _ _ S1 F1 H1 w1 m1 z q⟩
theorem ei_range2 {tr : TA} (h : EA K tr S fun xs S1 => ∃ i j : Int, xs = [.dat (.int i), .dat (.int j)] ∧ -1000000 ≤ i ∧ i ≤ 1000000 ∧ -1000000 ≤ j ∧ j ≤ 1000000 ∧ RI ((List.range (j - i).toNat).map fun l => PyData.int (i + (l : Nat))) S1) : EI K (iRng2 tr) S RI := fun e F H σ w Q k => h e F H σ w _ fun vs xs S1 F1 H1 w1 m1 r1 ⟨i, j, e1, h1, h2, h3, h4, q⟩ => by
  subst e1
  cases r1 with
  | cons r1 r0 =>
    cases r0 with
    | cons r2 r0 =>
      cases r0
      cases r1
      cases r2
      exact ⟨i, j, rfl, ⟨by omega, by omega, by omega, by omega⟩, k _ _ S1 F1 H1 w1 m1 (itOk_range i (j - i).toNat) q⟩
theorem ei_enum {tr : TA} (h : EA K tr S fun xs S1 => ∃ ds, xs = [.dat (.list ds)] ∧ RI (enumD ds) S1) : EI K (iEnum K tr) S RI := fun e F H σ w Q k => h e F H σ w _ fun vs xs S1 F1 H1 w1 m1 r1 ⟨ds, e1, q⟩ => by
  subst e1
  cases r1 with
  | cons r1 r0 =>
    cases r0
    cases r1 with
    | lst h r => exact ⟨_, _, rfl, SqL.of (w1.sub _ _ h), k _ _ S1 F1 H1 w1 m1 (itOk_enum h r) q⟩
theorem ei_zipT {tr : TA} (h : EA K tr S fun xs S1 => ∃ ds es, xs = [.dat (.tuple ds), .dat (.tuple es)] ∧ RI (zipD ds es) S1) : EI K (iZipA K tr) S RI := fun e F H σ w Q k => h e F H σ w _ fun vs xs S1 F1 H1 w1 m1 r1 ⟨ds, es, e1, q⟩ => by
  subst e1
  cases r1 with
  | cons r1 r0 =>
    cases r0 with
    | cons r2 r0 =>
      cases r0
      cases r1 with
      | tup h1 r1 =>
        cases r2 with
        | tup h2 r2 => exact ⟨_, _, _, _, rfl, .inr ⟨Same.tupU w1.sub h1, Same.tupU w1.sub h2, k _ _ S1 F1 H1 w1 m1 (itOk_zipT h1.sq r1 h2.sq r2) q⟩⟩
theorem ei_zipL {tr : TA} (h : EA K tr S fun xs S1 => ∃ ds es, xs = [.dat (.list ds), .dat (.list es)] ∧ RI (zipD ds es) S1) : EI K (iZipA K tr) S RI := fun e F H σ w Q k => h e F H σ w _ fun vs xs S1 F1 H1 w1 m1 r1 ⟨ds, es, e1, q⟩ => by
  subst e1
  cases r1 with
  | cons r1 r0 =>
    cases r0 with
    | cons r2 r0 =>
      cases r0
      cases r1 with
      | lst h1 r1 =>
        cases r2 with
        | lst h2 r2 => exact ⟨_, _, _, _, rfl, .inl ⟨SqL.of (w1.sub _ _ h1), SqL.of (w1.sub _ _ h2), k _ _ S1 F1 H1 w1 m1 (itOk_zipL h1 r1 h2 r2) q⟩⟩
/-- an expression that may stand for a new list, given up at once -/
theorem ee_opN {r : R2} (h : EE K ta S fun x S1 => EE K tb S1 fun y S2 => RN K r x y S2 fun o S3 => isScr o = false ∧ R (.dat (frz o)) S3) : EE K (tOp r ta tb) S R := ee_new (en_op h)
theorem ee_lst {tr : TA} (h : EA K tr S fun xs S1 => ∃ ds, xs = dats ds ∧ ds.length ≤ sizeLine ∧ R (.dat (.list ds)) S1) : EE K (tLst tr) S R := ee_new (en_lst fun e F H σ w Q k => h e F H σ w Q fun vs xs S1 F1 H1 w1 m1 r1 ⟨ds, e1, hl, q⟩ => k vs xs S1 F1 H1 w1 m1 r1 ⟨ds, e1, hl, rfl, q⟩)
theorem ss_never {P : Po} (h : False) : SS K tNever S P := h.elim
end
end DL

namespace DL
open PySem PySem.Spec PyProof.Rows L2 RZ

/-! ## forms that a walk by rows can use -/
def LetP (i : Nat) (N : List Sl → Prop) : Vx → List Sl → Prop
  | .dat d, S1 => Nat.blt i S1.length = true ∧ N (S1.set i (.dat d))
  | .ptr _, _ => False
def RetP (N : PyData → List Sl → Prop) : Vx → List Sl → Prop
  | .dat d, S1 => N d S1
  | .ptr _, _ => False
def BoolP (N : Bool → List Sl → Prop) : Vx → List Sl → Prop
  | .dat (.bool b), S1 => N b S1
  | _, _ => False
def IntP (N : Int → List Sl → Prop) : Vx → List Sl → Prop
  | .dat (.int b), S1 => N b S1
  | _, _ => False
def OwnP (i : Nat) (N : List Sl → Prop) : Own → List Sl → Prop := fun o S1 => Nat.blt i S1.length = true ∧ ∀ a, N (S1.set i (.own true a o))
def FrzP (R : Vx → List Sl → Prop) : Own → List Sl → Prop
  | .scr _, _ => False
  | .lst ds, S1 => R (.dat (.list ds)) S1
  | .dct ds, S1 => R (.dat (.dict ds)) S1
  | .dtt ds, S1 => R (.dat (.dict ((.none, .none) :: ds))) S1
def DatsP (N : List PyData → List Sl → Prop) : List Vx → List Sl → Prop
  | [], S1 => N [] S1
  | .dat d :: xs, S1 => DatsP (fun ds => N (d :: ds)) xs S1
  | .ptr _ :: _, _ => False
def PairP (i j : Nat) (N : List Sl → Prop) : Vx → List Sl → Prop
  | .dat (.tuple [a, b]), S1 => Nat.blt i S1.length = true ∧ Nat.blt j S1.length = true ∧ N ((S1.set i (.dat a)).set j (.dat b))
  | _, _ => False
theorem lt_of_blt {i n : Nat} (h : Nat.blt i n = true) : i < n := Nat.le_of_ble_eq_true h
section
variable {K : PySem.W.Frag} {S : List Sl} {R : Vx → List Sl → Prop} {RO : Own → List Sl → Prop} {RT : Bool → List Sl → Prop} {ta tb te : TE} {P : Po} {t u : TS} {tc : TT}
theorem s_let {i : Nat} (h : EE K te S (LetP i P.nx)) : SS K (tAsg te (gName i)) S P := ss_set (ee_imp h fun x S1 q => by
  cases x with
  | dat d => exact ⟨d, rfl, lt_of_blt q.1, q.2⟩
  | ptr j => exact q.elim)
theorem s_own {i : Nat} (h : EN K te S (OwnP i P.nx)) : SS K (tAsg te (gName i)) S P := ss_own fun e F H σ w Q k => h e F H σ w Q fun a o S' F' H' w' m n1 n2 r no q => k a o S' F' H' w' m n1 n2 r no ⟨lt_of_blt q.1, q.2⟩
theorem s_ret (h : EE K te S (RetP P.rt)) : SS K (tRet te) S P := ss_ret (ee_imp h fun x S1 q => by
  cases x with
  | dat d => exact ⟨d, rfl, q⟩
  | ptr j => exact q.elim)
theorem boolP {x : Vx} {S1 : List Sl} {N : Bool → List Sl → Prop} (q : BoolP N x S1) : ∃ b, x = .dat (.bool b) ∧ N b S1 := by
  cases x with
  | dat d =>
    cases d with
    | bool b => exact ⟨b, rfl, q⟩
    | _ => exact (show False from q).elim
  | ptr j => exact (show False from q).elim
theorem intP {x : Vx} {S1 : List Sl} {N : Int → List Sl → Prop} (q : IntP N x S1) : ∃ b, x = .dat (.int b) ∧ N b S1 := by
  cases x with
  | dat d =>
    cases d with
    | int b => exact ⟨b, rfl, q⟩
    | _ => exact (show False from q).elim
  | ptr j => exact (show False from q).elim
theorem t_test (h : EE K te S (BoolP RT)) : ET K (tTest te) S RT := et_test (ee_imp h fun x S1 q => boolP q)
theorem t_B (h : EE K te S (BoolP RT)) : ET K (tB te) S RT := et_B (ee_imp h fun x S1 q => boolP q)
theorem t_tru (h : EE K te S (BoolP RT)) : ET K (tTru K te) S RT := et_tru (ee_imp h fun x S1 q => boolP q)
theorem t_yes (q : RT true S) : ET K tYes S RT := fun e F H σ w Q k => k true S F H w (Same.refl _) q
theorem e_andV (h : EE K ta S (BoolP fun b S1 => if b = true then EE K tb S1 R else R (.dat (.bool false)) S1)) : EE K (tAndV ta tb) S R := ee_andV (ee_imp h fun x S1 q => boolP q)
theorem e_orV (h : EE K ta S (BoolP fun b S1 => if b = true then R (.dat (.bool true)) S1 else EE K tb S1 R)) : EE K (tOrV ta tb) S R := ee_orV (ee_imp h fun x S1 q => boolP q)
theorem e_notV (h : EE K ta S (BoolP fun b S1 => R (.dat (.bool (!b))) S1)) : EE K (tNotV ta) S R := ee_notV (ee_imp h fun x S1 q => boolP q)
theorem e_chain {r r' : R2} {tc : TE} (h : EE K ta S fun x S1 => EE K tb S1 fun y S2 => RR K r x y S2 (BoolP fun b S3 => if b = true then EE K tc S3 fun y' S4 => RR K r' y y' S4 R else R (.dat (.bool false)) S3)) : EE K (tChain r r' ta tb tc) S R :=
  ee_chain (ee_imp h fun x S1 q => ee_imp q fun y S2 q2 => fun e F H σ v u w rx ry Q k => q2 e F H σ v u w rx ry Q fun v x S' F' H' w' m r z => k v x S' F' H' w' m r (boolP z))
theorem o_some {N : Option Int → List Sl → Prop} (h : EE K te S (IntP fun i S1 => N (some i) S1)) : EO K (tPart te) S N := eo_some (ee_imp h fun x S1 q => intP q)
theorem datsP : ∀ {xs : List Vx} {S1 : List Sl} {N : List PyData → List Sl → Prop}, DatsP N xs S1 → ∃ ds, xs = dats ds ∧ N ds S1
  | [], _, _, q => ⟨[], rfl, q⟩
  | .dat d :: xs, _, _, q => by
    obtain ⟨ds, e, h⟩ := datsP (xs := xs) q
    exact ⟨d :: ds, by rw [e]; rfl, h⟩
  | .ptr _ :: _, _, _, q => q.elim
theorem EA.imp {tr : TA} {R R' : List Vx → List Sl → Prop} (h : EA K tr S R') (q : ∀ x S', R' x S' → R x S') : EA K tr S R := fun e F H σ w Q k => h e F H σ w Q fun v x S' F' H' w' m r z => k v x S' F' H' w' m r (q x S' z)
theorem EN.imp {R' : Own → List Sl → Prop} (h : EN K te S R') (q : ∀ x S', R' x S' → RO x S') : EN K te S RO := fun e F H σ w Q k => h e F H σ w Q fun a o S' F' H' w' m n1 n2 r no z => k a o S' F' H' w' m n1 n2 r no (q o S' z)
theorem EI.imp {wi : TI} {R R' : List PyData → List Sl → Prop} (h : EI K wi S R') (q : ∀ x S', R' x S' → R x S') : EI K wi S R := fun e F H σ w Q k => h e F H σ w Q fun v x S' F' H' w' m r z => k v x S' F' H' w' m r (q x S' z)
theorem e_tup {tr : TA} (h : EA K tr S (DatsP fun ds S1 => Nat.ble ds.length 1000 = true ∧ R (.dat (.tuple ds)) S1)) : EE K (tTup tr) S R := ee_tup (EA.imp h fun x S1 q => by
  obtain ⟨ds, e, h1, h2⟩ := datsP q
  exact ⟨ds, e, sz1 (Nat.le_trans (Nat.le_of_ble_eq_true h1) (by decide)), h2⟩)
theorem n_lst {tr : TA} (h : EA K tr S (DatsP fun ds S1 => Nat.ble ds.length 1000 = true ∧ RO (.lst ds) S1)) : EN K (tLst tr) S RO := en_lst (EA.imp h fun x S1 q => by
  obtain ⟨ds, e, h1, h2⟩ := datsP q
  exact ⟨ds, e, sz1 (Nat.le_trans (Nat.le_of_ble_eq_true h1) (by decide)), h2⟩)
theorem e_lst {tr : TA} (h : EA K tr S (DatsP fun ds S1 => Nat.ble ds.length 1000 = true ∧ R (.dat (.list ds)) S1)) : EE K (tLst tr) S R := ee_lst (EA.imp h fun x S1 q => by
  obtain ⟨ds, e, h1, h2⟩ := datsP q
  exact ⟨ds, e, sz1 (Nat.le_trans (Nat.le_of_ble_eq_true h1) (by decide)), h2⟩)
theorem frzP {o : Own} {S1 : List Sl} (q : FrzP R o S1) : isScr o = false ∧ R (.dat (frz o)) S1 := by
  cases o with
  | scr ns => exact (show False from q).elim
  | _ => exact ⟨rfl, q⟩
theorem e_new (h : EN K te S (FrzP R)) : EE K te S R := ee_new (EN.imp h fun o S1 q => frzP q)
theorem rr_of_rn {r : R2} {x y : Vx} (h : RN K r x y S (FrzP R)) : RR K r x y S R := fun e F H σ v u w rx ry Q k => h e F H σ v u w rx ry Q fun a o S1 F1 H1 w1 m1 n1 n0 r1 no q => by
  obtain ⟨q1, q2⟩ := frzP q
  obtain ⟨u, hu, hr⟩ := own_frz r1 q1
  exact k _ (.dat (frz o)) S1 (upd F1 a u) H1 (w1.freeze hu n0 n1 no) (m1.trans (same_new n1)) (hr n1) q2
theorem rb_of_rbn {r : List V → Hp → VK → Prop} {xs : List Vx} (h : RBN K r xs S (FrzP R)) : RB K r xs S R := fun e F H σ vs w rx Q k => h e F H σ vs w rx Q fun a o S1 F1 H1 w1 m1 n1 n0 r1 no q => by
  obtain ⟨q1, q2⟩ := frzP q
  obtain ⟨u, hu, hr⟩ := own_frz r1 q1
  exact k _ (.dat (frz o)) S1 (upd F1 a u) H1 (w1.freeze hu n0 n1 no) (m1.trans (same_new n1)) (hr n1) q2
theorem e_callP {C : Cp} {E : XK} {tr : TA} (h : EA K tr S (DatsP fun ds S1 => C ds fun d => R (.dat d) S1)) : EE K (tCall (spC K (pureC C)) [] E tr) S R := ee_callP (EA.imp h fun x S1 q => datsP q)
theorem e_isi {n : String} (h : EE K ta S (RetP fun d S1 => ∃ b, kitB (tyN d) n = some b ∧ R (.dat (.bool b)) S1)) : EE K (tCB (rIsi K) (tCons ta (tCons (tC (.ty n)) tNil))) S R := ee_isi (ee_imp h fun x S1 q => by
  cases x with
  | dat d =>
    obtain ⟨b, h1, h2⟩ := q
    exact ⟨d, b, rfl, h1, h2⟩
  | ptr j => exact (show False from q).elim)
theorem k_ii : kitB "int" "int" = some true := by decide +kernel
theorem k_ib : kitB "int" "bool" = some false := by decide +kernel
theorem k_is : kitB "int" "str" = some false := by decide +kernel
theorem k_it : kitB "int" "tuple" = some false := by decide +kernel
theorem k_bi : kitB "bool" "int" = some true := by decide +kernel
theorem k_bb : kitB "bool" "bool" = some true := by decide +kernel
theorem k_bs : kitB "bool" "str" = some false := by decide +kernel
theorem k_bt : kitB "bool" "tuple" = some false := by decide +kernel
theorem k_ni : kitB "NoneType" "int" = some false := by decide +kernel
theorem k_nb : kitB "NoneType" "bool" = some false := by decide +kernel
theorem k_ns : kitB "NoneType" "str" = some false := by decide +kernel
theorem k_nt : kitB "NoneType" "tuple" = some false := by decide +kernel
theorem k_si : kitB "str" "int" = some false := by decide +kernel
theorem k_sb : kitB "str" "bool" = some false := by decide +kernel
theorem k_ss : kitB "str" "str" = some true := by decide +kernel
theorem k_st : kitB "str" "tuple" = some false := by decide +kernel
theorem k_li : kitB "list" "int" = some false := by decide +kernel
theorem k_lb : kitB "list" "bool" = some false := by decide +kernel
theorem k_ls : kitB "list" "str" = some false := by decide +kernel
theorem k_lt : kitB "list" "tuple" = some false := by decide +kernel
theorem k_ti : kitB "tuple" "int" = some false := by decide +kernel
theorem k_tb : kitB "tuple" "bool" = some false := by decide +kernel
theorem k_ts : kitB "tuple" "str" = some false := by decide +kernel
theorem k_tt : kitB "tuple" "tuple" = some true := by decide +kernel
theorem k_di : kitB "dict" "int" = some false := by decide +kernel
theorem k_db : kitB "dict" "bool" = some false := by decide +kernel
theorem k_ds : kitB "dict" "str" = some false := by decide +kernel
theorem k_dt : kitB "dict" "tuple" = some false := by decide +kernel
def isInt : PyData → Bool
  | .int _ => true
  | .bool _ => true
  | _ => false
def isBool : PyData → Bool
  | .bool _ => true
  | _ => false
def isStr : PyData → Bool
  | .str _ => true
  | _ => false
def isTup : PyData → Bool
  | .tuple _ => true
  | _ => false
theorem e_isI (h : EE K ta S (RetP fun d S1 => R (.dat (.bool (isInt d))) S1)) : EE K (tCB (rIsi K) (tCons ta (tCons (tC (.ty "int")) tNil))) S R := e_isi (ee_imp h fun x S1 q => by
  cases x with
  | ptr j => exact q
  | dat d => cases d with
    | none => exact ⟨_, k_ni, q⟩
    | bool _ => exact ⟨_, k_bi, q⟩
    | int _ => exact ⟨_, k_ii, q⟩
    | str _ => exact ⟨_, k_si, q⟩
    | list _ => exact ⟨_, k_li, q⟩
    | tuple _ => exact ⟨_, k_ti, q⟩
    | dict _ => exact ⟨_, k_di, q⟩)
theorem e_isB (h : EE K ta S (RetP fun d S1 => R (.dat (.bool (isBool d))) S1)) : EE K (tCB (rIsi K) (tCons ta (tCons (tC (.ty "bool")) tNil))) S R := e_isi (ee_imp h fun x S1 q => by
  cases x with
  | ptr j => exact q
  | dat d => cases d with
    | none => exact ⟨_, k_nb, q⟩
    | bool _ => exact ⟨_, k_bb, q⟩
    | int _ => exact ⟨_, k_ib, q⟩
    | str _ => exact ⟨_, k_sb, q⟩
    | list _ => exact ⟨_, k_lb, q⟩
    | tuple _ => exact ⟨_, k_tb, q⟩
    | dict _ => exact ⟨_, k_db, q⟩)
theorem e_isS (h : EE K ta S (RetP fun d S1 => R (.dat (.bool (isStr d))) S1)) : EE K (tCB (rIsi K) (tCons ta (tCons (tC (.ty "str")) tNil))) S R := e_isi (ee_imp h fun x S1 q => by
  cases x with
  | ptr j => exact q
  | dat d => cases d with
    | none => exact ⟨_, k_ns, q⟩
    | bool _ => exact ⟨_, k_bs, q⟩
    | int _ => exact ⟨_, k_is, q⟩
    | str _ => exact ⟨_, k_ss, q⟩
    | list _ => exact ⟨_, k_ls, q⟩
    | tuple _ => exact ⟨_, k_ts, q⟩
    | dict _ => exact ⟨_, k_ds, q⟩)
theorem e_isT (h : EE K ta S (RetP fun d S1 => R (.dat (.bool (isTup d))) S1)) : EE K (tCB (rIsi K) (tCons ta (tCons (tC (.ty "tuple")) tNil))) S R := e_isi (ee_imp h fun x S1 q => by
  cases x with
  | ptr j => exact q
  | dat d => cases d with
    | none => exact ⟨_, k_nt, q⟩
    | bool _ => exact ⟨_, k_bt, q⟩
    | int _ => exact ⟨_, k_it, q⟩
    | str _ => exact ⟨_, k_st, q⟩
    | list _ => exact ⟨_, k_lt, q⟩
    | tuple _ => exact ⟨_, k_tt, q⟩
    | dict _ => exact ⟨_, k_dt, q⟩)
theorem s_par {i j : Nat} {tr : TA} (h : EA K tr S (DatsP fun ds S1 => ∃ d d', ds = [d, d'] ∧ Nat.blt i S1.length = true ∧ Nat.blt j S1.length = true ∧ P.nx ((S1.set i (.dat d)).set j (.dat d')))) : SS K (tPar i j tr) S P := ss_par (EA.imp h fun x S1 q => by
  obtain ⟨ds, e, d, d', e2, h1, h2, h3⟩ := datsP q
  subst e2
  exact ⟨d, d', e, lt_of_blt h1, lt_of_blt h2, h3⟩)
theorem s_par3 {i j l : Nat} {tr : TA} (h : EA K tr S (DatsP fun ds S1 => ∃ d d' d'', ds = [d, d', d''] ∧ Nat.blt i S1.length = true ∧ Nat.blt j S1.length = true ∧ Nat.blt l S1.length = true ∧ P.nx (((S1.set i (.dat d)).set j (.dat d')).set l (.dat d'')))) : SS K (tPar3 i j l tr) S P := ss_par3 (EA.imp h fun x S1 q => by
  obtain ⟨ds, e, d, d', d'', e2, h1, h2, h3, h4⟩ := datsP q
  subst e2
  exact ⟨d, d', d'', e, lt_of_blt h1, lt_of_blt h2, lt_of_blt h3, h4⟩)
theorem g_name {i : Nat} {d : PyData} {N : List Sl → Prop} (q : Nat.blt i S.length = true ∧ N (S.set i (.dat d))) : GG K (gName i) d S N := gg_name (lt_of_blt q.1) q.2
theorem g_two {i j : Nat} {a b : PyData} {N : List Sl → Prop} (q : Nat.blt i S.length = true ∧ Nat.blt j S.length = true ∧ N ((S.set i (.dat a)).set j (.dat b))) : GG K (gTup K 2 (gCons (gName i) (gCons (gName j) gNil))) (.tuple [a, b]) S N :=
  gg_tup rfl (gg_cons (gg_name (lt_of_blt q.1) (gg_cons (gg_name (by rw [List.length_set]; exact lt_of_blt q.2.1) (gg_nil q.2.2)))))
theorem pairP {i j : Nat} {N : List Sl → Prop} {x : Vx} {S1 : List Sl} (q : PairP i j N x S1) : ∃ a b, x = .dat (.tuple [a, b]) ∧ Nat.blt i S1.length = true ∧ Nat.blt j S1.length = true ∧ N ((S1.set i (.dat a)).set j (.dat b)) := by
  unfold PairP at q
  split at q
  · exact ⟨_, _, rfl, q⟩
  · exact q.elim
theorem s_pair {i j : Nat} (h : EE K te S (PairP i j P.nx)) : SS K (tAsg te (gTup K 2 (gCons (gName i) (gCons (gName j) gNil)))) S P := ss_asg (ee_imp h fun x S1 q => by
  obtain ⟨a, b, e, q⟩ := pairP q
  exact ⟨_, e, g_two q⟩)
theorem pairP_i {i j : Nat} {N : List Sl → Prop} {a b : PyData} (h1 : Nat.blt i S.length = true) (h2 : Nat.blt j S.length = true) (q : N ((S.set i (.dat a)).set j (.dat b))) : PairP i j N (.dat (.tuple [a, b])) S := ⟨h1, h2, q⟩
theorem if_T {c : Bool} {A B : Prop} (hc : c = true) (h : A) : if c = true then A else B := by
  rw [if_pos hc]
  exact h
theorem if_F {c : Bool} {A B : Prop} (hc : c = false) (h : B) : if c = true then A else B := by
  rw [hc, if_neg Bool.false_ne_true]
  exact h
theorem if_D {c : Prop} [Decidable c] {A B : Prop} (h1 : c → A) (h2 : ¬ c → B) : if decide c = true then A else B := by
  by_cases h : c
  · exact if_T (decide_eq_true h) (h1 h)
  · exact if_F (decide_eq_false h) (h2 h)
theorem if_B {c : Bool} {A B : Prop} (h1 : c = true → A) (h2 : c = false → B) : if c = true then A else B := by
  cases c with
  | true => exact if_T rfl (h1 rfl)
  | false => exact if_F rfl (h2 rfl)
theorem atI_0 {α : Type} {x : α} {r : List α} : atI (x :: r) 0 = some x := atI_nat (j := 0) rfl
theorem atI_1 {α : Type} {x y : α} {r : List α} : atI (x :: y :: r) 1 = some y := atI_nat (j := 1) rfl
theorem atI_2 {α : Type} {x y z : α} {r : List α} : atI (x :: y :: z :: r) 2 = some z := atI_nat (j := 2) rfl
theorem ble_i {a b : Nat} {B : Prop} (h : Nat.ble a b = true) (q : B) : Nat.ble a b = true ∧ B := ⟨h, q⟩
theorem letP_i {i : Nat} {N : List Sl → Prop} {d : PyData} (h : Nat.blt i S.length = true) (q : N (S.set i (.dat d))) : LetP i N (.dat d) S := ⟨h, q⟩
theorem retP_i {N : PyData → List Sl → Prop} {d : PyData} (q : N d S) : RetP N (.dat d) S := q
theorem boolP_i {N : Bool → List Sl → Prop} {b : Bool} (q : N b S) : BoolP N (.dat (.bool b)) S := q
theorem intP_i {N : Int → List Sl → Prop} {b : Int} (q : N b S) : IntP N (.dat (.int b)) S := q
theorem ownP_i {i : Nat} {N : List Sl → Prop} {o : Own} (h : Nat.blt i S.length = true) (q : ∀ a, N (S.set i (.own true a o))) : OwnP i N o S := ⟨h, q⟩
theorem frzP_l {ds : List PyData} (q : R (.dat (.list ds)) S) : FrzP R (.lst ds) S := q
theorem frzP_d {ds : List (PyData × PyData)} (q : R (.dat (.dict ds)) S) : FrzP R (.dct ds) S := q
theorem frzP_t {ds : List (PyData × PyData)} (q : R (.dat (.dict ((.none, .none) :: ds))) S) : FrzP R (.dtt ds) S := q
theorem datsP_n {N : List PyData → List Sl → Prop} (q : N [] S) : DatsP N [] S := q
theorem datsP_c {N : List PyData → List Sl → Prop} {d : PyData} {xs : List Vx} (q : DatsP (fun ds => N (d :: ds)) xs S) : DatsP N (.dat d :: xs) S := q
/-! calls that are handed owned things -/
def memB (n : Nat) : List Nat → Bool
  | [] => false
  | k :: l => Nat.beq n k || memB n l
def nodupB : List Nat → Bool
  | [] => true
  | k :: l => !memB k l && nodupB l
def isOwn : Option Sl → Bool
  | some (.own _ _ _) => true
  | _ => false
def ptrsB (xs : List Vx) (S : List Sl) : Bool := nodupB (xs.filterMap isPtr) && (xs.filterMap isPtr).all fun k => isOwn S[k]?
def backB : List Vx → List Sl → Bool
  | [], [] => true
  | .dat _ :: xs, _ :: as => backB xs as
  | .ptr _ :: xs, .own _ _ _ :: as => backB xs as
  | _, _ => false
theorem memB_of {n : Nat} : ∀ {l : List Nat}, n ∈ l → memB n l = true
  | k :: l, h => by
    rcases List.mem_cons.mp h with h | h
    · subst h
      show (Nat.beq n n || _) = true
      rw [Nat.beq_refl]
      rfl
    · show (Nat.beq n k || memB n l) = true
      rw [memB_of h, Bool.or_true]
theorem nodup_of : ∀ {l : List Nat}, nodupB l = true → l.Nodup
  | [], _ => List.nodup_nil
  | k :: l, h => by
    have h2 : (!memB k l && nodupB l) = true := h
    rw [Bool.and_eq_true] at h2
    refine List.nodup_cons.mpr ⟨fun z => ?_, nodup_of h2.2⟩
    rw [memB_of z] at h2
    cases h2.1
theorem ptrs_of {xs : List Vx} (h : ptrsB xs S = true) : ptrs xs S := by
  obtain ⟨h1, h2⟩ := Bool.and_eq_true_iff.mp h
  refine ⟨nodup_of h1, fun k hk => ?_⟩
  have h3 := List.all_eq_true.mp h2 k (List.mem_filterMap.mpr ⟨.ptr k, hk, rfl⟩)
  cases q : S[k]? with
  | none => rw [q] at h3; cases h3
  | some s =>
    rw [q] at h3
    cases s with
    | own m a o => exact ⟨m, a, o, rfl⟩
    | _ => cases h3
theorem back_of : ∀ {xs : List Vx} {as : List Sl}, backB xs as = true → as.length = xs.length ∧ ∀ (i k : Nat), xs[i]? = some (.ptr k) → ∃ n a o, as[i]? = some (.own n a o)
  | [], [], _ => ⟨rfl, fun i k h => by simp at h⟩
  | [], _ :: _, h => by cases h
  | .dat d :: xs, [], h => by cases h
  | .ptr d :: xs, [], h => by cases h
  | .dat d :: xs, a :: as, h => by
    obtain ⟨h1, h2⟩ := back_of (xs := xs) (as := as) h
    refine ⟨congrArg (· + 1) h1, fun i k q => ?_⟩
    cases i with
    | zero => cases q
    | succ i => exact h2 i k q
  | .ptr d :: xs, .own n a o :: as, h => by
    obtain ⟨h1, h2⟩ := back_of (xs := xs) (as := as) h
    refine ⟨congrArg (· + 1) h1, fun i k q => ?_⟩
    cases i with
    | zero => exact ⟨n, a, o, rfl⟩
    | succ i => exact h2 i k q
  | .ptr d :: xs, .dat _ :: as, h => by cases h
  | .ptr d :: xs, .no :: as, h => by cases h
theorem e_call {C : Ct} {E : XK} {tr : TA} (h : EA K tr S fun xs S1 => ptrsB xs S1 = true ∧ C (xs.map (argS S1)) fun d as' => backB xs as' = true ∧ R (.dat d) (updA xs as' S1)) : EE K (tCall (spC K C) [] E tr) S R := by
  intro e F H σ w Q k
  refine h e F H σ w _ fun vs xs S1 F1 H1 w1 m1 r1 ⟨hp, hc⟩ => ?_
  have hp2 := ptrs_of hp
  rw [List.append_nil]
  refine ⟨F1, xs.map (argS S1), _, w1.enter r1 hp2, fun a h => h, _, hc, fun d as' ⟨hb, hR⟩ v F' H' w' rv => ?_⟩
  obtain ⟨hl, hw⟩ := back_of hb
  exact k v (.dat d) _ F' H' (w1.leave r1 hp2 w' hl hw) (m1.trans w'.f0) rv hR
theorem if_eqS {a b : Str} {A B : Prop} (h1 : a = b → A) (h2 : ¬ a = b → B) : if eqS (.str a) (.str b) = true then A else B := if_D h1 h2
theorem if_eqI {a b : Int} {A B : Prop} (h1 : a = b → A) (h2 : ¬ a = b → B) : if eqS (.int a) (.int b) = true then A else B := if_D h1 h2
theorem if_neS {a b : Str} {A B : Prop} (h1 : ¬ a = b → A) (h2 : a = b → B) : if (!eqS (.str a) (.str b)) = true then A else B := by
  by_cases h : a = b
  · exact if_F (by show (!decide (a = b)) = false; rw [decide_eq_true h]; rfl) (h2 h)
  · exact if_T (by show (!decide (a = b)) = true; rw [decide_eq_false h]; rfl) (h1 h)
theorem if_neI {a b : Int} {A B : Prop} (h1 : ¬ a = b → A) (h2 : a = b → B) : if (!eqS (.int a) (.int b)) = true then A else B := by
  by_cases h : a = b
  · exact if_F (by show (!decide (a = b)) = false; rw [decide_eq_true h]; rfl) (h2 h)
  · exact if_T (by show (!decide (a = b)) = true; rw [decide_eq_false h]; rfl) (h1 h)
/-- a comprehension that changes nothing -/
theorem n_map {g : TG} {wi : TI} {vs : List Nat} (hg : GW g vs) (h : EI K wi S fun ds S1 => wipeS S1 vs = S1 ∧ ds.length ≤ 1000000 ∧ ∃ f : PyData → PyData, (∀ d, d ∈ ds → GG K g d S1 fun S3 => EE K te S3 fun x S5 => x = .dat (f d) ∧ wipeS S5 vs = S1) ∧ RO (.lst (ds.map f)) S1) : EN K (tLc wi g tYes te vs) S RO := by
  refine en_lc hg (EI.imp h fun ds S1 ⟨h1, h2, f, h3, h4⟩ => ⟨h1, h2, fun i acc S2 => S2 = S1 ∧ acc = (ds.take i).map f, ⟨rfl, rfl⟩, fun i d acc S2 hd ⟨e1, e2⟩ _ => ?_, fun acc S2 ⟨e1, e2⟩ => ?_⟩)
  · subst e1 e2
    have q := h3 d (List.mem_of_getElem? hd)
    intro e F H σ v w r Q k
    refine q e F H σ v w r Q fun S3 F3 H3 σ3 w3 m3 q3 => k S3 F3 H3 σ3 w3 m3 (t_yes (if_T rfl (ee_imp q3 fun x S5 ⟨e3, e4⟩ => ⟨_, e3, e4, ?_⟩)))
    rw [List.take_add_one, hd, List.map_append]
    rfl
  · subst e1 e2
    rw [List.take_length]
    exact h4
end
/-- x, y = [..], [s]: the first a list of one's own, the second data -/
theorem ss_parOL {K : PySem.W.Frag} {S : List Sl} {P : Po} {i j : Nat} {t1 : TE} {z : Str} (h : EN K t1 S fun o S1 => Nat.blt i S1.length = true ∧ Nat.blt j S1.length = true ∧ ∀ a, P.nx ((S1.set i (.own true a o)).set j (.dat (.list [.str z])))) :
    SS K (tPar i j (tCons t1 (tCons (tLst (tCons (tC (.str z)) tNil)) tNil))) S P := fun e F H σ D w n r b c =>
  h e F H σ w _ fun a o S1 F1 H1 w1 m1 n1 n0 r1 no ⟨hi, hj, q⟩ => by
    refine ⟨sz1 (by simp), fun p hp => ⟨_, _, rfl, ?_⟩⟩
    have nf : F1 p = none := w1.sub.free hp
    obtain ⟨u, hu⟩ := r1.there
    have hap : a ≠ p := fun e => by
      rw [e, hp] at hu
      cases hu
    have w2 := w1.laid (o := .lst [.str z]) hp
    have n2 : upd F1 p (.lst [.str z]) a = none := by rw [upd_ne hap]; exact n1
    have r2 : OwnOk K (upd F1 p (.lst [.str z])) (upd H1 p (.lst [.str z])) a o := r1.mono (same_new nf) fun u hu => by rw [upd_ne hap]; exact hu
    refine n _ _ _ _ ((w2.putOwn (m := true) (lt_of_blt hi) n0 n2 r2 no).put (by rw [List.length_set]; exact lt_of_blt hj) (.lst upd_same (.cons (.str _) .nil))) (m1.trans (same_new nf)) (q a)
end DL

namespace DL
open PySem PySem.Spec PyProof.Rows L2
/-! ## dicts -/
section
variable {κ : Type} [DecidableEq κ]
def getE (es : List (κ × PyData)) (k : κ) : Option PyData := (es.find? fun p => decide (p.1 = k)).map (·.2)
def putE (es : List (κ × PyData)) (k : κ) (d : PyData) : List (κ × PyData) :=
  if (es.any fun p => decide (p.1 = k)) = true then es.map (fun p => if p.1 = k then (p.1, d) else p) else es ++ [(k, d)]
inductive RepE (K : PySem.W.Frag) (F : Hp) : List (κ × V) → List (κ × PyData) → Prop
  | nil : RepE K F [] []
  | cons {k : κ} {v : V} {d : PyData} {vs : List (κ × V)} {ds : List (κ × PyData)} : Rep K F v d → RepE K F vs ds → RepE K F ((k, v) :: vs) ((k, d) :: ds)
variable {K : PySem.W.Frag} {F : Hp} {kvs : List (κ × V)} {es : List (κ × PyData)}
theorem RepE.length (r : RepE K F kvs es) : kvs.length = es.length := by
  induction r with
  | nil => rfl
  | cons _ _ ih => exact congrArg (· + 1) ih
theorem RepE.any (r : RepE K F kvs es) (k : κ) : (kvs.any fun p => decide (p.1 = k)) = es.any fun p => decide (p.1 = k) := by
  induction r with
  | nil => rfl
  | cons _ _ ih => rw [List.any_cons, List.any_cons, ih]
theorem RepE.get (r : RepE K F kvs es) (k : κ) : (valV kvs k = none ∧ getE es k = none) ∨ ∃ v d, valV kvs k = some v ∧ getE es k = some d ∧ Rep K F v d := by
  induction r with
  | nil => exact .inl ⟨rfl, rfl⟩
  | @cons k' v d vs ds h _ ih =>
    by_cases c : k' = k
    · refine .inr ⟨v, d, valV_pos c, ?_, h⟩
      simp [getE, List.find?_cons, c]
    · have e : getE ((k', d) :: ds) k = getE ds k := by simp [getE, List.find?_cons, c]
      rw [valV_neg c, e]
      exact ih
theorem RepE.put (r : RepE K F kvs es) (k : κ) {v : V} {d : PyData} (h : Rep K F v d) : RepE K F (putK kvs k v) (putE es k d) := by
  unfold putK putE
  rw [r.any k]
  by_cases c : (es.any fun p => decide (p.1 = k)) = true
  · rw [if_pos c, if_pos c]
    clear c
    induction r with
    | nil => exact .nil
    | @cons k' v' d' vs ds h' _ ih =>
      rw [List.map_cons, List.map_cons]
      by_cases c : k' = k
      · rw [if_pos c, if_pos c]
        exact .cons h ih
      · rw [if_neg c, if_neg c]
        exact .cons h' ih
  · rw [if_neg c, if_neg c]
    clear c
    induction r with
    | nil => exact .cons h .nil
    | cons h' _ ih => exact .cons h' ih
theorem RepE.mono {F' : Hp} (r : RepE K F kvs es) (m : Same F F') : RepE K F' kvs es := by
  induction r with
  | nil => exact .nil
  | cons h _ ih => exact .cons (h.mono m) ih
end
def dKs (es : List (Key × PyData)) : List (PyData × PyData) := es.map fun p => (kD p.1, p.2)
def dTs (es : List (List Key × PyData)) : List (PyData × PyData) := es.map fun p => (.tuple (p.1.map kD), p.2)
theorem kD_inj {k k' : Key} (h : kD k = kD k') : k = k' := by
  cases k <;> cases k' <;> simp [kD] at h ⊢ <;> exact h
theorem kDs_inj : ∀ {k k' : List Key}, k.map kD = k'.map kD → k = k'
  | [], [], _ => rfl
  | [], _ :: _, h => by simp at h
  | _ :: _, [], h => by simp at h
  | a :: k, b :: k', h => by
    have h := List.cons.inj h
    rw [kD_inj h.1, kDs_inj h.2]
section
variable {K : PySem.W.Frag} {F : Hp}
theorem repK_inv : ∀ {kvs : List (Key × V)} {es : List (Key × PyData)}, RepK K F kvs (dKs es) → RepE K F kvs es
  | [], [], _ => .nil
  | [], _ :: _, h => by cases h
  | _ :: _, [], h => by cases h
  | (k, v) :: kvs, (k', d) :: es, h => by
    have h : RepK K F ((k, v) :: kvs) ((kD k', d) :: dKs es) := h
    generalize e : kD k' = z at h
    cases h with
    | cons r t =>
      cases kD_inj e
      exact .cons r (repK_inv t)
theorem repK_none {kvs : List (Key × V)} {z : PyData × PyData} {ds : List (PyData × PyData)} (h : RepK K F kvs (z :: ds)) : z.1 ≠ .none := by
  cases h with
  | @cons k v vs d ds r t =>
    intro h
    cases k <;> cases h
theorem RepE.k : ∀ {kvs : List (Key × V)} {es : List (Key × PyData)}, RepE K F kvs es → RepK K F kvs (dKs es)
  | _, _, .nil => .nil
  | _, _, .cons h r => .cons h (RepE.k r)
theorem repT_inv : ∀ {kvs : List (List Key × V)} {es : List (List Key × PyData)}, RepT K F kvs (dTs es) → RepE K F kvs es
  | [], [], _ => .nil
  | [], _ :: _, h => by cases h
  | _ :: _, [], h => by cases h
  | (k, v) :: kvs, (k', d) :: es, h => by
    have h : RepT K F ((k, v) :: kvs) ((.tuple (k'.map kD), d) :: dTs es) := h
    generalize e : PyData.tuple (k'.map kD) = z at h
    cases h with
    | cons r t =>
      cases kDs_inj (PyData.tuple.inj e)
      exact .cons r (repT_inv t)
theorem RepE.t : ∀ {kvs : List (List Key × V)} {es : List (List Key × PyData)}, RepE K F kvs es → RepT K F kvs (dTs es)
  | _, _, .nil => .nil
  | _, _, .cons h r => .cons h (RepE.t r)
theorem rep_key {v : V} {k : Key} (r : Rep K F v (kD k)) : v = kV k := by
  cases k <;> (cases r; rfl)
theorem reps_keys : ∀ {vs : List V} {ks : List Key}, Reps K F vs (ks.map kD) → vs = ks.map kV
  | [], [], _ => rfl
  | [], _ :: _, h => by cases h
  | _ :: _, [], h => by cases h
  | v :: vs, k :: ks, h => by
    cases h with
    | cons r t => rw [rep_key r, reps_keys t]; rfl
/-- a tuple that begins with a number is tracked -/
theorem rep_node {v : V} {i : Int} {ks : List Key} (r : Rep K F v (.tuple ((Sum.inl i :: ks : List Key).map kD))) : ∃ b, v = .ref b ∧ F b = some (.tup ((Sum.inl i :: ks : List Key).map kV)) := by
  cases r with
  | tup h r =>
    have e := reps_keys r
    subst e
    rcases h with h | h
    · exact ⟨_, rfl, h⟩
    · exact h.elim
end
section
variable {K : PySem.W.Frag} {S : List Sl} {R : Vx → List Sl → Prop} {RO : Own → List Sl → Prop} {ta tb te : TE} {P : Po}
theorem en_dnewK (q : RO (.dct []) S) : EN K tDNewK S RO := fun e F H σ w Q k => fun p hp =>
  k p (.dct []) S F _ (w.fresh hp) (Same.refl _) (w.sub.free hp) (w.n0 hp) ⟨[], upd_same, .nil⟩ (w.no hp) q
theorem en_dnewT (q : RO (.dtt []) S) : EN K tDNewT S RO := fun e F H σ w Q k => fun p hp =>
  k p (.dtt []) S F _ (w.fresh hp) (Same.refl _) (w.sub.free hp) (w.n0 hp) ⟨[], upd_same, .nil⟩ (w.no hp) q
/-- d[k] = v, an owned dict, keys numbers and texts -/
theorem ss_dputK {i : Nat} {ti : TE} (h : EE K te S fun x S1 => ∃ d, x = .dat d ∧ ∃ m0 a0 o0, S1[i]? = some (.own m0 a0 o0) ∧ EE K ti S1 fun y S2 => ∃ (k : Key) (m : Bool) (a : Addr) (es : List (Key × PyData)), y = .dat (kD k) ∧ S2[i]? = some (.own m a (.dct (dKs es))) ∧ es.length ≤ 1000000 ∧ P.nx (S2.set i (.own m a (.dct (dKs (putE es k d)))))) : SS K (sDPut (tVar i) ti te) S P := fun e F H σ D w n r b c =>
  h e F H σ w _ fun v x S1 F1 H1 w1 m1 r1 ⟨d, e1, m0, a0, o0, g0, q1⟩ => by
    subst e1
    obtain ⟨h1, _⟩ := w1.slots i _ g0
    refine ⟨_, h1, q1 e F1 H1 σ w1 _ fun u y S2 F2 H2 w2 m2 r2 ⟨k, m, a, es, e2, g, hl, q⟩ => ?_⟩
    subst e2
    obtain ⟨g1, _, _, kvs, g3, g4⟩ := w2.slots i _ g
    have e3 : a0 = a := by
      rw [h1] at g1
      exact V.ref.inj (Option.some.inj (Option.some.inj g1))
    subst e3
    have g5 := repK_inv g4
    refine ⟨a0, _, rfl, .inl ⟨kvs, k, g3, rep_key r2, by rw [g5.length, sizeLine_eq]; omega, rfl⟩, ?_⟩
    exact n _ F2 _ σ (w2.writeOwn (p := .dct _) g ⟨_, upd_same, (g5.put k (r1.mono m2)).k⟩) (m1.trans m2) q
/-- d[k] = v, an owned dict, keys tuples that begin with a number -/
theorem ss_dputT {i : Nat} {ti : TE} (h : EE K te S fun x S1 => ∃ d, x = .dat d ∧ ∃ m0 a0 o0, S1[i]? = some (.own m0 a0 o0) ∧ EE K ti S1 fun y S2 => ∃ (j : Int) (ks : List Key) (m : Bool) (a : Addr) (es : List (List Key × PyData)), y = .dat (.tuple ((Sum.inl j :: ks : List Key).map kD)) ∧ S2[i]? = some (.own m a (.dtt (dTs es))) ∧ es.length ≤ 1000000 ∧ P.nx (S2.set i (.own m a (.dtt (dTs (putE es (Sum.inl j :: ks) d)))))) : SS K (sDPut (tVar i) ti te) S P := fun e F H σ D w n r b c =>
  h e F H σ w _ fun v x S1 F1 H1 w1 m1 r1 ⟨d, e1, m0, a0, o0, g0, q1⟩ => by
    subst e1
    obtain ⟨h1, _⟩ := w1.slots i _ g0
    refine ⟨_, h1, q1 e F1 H1 σ w1 _ fun u y S2 F2 H2 w2 m2 r2 ⟨j, ks, m, a, es, e2, g, hl, q⟩ => ?_⟩
    subst e2
    obtain ⟨g1, _, _, kvs, g3, g4⟩ := w2.slots i _ g
    have e3 : a0 = a := by
      rw [h1] at g1
      exact V.ref.inj (Option.some.inj (Option.some.inj g1))
    subst e3
    have g5 := repT_inv g4
    obtain ⟨bb, e4, hb⟩ := rep_node r2
    refine ⟨a0, _, rfl, .inr ⟨kvs, _, bb, g3, e4, w2.sub _ _ hb, by rw [g5.length, sizeLine_eq]; omega, rfl⟩, ?_⟩
    exact n _ F2 _ σ (w2.writeOwn (p := .dtt _) g ⟨_, upd_same, (g5.put _ (r1.mono m2)).t⟩) (m1.trans m2) q
theorem rb_lenK {i : Nat} {m : Bool} {a : Addr} {es : List (Key × PyData)} (h : S[i]? = some (.own m a (.dct (dKs es)))) (q : R (.dat (.int es.length)) S) : RB K (uLenR K) [.ptr i] S R := fun e F H σ vs w rx Q k => by
  cases rx with
  | cons rx r0 =>
    cases r0
    obtain ⟨g1, _, _, kvs, g3, g4⟩ := w.slots i _ h
    have e1 := (show σ[i]? = some (some _) from rx).symm.trans g1
    cases Option.some.inj (Option.some.inj e1)
    refine .inr ⟨a, kvs, rfl, g3, k _ (.dat (.int _)) S F H w (Same.refl _) ?_ q⟩
    rw [(repK_inv g4).length]
    exact .int _
/-- a dict with tuple keys: owned, or data -/
def dctT (es : List (List Key × PyData)) : PyData := .dict ((.none, .none) :: dTs es)
def DctAt (S : List Sl) (es : List (List Key × PyData)) : Vx → Prop
  | .dat d => d = dctT es
  | .ptr i => ∃ m a, S[i]? = some (.own m a (.dtt (dTs es)))
theorem DctAt.get {e : En} {F H : Hp} {σ : L2.St} {v : V} {es : List (List Key × PyData)} {x : Vx} (w : Wd K e F H σ S) (r : RepX K F σ v x) (h : DctAt S es x) : ∃ a kvs, v = .ref a ∧ H a = some (.dT kvs) ∧ RepE K F kvs es := by
  cases x with
  | dat d =>
    have h : d = dctT es := h
    subst h
    have r : Rep K F v (.dict ((.none, .none) :: dTs es)) := r
    generalize e0 : ((PyData.none, PyData.none) :: dTs es) = z at r
    cases r with
    | dk h1 r1 =>
      exfalso
      subst e0
      exact repK_none r1 rfl
    | dt h1 r1 =>
      cases e0
      exact ⟨_, _, rfl, w.sub _ _ h1, repT_inv r1⟩
    | dl h1 r1 => cases e0
  | ptr i =>
    obtain ⟨m, a, h⟩ := h
    obtain ⟨g1, _, _, kvs, g3, g4⟩ := w.slots i _ h
    have e1 := (show σ[i]? = some (some v) from r).symm.trans g1
    cases Option.some.inj (Option.some.inj e1)
    exact ⟨a, kvs, rfl, g3, repT_inv g4⟩
theorem rr_inDT {x : Vx} {j : Int} {ks : List Key} {es : List (List Key × PyData)} (hx : DctAt S es x) (q : R (.dat (.bool (getE es (Sum.inl j :: ks)).isSome)) S) : RR K (uInR K) (.dat (.tuple ((Sum.inl j :: ks : List Key).map kD))) x S R := fun e F H σ v u w rx ry Q k => by
  obtain ⟨b, rfl, hb⟩ := rep_node rx
  obtain ⟨a, kvs, rfl, ha, r⟩ := hx.get w ry
  refine .inr (.inr ⟨a, _, rfl, .inr ⟨kvs, _, b, .inl ha, rfl, w.sub _ _ hb, rfl⟩, k _ (.dat (.bool _)) S F H w (Same.refl _) ?_ q⟩)
  rcases r.get (Sum.inl j :: ks) with ⟨h1, h2⟩ | ⟨v, d, h1, h2, _⟩
  · rw [h1, h2]; exact .bl _
  · rw [h1, h2]; exact .bl _
theorem ee_dgetT (h : EE K ta S fun x S1 => EE K tb S1 fun y S2 => ∃ (j : Int) (ks : List Key) (es : List (List Key × PyData)) (d : PyData), DctAt S2 es x ∧ y = .dat (.tuple ((Sum.inl j :: ks : List Key).map kD)) ∧ getE es (Sum.inl j :: ks) = some d ∧ R (.dat d) S2) : EE K (tDGet ta tb) S R := fun e F H σ w Q k =>
  h e F H σ w _ fun v x S1 F1 H1 w1 m1 r1 q1 => q1 e F1 H1 σ w1 _ fun u y S2 F2 H2 w2 m2 r2 ⟨j, ks, es, d, hx, e2, hd, q⟩ => by
    subst e2
    obtain ⟨b, rfl, hb⟩ := rep_node r2
    have r1' : RepX K F2 σ v x := by
      cases x with
      | dat d => exact Rep.mono m2 r1
      | ptr i => exact r1
    obtain ⟨a, kvs, rfl, ha, r⟩ := hx.get w2 r1'
    rcases r.get (Sum.inl j :: ks) with ⟨h1, h2⟩ | ⟨v, d', h1, h2, h3⟩
    · rw [h2] at hd; cases hd
    · rw [h2] at hd
      cases hd
      exact ⟨a, v, rfl, .inr ⟨kvs, _, b, .inl ha, rfl, w2.sub _ _ hb, h1.symm⟩, k _ (.dat d) S2 F2 H2 w2 (m1.trans m2) h3 q⟩
/-- x op= e, numbers -/
theorem ss_augC {i : Nat} {C : Int → Int → Prop} {f : Int → Int → Int} {a : Int} (g : S[i]? = some (.dat (.int a))) (h : EE K te S fun y S1 => ∃ b, y = .dat (.int b) ∧ C a b ∧ Nat.blt i S1.length = true ∧ P.nx (S1.set i (.dat (.int (f a b))))) : SS K (tAug i te (rI C fun a b => .int (f a b))) S P := fun e F H σ D w n r b c => by
  obtain ⟨v, h1, r0⟩ := w.slots i _ g
  cases r0
  refine ⟨_, h1, h e F H σ w _ fun u y S1 F1 H1 w1 m1 r1 ⟨b, e1, hc, hl, q⟩ => ?_⟩
  subst e1
  cases r1
  exact ⟨a, b, rfl, rfl, hc, n _ F1 H1 _ (w1.put (lt_of_blt hl) (.int _)) m1 q⟩
theorem ss_augI {i : Nat} {f : Int → Int → Int} {a : Int} (g : S[i]? = some (.dat (.int a))) (h : EE K te S fun y S1 => ∃ b, y = .dat (.int b) ∧ Nat.blt i S1.length = true ∧ P.nx (S1.set i (.dat (.int (f a b))))) : SS K (tAug i te (ipI f)) S P := fun e F H σ D w n r b c => by
  obtain ⟨v, h1, r0⟩ := w.slots i _ g
  cases r0
  refine ⟨_, h1, h e F H σ w _ fun u y S1 F1 H1 w1 m1 r1 ⟨b, e1, hl, q⟩ => ?_⟩
  subst e1
  cases r1
  exact ⟨a, b, rfl, rfl, n _ F1 H1 _ (w1.put (lt_of_blt hl) (.int _)) m1 q⟩
/-- a comprehension, by places -/
theorem n_mapI {g : TG} {wi : TI} {vs : List Nat} (hg : GW g vs) (h : EI K wi S fun ds S1 => wipeS S1 vs = S1 ∧ ds.length ≤ 1000000 ∧ ∃ es : List PyData, es.length = ds.length ∧ (∀ (i : Nat) (d e : PyData), ds[i]? = some d → es[i]? = some e → GG K g d S1 fun S3 => EE K te S3 fun x S5 => x = .dat e ∧ wipeS S5 vs = S1) ∧ RO (.lst es) S1) : EN K (tLc wi g tYes te vs) S RO := by
  refine en_lc hg (EI.imp h fun ds S1 ⟨h1, h2, es, hl, h3, h4⟩ => ⟨h1, h2, fun i acc S2 => S2 = S1 ∧ acc = es.take i, ⟨rfl, rfl⟩, fun i d acc S2 hd ⟨e1, e2⟩ _ => ?_, fun acc S2 ⟨e1, e2⟩ => ?_⟩)
  · subst e1 e2
    have hi : i < es.length := by rw [hl]; exact (List.getElem?_eq_some_iff.mp hd).1
    have he : es[i]? = some es[i] := List.getElem?_eq_getElem hi
    have q := h3 i d es[i] hd he
    intro e F H σ v w r Q k
    refine q e F H σ v w r Q fun S3 F3 H3 σ3 w3 m3 q3 => k S3 F3 H3 σ3 w3 m3 (t_yes (if_T rfl (ee_imp q3 fun x S5 ⟨e3, e4⟩ => ⟨_, e3, e4, ?_⟩)))
    rw [List.take_add_one, he]
    rfl
  · subst e1 e2
    rw [← hl, List.take_length]
    exact h4
end
end DL

namespace DL
open PySem PySem.Spec PyProof.Rows L2
/-! ## enumerate and zip over lists, tuples and texts in any mix -/
inductive Sr where
  | lst (a : Addr)
  | tup (a : Addr)
  | txt (x : Str)
def SrIs (K : PySem.W.Frag) (H : Hp) : Sr → List V → Prop
  | .lst a, xs => SqL K H a xs
  | .tup a, xs => SqT K H a xs
  | .txt x, xs => xs = x.cps.toList.map fun c => V.str ⟨#[c]⟩
def SrV : Sr → V
  | .lst a => .ref a
  | .tup a => .ref a
  | .txt x => .str x
def SrIt (h : Heap) (it : Addr) (i : Nat) : Sr → Prop
  | .lst a => h.IsListIter it a i
  | .tup a => h.IsTupleIter it a i
  | .txt x => ∃ t, h.IsStrIter it (strIterType x) x t i
def srA : Sr → List Addr
  | .lst a => [a]
  | .tup a => [a]
  | .txt _ => []
theorem SrIt.there {h : Heap} {it : Addr} {i : Nat} {sr : Sr} (st : SrIt h it i sr) : ∃ o, h.get? it = some o ∧ ∀ v, o.data ≠ .cell v := by
  cases sr with
  | lst a => obtain ⟨o, e, _, d⟩ := st; exact ⟨o, e, fun v q => by rw [d] at q; cases q⟩
  | tup a => obtain ⟨o, e, _, d⟩ := st; exact ⟨o, e, fun v q => by rw [d] at q; cases q⟩
  | txt x => obtain ⟨t, o, e, _, d⟩ := st; exact ⟨o, e, fun v q => by rw [d] at q; cases q⟩
theorem SrIt.keep {h h' : Heap} {it : Addr} {i : Nat} {sr : Sr} (st : SrIt h it i sr) (k : ∀ o, h.get? it = some o → h'.get? it = some o) : SrIt h' it i sr := by
  cases sr with
  | lst a => exact Heap.IsListIter.at st k
  | tup a => exact Heap.IsTupleIter.at st k
  | txt x => obtain ⟨t, o, e, r⟩ := st; exact ⟨t, o, k o e, r⟩
theorem vals_get {xs : List V} {its : List Value} (r : Vals xs its) {i : Nat} {v : Value} (h : its[i]? = some v) : ∃ x, xs[i]? = some x ∧ RelV x v := by
  induction r generalizing i with
  | nil => simp at h
  | cons r0 _ ih =>
    cases i with
    | zero =>
      have h : some _ = some v := h
      cases h
      exact ⟨_, rfl, r0⟩
    | succ i => exact ih (by simpa using h)
/-- what is drawn -/
theorem sr_draw {X : Cx} {pins : List (Addr × Obj)} {σ : L2.St} {H : Hp} {s : Shared} (I : Inv X pins σ H s) (hh : X.A.handled = none) {sr : Sr} {xs : List V} {it : Addr} {i : Nat} (q : SrIs X.K H sr xs) (st : SrIt s.heap it i sr) (hne : it ∉ srA sr) :
    ∃ (P : Nat → Value → Prop) (St : Nat → Heap → Prop), Draws X.prog X.w X.A.in1 it (it :: srA sr) xs.length P St ∧ St i s.heap ∧ (∀ j h, St j h → SrIt h it j sr) ∧ ∀ j v, P j v → ∃ x, xs[j]? = some x ∧ RelV x v := by
  have hh1 : X.A.in1.handled = none := hh
  cases sr with
  | lst a =>
    obtain ⟨its, rv, p, _⟩ := I.list q
    have hl := rv.length
    have D := Draws.list (prog := X.prog) (w := X.w) hh1 it a (fun z => hne (by simp [srA, z])) its.toArray
    rw [show its.toArray.size = xs.length by simp [hl]] at D
    exact ⟨_, _, D, ⟨st, p.isList⟩, fun j h z => z.1, fun j v z => vals_get rv (by simpa using z)⟩
  | tup a =>
    obtain ⟨its, rv, p, _⟩ := I.tuple q
    have hl := rv.length
    have D := Draws.tuple (prog := X.prog) (w := X.w) hh1 it a (fun z => hne (by simp [srA, z])) its.toArray
    rw [show its.toArray.size = xs.length by simp [hl]] at D
    exact ⟨_, _, D, ⟨st, p⟩, fun j h z => z.1, fun j v z => vals_get rv (by simpa using z)⟩
  | txt x =>
    obtain ⟨t, st⟩ := st
    have q : xs = x.cps.toList.map fun c => V.str ⟨#[c]⟩ := q
    have D := Draws.text (prog := X.prog) (w := X.w) hh1 it x t
    rw [show x.cps.size = xs.length by rw [q]; simp] at D
    refine ⟨_, _, D, st, fun j h z => ⟨t, z⟩, fun j v z => ?_⟩
    obtain ⟨c, u, hc, rfl⟩ := z
    refine ⟨.str ⟨#[c]⟩, ?_, ⟨u, rfl⟩⟩
    rw [q, List.getElem?_map, Array.getElem?_toList, hc]
    rfl
theorem SrIs.inj {X : Cx} {pins : List (Addr × Obj)} {σ : L2.St} {H : Hp} {s : Shared} (I : Inv X pins σ H s) {sr : Sr} {xs ys : List V} (h : SrIs X.K H sr xs) (h' : SrIs X.K H sr ys) : xs = ys := by
  cases sr with
  | lst a => exact I.list_inj h h'
  | tup a => exact I.tuple_inj h h'
  | txt x => exact Eq.trans h (Eq.symm h')
/-- how it begins -/
theorem sr_begin {X : Cx} {pins : List (Addr × Obj)} {σ : L2.St} {H : Hp} {s : Shared} (I : Inv X pins σ H s) {sr : Sr} {xs : List V} {v : Value} (q : SrIs X.K H sr xs) (r : RelV (SrV sr) v) :
    ∃ (o : Obj) (B : Heap → Prop), Begins v o B ∧ B s.heap ∧ (∀ h it, h.get? it = some o → SrIt h it 0 sr) ∧ ∀ a ∈ srA sr, a < s.heap.objs.size := by
  cases sr with
  | lst a =>
    cases r
    obtain ⟨its, rv, p, _⟩ := I.list q
    refine ⟨_, _, begins_list a its.toArray, p.isList, fun h it e => ⟨_, e, rfl, rfl⟩, fun b hb => ?_⟩
    rw [show b = a by simpa [srA] using hb]
    exact p.lt
  | tup a =>
    cases r
    obtain ⟨its, rv, p, _⟩ := I.tuple q
    refine ⟨_, _, begins_tuple a its.toArray, p, fun h it e => ⟨_, e, rfl, rfl⟩, fun b hb => ?_⟩
    rw [show b = a by simpa [srA] using hb]
    obtain ⟨o, ho, _⟩ := id p
    exact Heap.lt_size ho
  | txt x =>
    obtain ⟨t, rfl⟩ := r
    exact ⟨_, _, begins_text x t, trivial, fun h it e => ⟨t, _, e, rfl, rfl⟩, fun b hb => by simp [srA] at hb⟩
def ItEn (K : PySem.W.Frag) (sr : Sr) : It :=
  ⟨fun i H => ∃ (xs : List V) (x : V), SrIs K H sr xs ∧ xs[i]? = some x, fun i H v H' => ∃ T x, v = .ref T ∧ H T = none ∧ H' = upd H T (.tup [.int (i : Nat), x]) ∧ ∀ xs, SrIs K H sr xs → xs[i]? = some x, fun i H => ∃ xs : List V, SrIs K H sr xs ∧ xs.length = i⟩
theorem turn_en {P : Program} {w : World} {K : PySem.W.Frag} {elts : List Expr} {kk : Nat} {tpos : Pos} {sr : Sr} {e it : Addr} (hei : e ≠ it) (hea : e ∉ srA sr) (hia : it ∉ srA sr) :
    Turn P w K (.Tuple elts kk tpos) (ItEn K sr) [e, it] e (fun i h => (∃ old, IsEnum h e it ((0 : Int) + (i : Int)) old) ∧ SrIt h it i sr) where
  mem := by simp
  obj := fun i h st b hb => by
    obtain ⟨⟨old, he⟩, hi⟩ := st
    have e' : b = e ∨ b = it := by simpa using hb
    rcases e' with z | z
    · rw [z]; exact ⟨_, he, fun v q => nomatch q⟩
    · rw [z]; exact hi.there
  keep := fun i h h' st k => let ⟨⟨old, he⟩, hi⟩ := st; ⟨⟨old, k e (by simp) _ he⟩, hi.keep fun o q => k it (by simp) o q⟩
  item := by
    intro X hP hw hK hc i pins s σ H E I hf st hg
    subst hP hw hK
    obtain ⟨he, hit⟩ := st
    obtain ⟨xs, x, hq, hx⟩ := hg
    obtain ⟨P, St, D, s0, s1, s2⟩ := sr_draw I (I.ok.hd hc) hq hit hia
    have hef : e ∉ it :: srA sr := by simp [hei, hea]
    have G := GoesN.enumFrom (elts := elts) (x1 := kk) (pos := tpos) 0 D e hei hef (by simp)
    have hlt : i < xs.length := (List.getElem?_eq_some_iff.mp hx).1
    refine G.goes i s (fun v s2 => ∃ x H', Inv X pins σ H' s2 ∧ RelV x v ∧ (ItEn X.K sr).yld i H x H' ∧ ((∃ old, IsEnum s2.heap e it ((0 : Int) + ((i + 1 : Nat) : Int)) old) ∧ SrIt s2.heap it (i + 1) sr) ∧ ∀ b ∈ [e, it], H' b = none) E hlt ⟨he, s0⟩ fun v h' tk hY st' hk htk => ?_
    obtain ⟨T, t, y, rfl, hT, hP, hTup⟩ := hY
    obtain ⟨x2, hx2, rx⟩ := s2 i y hP
    rw [hx] at hx2
    cases hx2
    have new : ObjOk X.prog X.w (upd H T (.tup [.int (i : Nat), x])) h' T (.tup [.int (i : Nat), x]) :=
      ⟨by show 2 ≤ sizeLine; decide, [.int (0 + (i : Int)) t, y], .cons ⟨t, by rw [Int.zero_add]⟩ (.cons rx .nil), hTup⟩
    have I1 : Inv X pins σ (upd H T (.tup [.int (i : Nat), x])) { s with heap := h', toks := tk } :=
      I.turnedNew (ch := [e, it]) (fun b o hb q => hk b o hb q) hf hT new
    refine ⟨.ref T, _, I1, rfl, ⟨T, x, rfl, I.hok.fresh hT, rfl, fun ys hy => by rw [SrIs.inj I hy hq]; exact hx⟩, ⟨st'.1, s1 _ _ st'.2⟩, fun b hb => ?_⟩
    obtain ⟨old, he⟩ := he
    have hb' : b < s.heap.objs.size := by
      have e' : b = e ∨ b = it := by simpa using hb
      rcases e' with z | z
      · rw [z]; exact Heap.lt_size he
      · rw [z]; obtain ⟨o, ho, _⟩ := hit.there; exact Heap.lt_size ho
    rw [upd_ne (Nat.ne_of_lt (Nat.lt_of_lt_of_le hb' hT))]
    exact (hf b hb).1
  done := by
    intro X hP hw hK hc i pins s σ H E I hf st hg
    subst hP hw hK
    obtain ⟨he, hit⟩ := st
    obtain ⟨xs, hq, hx⟩ := hg
    obtain ⟨P, St, D, s0, s1, s2⟩ := sr_draw I (I.ok.hd hc) hq hit hia
    have hef : e ∉ it :: srA sr := by simp [hei, hea]
    have G := GoesN.enumFrom (elts := elts) (x1 := kk) (pos := tpos) 0 D e hei hef (by simp)
    subst hx
    exact G.stops s (fun s1 => Inv X pins σ H s1) E ⟨he, s0⟩ fun h' tk hk htk => I.turnedL (ch := [e, it]) (fun b o hb q => hk b o hb q) hf
  self := fun A i s Q E st h => let ⟨⟨_, he⟩, _⟩ := st; wpAny_pyIter_enum he h
def iEn (K : PySem.W.Frag) (ta : TA) : TI := fun σ H R => ta σ H fun vs H1 => ∃ sr xs, vs = [SrV sr] ∧ SrIs K H1 sr xs ∧ R (ItEn K sr) H1
set_option maxHeartbeats 4000000 in
theorem meets_enum_new1 {v : Value} {o : Obj} {H : Heap → Prop} (B : Begins v o H) :
    Meets (Builtin.«enumerate.__new__» ⟨[.type "enumerate", v], []⟩) (fun _ R s => H s.heap ∧
      R (.ok (.ret (.ref (s.heap.push o).objs.size))) { s with heap := (s.heap.push o).push { cls := .type "enumerate", data := .fields #[.none, .bool false, .ref s.heap.objs.size, rawInt 0, .none, .none] } }) :=
  .of_wp fun prog w A R s h => by
    obtain ⟨hp, g, d, tk, os⟩ := s; obtain ⟨h1, h⟩ := h
    have hsub := sub_enumerate
    have q1 : ∀ {A' : Around} {E : Value → Shared → Prop} {Q : Value → Shared → Prop}, Q (.ref hp.objs.size) ⟨hp.push o, g, d, tk, os⟩ → wpAny (model prog w) A' (pyIter v) Q E ⟨hp, g, d, tk, os⟩ :=
      fun q => B.iter prog w _ _ ⟨hp, g, d, tk, os⟩ _ h1 q
    wp_walk using q1
    refine wpAny_stack_any fun st => wpAny_pure ?_
    split
    · rename_i c _ _ _ _ _
      cases (c == Value.type "enumerate")
      · wp_walk using q1
        exact ⟨_, rfl, h⟩
      · wp_walk using q1
        exact ⟨_, rfl, h⟩
    · wp_walk using q1
      exact ⟨_, rfl, h⟩
theorem call_enum1 {prog : Program} {w : World} {A : Around} {E : Value → Shared → Prop} {s : Shared} {v : Value} {o : Obj} {H : Heap → Prop} {Q : Value → Shared → Prop} (B : Begins v o H) (h1 : H s.heap)
    (h : ∀ h', IsEnum h' (s.heap.objs.size + 1) s.heap.objs.size 0 .none → h'.get? s.heap.objs.size = some o → h'.objs.size = s.heap.objs.size + 2 →
      (∀ b o, s.heap.get? b = some o → h'.get? b = some o) → Q (.ref (s.heap.objs.size + 1)) { s with heap := h' }) :
    wpAny (model prog w) A (call (.type "enumerate") [v]) Q E s := by
  refine callType_new F.called_enumerate (by decide) (F.typeCall_enumerate_1 _) (F.newCall_enumerate_1 _) (fun obj => F.args_object_init_2 obj _) F.entry_enumerate_new
    (meets_enum_new1 B) ⟨h1, ?_⟩
  have hz : (s.heap.push o).objs.size = s.heap.objs.size + 1 := Heap.size_push ..
  show _ ∧ _
  rw [hz]
  have he : IsEnum ((s.heap.push o).push { cls := .type "enumerate", data := .fields #[.none, .bool false, .ref s.heap.objs.size, rawInt 0, .none, .none] }) (s.heap.objs.size + 1) s.heap.objs.size 0 .none := by
    have := Heap.get?_push_size (s.heap.push o) (o := { cls := .type "enumerate", data := .fields #[.none, .bool false, .ref s.heap.objs.size, rawInt 0, .none, .none] }) rfl
    rw [hz] at this; exact this
  refine ⟨⟨_, he, rfl⟩, h _ he (Heap.get?_push_of_some _ (Heap.get?_push_size _ B.free)) (by rw [Heap.size_push, hz]) fun b o x => Heap.get?_push_of_some _ (Heap.get?_push_of_some _ x)⟩
theorem pi_en {X : Cx} {e : Expr} {ta : TA} {p pos tpos : Pos} {elts : List Expr} {kk : Nat} (hg : Gl X "enumerate") (hm : X.mg "enumerate" = none) (ha : PA X [e] ta) (hs : starEach [e] X.env = [(false, eval e X.env)] := by rfl) :
    PI X (.Tuple elts kk tpos) (.Call (.Name "enumerate" p) [e] [] pos) (iEn X.K ta) := by
  refine ⟨fun pins s σ H R I h => ?_⟩
  refine Call_ (ld_blt I hg hm boot_enumerate (PyProof.Rows.callWith_type1 (thn (ha.run pos pins s σ H _ I h) fun us s1 ⟨vs, H1, I1, r1, q1⟩ => ?_) hs rfl))
  obtain ⟨sr, xs, ex, hq, q⟩ := q1
  subst ex
  cases r1 with
  | cons r rr =>
    cases rr
    obtain ⟨o, B, hB, b0, b1, b2⟩ := sr_begin I1 hq r
    refine call_enum1 hB b0 fun h' he hit hsz hk => wpAny_pyIter_enum he ?_
    have I2 : Inv X pins σ H1 { s1 with heap := h' } := I1.kept (t' := s1.toks) hk
    refine ⟨s1.heap.objs.size + 1, [s1.heap.objs.size + 1, s1.heap.objs.size], _, _, H1, rfl, I2, turn_en (Nat.succ_ne_self _) (fun z => absurd (b2 _ z) (by show ¬ s1.heap.objs.size + 1 < s1.heap.objs.size; omega)) (fun z => absurd (b2 _ z) (Nat.lt_irrefl _)), ⟨⟨.none, he⟩, b1 _ _ hit⟩, fun b hb => ?_, q⟩
    have e' : b = s1.heap.objs.size + 1 ∨ b = s1.heap.objs.size := by simpa using hb
    have hle : s1.heap.objs.size ≤ b := by
      rcases e' with z | z
      · rw [z]; exact Nat.le_add_right _ _
      · rw [z]; exact Nat.le_refl _
    exact I1.fpOk hle (I1.hok.fresh hle)
/-! zip -/
def ItZp (K : PySem.W.Frag) (sr sq : Sr) : It :=
  ⟨fun i H => ∃ (xs ys : List V) (x y : V), SrIs K H sr xs ∧ SrIs K H sq ys ∧ xs[i]? = some x ∧ ys[i]? = some y,
    fun i H v H' => ∃ T x y, v = .ref T ∧ H T = none ∧ H' = upd H T (.tup [x, y]) ∧ (∀ xs, SrIs K H sr xs → xs[i]? = some x) ∧ ∀ ys, SrIs K H sq ys → ys[i]? = some y,
    fun i H => ∃ xs ys : List V, SrIs K H sr xs ∧ SrIs K H sq ys ∧ min xs.length ys.length = i⟩
theorem turn_zp {P : Program} {w : World} {K : PySem.W.Frag} {elts : List Expr} {kk : Nat} {tpos : Pos} {sr sq : Sr} {z TI TO i1 i2 : Addr} (S : ZipSep2 z TI TO i1 i2 (i1 :: srA sr) (i2 :: srA sq)) (h1 : i1 ∉ srA sr) (h2 : i2 ∉ srA sq) :
    Turn P w K (.Tuple elts kk tpos) (ItZp K sr sq) [z, TI, TO, i1, i2] z (fun i h => IsZip h z TI TO .none ∧ IsTupOf2 h TI (.ref i1) (.ref i2) ∧ (∃ a1 a2, IsTupOf2 h TO a1 a2) ∧ SrIt h i1 i sr ∧ SrIt h i2 i sq) where
  mem := by simp
  obj := fun i h st c hc => by
    obtain ⟨hz, hTI, ⟨x, y, hTO⟩, g1, g2⟩ := st
    have e' : c = z ∨ c = TI ∨ c = TO ∨ c = i1 ∨ c = i2 := by simpa using hc
    rcases e' with q | q | q | q | q
    · rw [q]; exact ⟨_, hz, fun v q => nomatch q⟩
    · rw [q]; exact ⟨_, hTI, fun v q => nomatch q⟩
    · rw [q]; exact ⟨_, hTO, fun v q => nomatch q⟩
    · rw [q]; exact g1.there
    · rw [q]; exact g2.there
  keep := fun i h h' st k => by
    obtain ⟨hz, hTI, ⟨x, y, hTO⟩, g1, g2⟩ := st
    exact ⟨k z (by simp) _ hz, k TI (by simp) _ hTI, ⟨x, y, k TO (by simp) _ hTO⟩, g1.keep fun o q => k i1 (by simp) o q, g2.keep fun o q => k i2 (by simp) o q⟩
  item := by
    intro X hP hw hK hc i pins s σ H E I hf st hg
    subst hP hw hK
    obtain ⟨hz, hTI, hTO, g1, g2⟩ := st
    obtain ⟨xs, ys, x, y, hqx, hqy, hx, hy⟩ := hg
    obtain ⟨P1, St1, D1, s10, s11, s12⟩ := sr_draw I (I.ok.hd hc) hqx g1 h1
    obtain ⟨P2, St2, D2, s20, s21, s22⟩ := sr_draw I (I.ok.hd hc) hqy g2 h2
    have G := GoesN.zip2 (elts := elts) (x1 := kk) (pos := tpos) S D1 D2
    have l1 : i < xs.length := (List.getElem?_eq_some_iff.mp hx).1
    have l2 : i < ys.length := (List.getElem?_eq_some_iff.mp hy).1
    refine G.goes i s (fun v s2 => ∃ x H', Inv X pins σ H' s2 ∧ RelV x v ∧ (ItZp X.K sr sq).yld i H x H' ∧ (IsZip s2.heap z TI TO .none ∧ IsTupOf2 s2.heap TI (.ref i1) (.ref i2) ∧ (∃ a1 a2, IsTupOf2 s2.heap TO a1 a2) ∧ SrIt s2.heap i1 (i + 1) sr ∧ SrIt s2.heap i2 (i + 1) sq) ∧ ∀ b ∈ [z, TI, TO, i1, i2], H' b = none) E (by omega) ⟨hz, hTI, hTO, s10, s20⟩ fun v h' tk hY st' hk htk => ?_
    obtain ⟨T, u, u2, rfl, hT, p1, p2, hTup⟩ := hY
    obtain ⟨x2, hx2, rx⟩ := s12 i u p1
    obtain ⟨y2, hy2, ry⟩ := s22 i u2 p2
    rw [hx] at hx2
    cases hx2
    rw [hy] at hy2
    cases hy2
    have new : ObjOk X.prog X.w (upd H T (.tup [x, y])) h' T (.tup [x, y]) :=
      ⟨by show 2 ≤ sizeLine; decide, [u, u2], .cons rx (.cons ry .nil), hTup⟩
    have I1 : Inv X pins σ (upd H T (.tup [x, y])) { s with heap := h', toks := tk } :=
      I.turnedNew (ch := [z, TI, TO, i1, i2]) (fun b o hb q => hk b o (fun q' => hb (by
        have q' : b = z ∨ b = TO ∨ b = i1 ∨ b = i2 := by simpa using q'
        rcases q' with q' | q' | q' | q' <;> simp [q'])) q) hf hT new
    refine ⟨.ref T, _, I1, rfl, ⟨T, x, y, rfl, I.hok.fresh hT, rfl, fun l hl => by rw [SrIs.inj I hl hqx]; exact hx, fun l hl => by rw [SrIs.inj I hl hqy]; exact hy⟩, ⟨st'.1, st'.2.1, st'.2.2.1, s11 _ _ st'.2.2.2.1, s21 _ _ st'.2.2.2.2⟩, fun b hb => ?_⟩
    obtain ⟨a1, a2, hTO⟩ := hTO
    have hb' : b < s.heap.objs.size := by
      have e' : b = z ∨ b = TI ∨ b = TO ∨ b = i1 ∨ b = i2 := by simpa using hb
      rcases e' with q | q | q | q | q
      · rw [q]; exact Heap.lt_size hz
      · rw [q]; exact Heap.lt_size hTI
      · rw [q]; exact Heap.lt_size hTO
      · rw [q]; obtain ⟨o, ho, _⟩ := g1.there; exact Heap.lt_size ho
      · rw [q]; obtain ⟨o, ho, _⟩ := g2.there; exact Heap.lt_size ho
    rw [upd_ne (Nat.ne_of_lt (Nat.lt_of_lt_of_le hb' hT))]
    exact (hf b hb).1
  done := by
    intro X hP hw hK hc i pins s σ H E I hf st hg
    subst hP hw hK
    obtain ⟨hz, hTI, hTO, g1, g2⟩ := st
    obtain ⟨xs, ys, hqx, hqy, hend⟩ := hg
    obtain ⟨P1, St1, D1, s10, s11, s12⟩ := sr_draw I (I.ok.hd hc) hqx g1 h1
    obtain ⟨P2, St2, D2, s20, s21, s22⟩ := sr_draw I (I.ok.hd hc) hqy g2 h2
    have G := GoesN.zip2 (elts := elts) (x1 := kk) (pos := tpos) S D1 D2
    subst hend
    exact G.stops s (fun s1 => Inv X pins σ H s1) E ⟨hz, hTI, hTO, s10, s20⟩ fun h' tk hk htk => I.turnedL (ch := [z, TI, TO, i1, i2]) (fun b o hb q => hk b o (fun q' => hb (by
        have q' : b = z ∨ b = TO ∨ b = i1 ∨ b = i2 := by simpa using q'
        rcases q' with q' | q' | q' | q' <;> simp [q'])) q) hf
  self := fun A i s Q E st h => wpAny_pyIter_zip st.1 h
def iZp (K : PySem.W.Frag) (ta : TA) : TI := fun σ H R => ta σ H fun vs H1 => ∃ sr sq xs ys, vs = [SrV sr, SrV sq] ∧ SrIs K H1 sr xs ∧ SrIs K H1 sq ys ∧ R (ItZp K sr sq) H1
theorem pi_zp {X : Cx} {e e2 : Expr} {ta : TA} {p pos tpos : Pos} {elts : List Expr} {kk : Nat} (hg : Gl X "zip") (hm : X.mg "zip" = none) (ha : PA X [e, e2] ta)
    (hs : starEach [e, e2] X.env = (false, eval e X.env) :: starEach [e2] X.env := by rfl) (hpl : (backTo pos (starEach [e2] X.env)).any (·.1) = false := by rfl) :
    PI X (.Tuple elts kk tpos) (.Call (.Name "zip" p) [e, e2] [] pos) (iZp X.K ta) := by
  refine ⟨fun pins s σ H R I h => ?_⟩
  refine Call_ (ld_blt I hg hm PyProof.Rows.boot_zip (PyProof.Rows.callWith_type1 (thn (ha.run pos pins s σ H _ I h) fun us s1 ⟨vs, H1, I1, r1, q1⟩ => ?_) hs hpl))
  obtain ⟨sr, sq, xs, ys, ex, hqx, hqy, q⟩ := q1
  subst ex
  cases r1 with
  | cons r rr =>
    cases rr with
    | cons r' rr =>
      cases rr
      obtain ⟨o1, B1, hB1, b10, b11, b12⟩ := sr_begin I1 hqx r
      obtain ⟨o2, B2, hB2, b20, b21, b22⟩ := sr_begin I1 hqy r'
      have fresh5 : ∀ c, c ∈ [s1.heap.objs.size + 4, s1.heap.objs.size + 2, s1.heap.objs.size + 3, s1.heap.objs.size, s1.heap.objs.size + 1] → FpOk X pins H1 c := fun c hcm => by
        have e' : c = s1.heap.objs.size + 4 ∨ c = s1.heap.objs.size + 2 ∨ c = s1.heap.objs.size + 3 ∨ c = s1.heap.objs.size ∨ c = s1.heap.objs.size + 1 := by simpa using hcm
        have hle : s1.heap.objs.size ≤ c := by
          rcases e' with z | z | z | z | z
          · rw [z]; exact Nat.le_add_right _ _
          · rw [z]; exact Nat.le_add_right _ _
          · rw [z]; exact Nat.le_add_right _ _
          · rw [z]; exact Nat.le_refl _
          · rw [z]; exact Nat.le_add_right _ _
        exact I1.fpOk hle (I1.hok.fresh hle)
      refine zip_begins2 hB1 hB2 b10 b20 fun h' hz hTI hTO g1 g2 hsz hk => wpAny_pyIter_zip hz ?_
      have I2 : Inv X pins σ H1 { s1 with heap := h' } := I1.kept (t' := s1.toks) hk
      exact ⟨s1.heap.objs.size + 4, [s1.heap.objs.size + 4, s1.heap.objs.size + 2, s1.heap.objs.size + 3, s1.heap.objs.size, s1.heap.objs.size + 1], _, _, H1, rfl, I2,
        turn_zp (zip_sep2 b12 b22) (fun z => absurd (b12 _ z) (Nat.lt_irrefl _)) (fun z => absurd (b22 _ z) (by show ¬ s1.heap.objs.size + 1 < s1.heap.objs.size; omega)), ⟨hz, hTI, ⟨_, _, hTO⟩, b11 _ _ g1, b21 _ _ g2⟩, fresh5, q⟩
section
variable {X : Cx} (K : PySem.W.Frag)
theorem kEn {e : Expr} {ta : TA} {p pos tpos : Pos} {elts : List Expr} {kk : Nat} (hg : Gl X "enumerate") (hm : X.mg "enumerate" = none) (ha : PA X [e] ta) (hK : X.K = K := by rfl) (hs : starEach [e] X.env = [(false, eval e X.env)] := by rfl) :
    PI X (.Tuple elts kk tpos) (.Call (.Name "enumerate" p) [e] [] pos) (iEn K ta) := hK ▸ pi_en hg hm ha hs
theorem kZp {e e2 : Expr} {ta : TA} {p pos tpos : Pos} {elts : List Expr} {kk : Nat} (hg : Gl X "zip") (hm : X.mg "zip" = none) (ha : PA X [e, e2] ta) (hK : X.K = K := by rfl)
    (hs : starEach [e, e2] X.env = (false, eval e X.env) :: starEach [e2] X.env := by rfl) (hpl : (backTo pos (starEach [e2] X.env)).any (·.1) = false := by rfl) :
    PI X (.Tuple elts kk tpos) (.Call (.Name "zip" p) [e, e2] [] pos) (iZp K ta) := hK ▸ pi_zp hg hm ha hs hpl
end
/-! the same over data -/
def seqD : PyData → Option (List PyData)
  | .list ds => some ds
  | .tuple ds => some ds
  | .str z => some (signs z)
  | _ => none
section
variable {K : PySem.W.Frag} {S : List Sl} {RI : List PyData → List Sl → Prop}
/-- data that can be walked, as a source -/
theorem sr_of {F H : Hp} (m : Same F H) {v : V} {d : PyData} {ds : List PyData} (r : Rep K F v d) (h : seqD d = some ds) : ∃ sr xs, v = SrV sr ∧ (∀ F' H', Same F F' → Same F' H' → SrIs K H' sr xs) ∧ Reps K F xs ds := by
  cases r with
  | lst h1 r1 =>
    cases h
    exact ⟨.lst _, _, rfl, fun F' H' m1 m2 => SqL.of (m2 _ _ (m1 _ _ h1)), r1⟩
  | tup h1 r1 =>
    cases h
    exact ⟨.tup _, _, rfl, fun F' H' m1 m2 => Same.tupS m2 (Same.tupS m1 h1.sq), r1⟩
  | str x =>
    cases h
    refine ⟨.txt x, _, rfl, fun F' H' m1 m2 => rfl, ?_⟩
    unfold signs
    have := Reps.strs (K := K) (F := F) (x.cps.toList.map fun c => (⟨#[c]⟩ : Str))
    rw [List.map_map, List.map_map] at this
    exact this
  | non => cases h
  | bl b => cases h
  | int i => cases h
  | dk _ _ => cases h
  | dt _ _ => cases h
  | dl _ _ => cases h
theorem itOk_en {F1 : Hp} {sr : Sr} {xs : List V} {ds : List PyData} (hs : ∀ F H, Same F1 F → Same F H → SrIs K H sr xs) (r : Reps K F1 xs ds) : ItOk K F1 (ItEn K sr) (enumD ds) := by
  have hl : (enumD ds).length = ds.length := by simp [enumD]
  refine ⟨fun i F H m1 m2 hi => ⟨xs, xs[i]'(by rw [r.length]; omega), hs F H m1 m2, by simp⟩, fun F H m1 m2 => ⟨xs, hs F H m1 m2, by rw [r.length]; omega⟩, fun i F H x H' m1 m2 hi hy => ?_⟩
  obtain ⟨T, y, rfl, hT, rfl, hy⟩ := hy
  obtain ⟨d, h1, h2⟩ := r.got (hy xs (hs F H m1 m2))
  have nf : F T = none := m2.free hT
  refine ⟨.tuple [.int (i : Nat), d], ?_, .inr ⟨T, _, hT, rfl, .tup (.inl upd_same) (.cons (.int _) (.cons (h2.mono (m1.trans (same_new nf))) .nil))⟩⟩
  unfold enumD
  rw [List.getElem?_map, List.getElem?_range (by omega)]
  show some (PyData.tuple [PyData.int (i : Nat), ds.getD i .none]) = _
  rw [List.getD_eq_getElem?_getD, h1]
  rfl
theorem itOk_zp {F1 : Hp} {sr sq : Sr} {xs ys : List V} {ds es : List PyData} (hs : ∀ F H, Same F1 F → Same F H → SrIs K H sr xs) (r : Reps K F1 xs ds) (hs' : ∀ F H, Same F1 F → Same F H → SrIs K H sq ys) (r' : Reps K F1 ys es) : ItOk K F1 (ItZp K sr sq) (zipD ds es) := by
  have hl : (zipD ds es).length = min ds.length es.length := by simp [zipD]
  have l1 := r.length
  have l2 := r'.length
  refine ⟨fun i F H m1 m2 hi => ⟨xs, ys, xs[i]'(by omega), ys[i]'(by omega), hs F H m1 m2, hs' F H m1 m2, by simp, by simp⟩, fun F H m1 m2 => ⟨xs, ys, hs F H m1 m2, hs' F H m1 m2, by omega⟩, fun i F H x H' m1 m2 hi hy => ?_⟩
  obtain ⟨T, y, z, rfl, hT, rfl, hy, hz⟩ := hy
  obtain ⟨d, h1, h2⟩ := r.got (hy xs (hs F H m1 m2))
  obtain ⟨d', h3, h4⟩ := r'.got (hz ys (hs' F H m1 m2))
  have nf : F T = none := m2.free hT
  refine ⟨.tuple [d, d'], ?_, .inr ⟨T, _, hT, rfl, .tup (.inl upd_same) (.cons (h2.mono (m1.trans (same_new nf))) (.cons (h4.mono (m1.trans (same_new nf))) .nil))⟩⟩
  unfold zipD
  rw [List.getElem?_zipWith, h1, h3]
theorem ei_en {tr : TA} (h : EA K tr S fun xs S1 => ∃ d ds, xs = [.dat d] ∧ seqD d = some ds ∧ RI (enumD ds) S1) : EI K (iEn K tr) S RI := fun e F H σ w Q k => h e F H σ w _ fun vs xs S1 F1 H1 w1 m1 r1 ⟨d, ds, e1, hd, q⟩ => by
  subst e1
  cases r1 with
  | cons r1 r0 =>
    cases r0
    obtain ⟨sr, ys, rfl, h1, h2⟩ := sr_of w1.sub r1 hd
    exact ⟨sr, ys, rfl, h1 F1 H1 (Same.refl _) w1.sub, k _ _ S1 F1 H1 w1 m1 (itOk_en h1 h2) q⟩
theorem ei_zp {tr : TA} (h : EA K tr S fun xs S1 => ∃ d d2 ds es, xs = [.dat d, .dat d2] ∧ seqD d = some ds ∧ seqD d2 = some es ∧ RI (zipD ds es) S1) : EI K (iZp K tr) S RI := fun e F H σ w Q k => h e F H σ w _ fun vs xs S1 F1 H1 w1 m1 r1 ⟨d, d2, ds, es, e1, hd, hd2, q⟩ => by
  subst e1
  cases r1 with
  | cons r1 r0 =>
    cases r0 with
    | cons r2 r0 =>
      cases r0
      obtain ⟨sr, ys, rfl, h1, h2⟩ := sr_of w1.sub r1 hd
      obtain ⟨sq, zs, rfl, h3, h4⟩ := sr_of w1.sub r2 hd2
      exact ⟨sr, sq, ys, zs, rfl, h1 F1 H1 (Same.refl _) w1.sub, h3 F1 H1 (Same.refl _) w1.sub, k _ _ S1 F1 H1 w1 m1 (itOk_zp h1 h2 h3 h4) q⟩
end
end DL

namespace DL
open PySem PySem.Spec PyProof.Rows L2
/-! ## the end: the head's facts, with a look of one's own -/
section
variable (fa : List He.Fa) (fn : List He.DefD) (chk : PySem.W.Frag → Bool)
end
section
variable {fa : List He.Fa} {fn : List He.DefD} {chk : PySem.W.Frag → Bool} {K : PySem.W.Frag}
theorem SaysM.bits (c : SaysM fa fn chk K) : ((fa.all fun f => f.ok K) && fn.all fun d => d.ok K) = true ∧ chk K = true :=
  He.ba (show (((fa.all fun f => f.ok K) && fn.all fun d => d.ok K) && chk K) = true from congrArg (fun z : He.AlD => z.1) c)
theorem SaysM.fact (c : SaysM fa fn chk K) (i : Nat) {f : He.Fa} (h : fa[i]? = some f := by rfl) : f.ok K = true :=
  List.all_eq_true.mp (He.ba c.bits.1).1 f (List.mem_of_getElem? h)
theorem SaysM.def_ (c : SaysM fa fn chk K) (i : Nat) {d : He.DefD} (h : fn[i]? = some d := by rfl) : ∃ fd, FunD K d.name d.qual d.params d.body d.scope (d.dvs K) (d.kws K) (He.fAd K d.at_) fd := by
  have c2 := (He.ba c.bits.1).2
  have e : fn.map (fun d => He.fnW K d.at_) = fn.map He.DefD.val := congrArg (fun z : He.AlD => z.2) c
  have e2 : (fn.map fun d => He.fnW K d.at_)[i]? = (fn.map He.DefD.val)[i]? := by rw [e]
  rw [List.getElem?_map, List.getElem?_map, h] at e2
  exact He.DefD.funD (Option.some.inj e2) (List.all_eq_true.mp c2 d (List.mem_of_getElem? h))
/-- nothing that the top has written is a plain list -/
theorem noList_ok (h : noList K = true) {a : Addr} {o : Obj} (e : K.lookup a = some o) : o.cls ≠ .type "list" := fun z => by
  have m : ∀ (l : List (Addr × Obj)), l.lookup a = some o → (a, o) ∈ l := fun l => by
    induction l with
    | nil => intro h; cases h
    | cons p l ih =>
      intro h
      obtain ⟨b, q⟩ := p
      rw [List.lookup_cons] at h
      cases hb : a == b with
      | true =>
        rw [hb] at h
        have e1 : q = o := Option.some.inj h
        have e2 : a = b := by simpa using hb
        subst e1 e2
        exact List.mem_cons_self
      | false =>
        rw [hb] at h
        exact List.mem_cons_of_mem _ (ih h)
  have q := List.all_eq_true.mp h (a, o) (m K e)
  have q2 : (!(o.cls == Value.type "list")) = true := q
  rw [z] at q2
  simp at q2
/-- a law's contract: the script comes in, True goes out -/
def C_law : Ct := fun as R => ∃ (a : Addr) (ns : List Int), as = [.own false a (.scr ns)] ∧ (ns.length ≤ 63 ∧ ∀ as', R (.bool true) as')
theorem law_starts (hK : noList K = true) (H : Hp) (a : Addr) (ns : List Int) (hl : ns.length ≤ 63) (hS : SqL K H a (ns.map V.int)) (E : XK) : spC K C_law [.ref a] H (fun v _ => v = .bl true) E := by
  have ht : ∃ o, H a = some o := by
    rcases hS with (h | ⟨o, h⟩) | ⟨o, its, n, h1, h2, _⟩
    · exact ⟨_, h⟩
    · exact ⟨_, h⟩
    · exact absurd h2 (noList_ok hK h1)
  refine ⟨fun _ => none, [.own false a (.scr ns)], fun b => b = a, ?_, fun b hb => ⟨0, .scr ns, by rw [hb]; rfl⟩, fun d _ => d = .bool true, ⟨a, ns, rfl, hl, fun _ => rfl⟩, fun d as' hd v F' H' _ rv => ?_⟩
  · exact {
      sub := fun b o h => by cases h
      f0 := fun b o h => h
      keep := fun b o h _ => h
      live := fun b h => h
      unf := fun b _ h => h
      len := rfl
      slots := fun i s h => by
        cases i with
        | zero =>
          have e : Sl.own false a (.scr ns) = s := Option.some.inj h
          subst e
          exact ⟨rfl, rfl, rfl, ht, hS⟩
        | succ i => simp at h
      sep := fun i j m b o n c p hij h1 h2 => by
        cases i with
        | zero => cases j with
          | zero => exact absurd rfl hij
          | succ j => simp at h2
        | succ i => simp at h1 }
  · have hd2 : d = .bool true := hd
    subst hd2
    cases rv
    rfl
end
end DL

namespace MK
open PySem DL
/-! ## masks -/
inductive Nm where
  | kf | kl | hf | hl | cf | cl | sq | sh
  deriving DecidableEq
def Nm.s : Nm → Str
  | .kf => "keep_first"
  | .kl => "keep_last"
  | .hf => "hide_first"
  | .hl => "hide_last"
  | .cf => "cut_first"
  | .cl => "cut_last"
  | .sq => "squeeze"
  | .sh => "short"
inductive Stp where
  | cnt (k : Nm) (n : Nat)
  | rev
  deriving DecidableEq
abbrev Mask := List Stp
def dStep : Stp → PyData
  | .cnt k n => .tuple [.str k.s, .int n]
  | .rev => .tuple [.str "reverse"]
def dMask (m : Mask) : PyData := .tuple (m.map dStep)
def okS (b : Nat) : Stp → Prop
  | .cnt _ n => n ≤ b
  | .rev => True
def okM (k b : Nat) (m : Mask) : Prop := m.length ≤ k ∧ ∀ s ∈ m, okS b s
section
variable {β γ : Type} (star : β) (isS : β → Bool)
def sqG (n : Nat) : Bool → List β → List β
  | _, [] => []
  | p, x :: r => if isS x then (if p then [] else List.replicate n star) ++ sqG n true r else x :: sqG n false r
def stepG : Stp → List β → List β
  | .rev, r => r.reverse
  | .cnt .kf n, r => r.take n ++ List.replicate (r.length - n) star
  | .cnt .kl n, r => List.replicate (r.length - n) star ++ r.drop (r.length - n)
  | .cnt .hf n, r => List.replicate (min n r.length) star ++ r.drop n
  | .cnt .hl n, r => r.take (r.length - n) ++ List.replicate (min n r.length) star
  | .cnt .cf n, r => r.drop n
  | .cnt .cl n, r => r.take (r.length - n)
  | .cnt .sq n, r => sqG star isS n false r
  | .cnt .sh n, r => if r.length < n then List.replicate r.length star else r
def runG (m : Mask) (r : List β) : List β := m.foldl (fun r s => stepG star isS s r) r
end
section
variable {β γ : Type} {star : β} {isS : β → Bool} {star' : γ} {isS' : γ → Bool} {φ : β → γ}
theorem sqG_map (h1 : φ star = star') (h2 : ∀ x, isS' (φ x) = isS x) (n : Nat) : ∀ (p : Bool) (r : List β), (sqG star isS n p r).map φ = sqG star' isS' n p (r.map φ)
  | _, [] => rfl
  | p, x :: r => by
    unfold sqG
    rw [List.map_cons]
    show _ = if isS' (φ x) = true then _ else _
    rw [h2]
    cases isS x with
    | true =>
      rw [if_pos rfl, if_pos rfl, List.map_append, sqG_map h1 h2 n true r]
      cases p with
      | true => rfl
      | false => rw [if_neg (by simp), if_neg (by simp), List.map_replicate, h1]
    | false =>
      rw [if_neg (by simp), if_neg (by simp), List.map_cons, sqG_map h1 h2 n false r]
theorem stepG_map (h1 : φ star = star') (h2 : ∀ x, isS' (φ x) = isS x) (s : Stp) (r : List β) : (stepG star isS s r).map φ = stepG star' isS' s (r.map φ) := by
  cases s with
  | rev => exact List.map_reverse
  | cnt k n =>
    cases k <;> simp only [stepG, List.map_append, List.map_take, List.map_drop, List.map_replicate, h1, List.length_map]
    · exact sqG_map h1 h2 n false r
    · split
      · simp only [List.map_replicate, h1]
      · rfl
theorem runG_map (h1 : φ star = star') (h2 : ∀ x, isS' (φ x) = isS x) : ∀ (m : Mask) (r : List β), (runG star isS m r).map φ = runG star' isS' m (r.map φ)
  | [], r => rfl
  | s :: m, r => by
    show (runG star isS m (stepG star isS s r)).map φ = runG star' isS' m (stepG star' isS' s (r.map φ))
    rw [runG_map h1 h2 m, stepG_map h1 h2]
theorem sqG_len (n : Nat) (b : Nat) (hb : n ≤ b) (h1 : 1 ≤ b) : ∀ (p : Bool) (r : List β), (sqG star isS n p r).length ≤ b * r.length
  | _, [] => by simp [sqG]
  | p, x :: r => by
    unfold sqG
    have ih1 := sqG_len n b hb h1 true r
    have ih2 := sqG_len n b hb h1 false r
    rw [List.length_cons, Nat.mul_add, Nat.mul_one]
    split
    · rw [List.length_append]
      split
      · simp
        omega
      · rw [List.length_replicate]
        omega
    · rw [List.length_cons]
      omega
theorem stepG_len (b : Nat) (h1 : 1 ≤ b) (s : Stp) (hs : okS b s) (r : List β) : (stepG star isS s r).length ≤ b * r.length := by
  have h2 : r.length ≤ b * r.length := Nat.le_mul_of_pos_left _ h1
  cases s with
  | rev => simpa [stepG] using h2
  | cnt k n =>
    have hn : n ≤ b := hs
    cases k <;> simp only [stepG, List.length_append, List.length_take, List.length_drop, List.length_replicate]
    · omega
    · omega
    · omega
    · omega
    · omega
    · omega
    · exact sqG_len n b hn h1 false r
    · split
      · rw [List.length_replicate]
        exact h2
      · exact h2
theorem runG_len (b : Nat) (h1 : 1 ≤ b) : ∀ (m : Mask), (∀ s ∈ m, okS b s) → ∀ (r : List β), (runG star isS m r).length ≤ b ^ m.length * r.length
  | [], _, r => by simp [runG]
  | s :: m, hm, r => by
    have e1 := runG_len b h1 m (fun s hs => hm s (by simp [hs])) (stepG star isS s r)
    have e2 := stepG_len (star := star) (isS := isS) b h1 s (hm s (by simp)) r
    show (runG star isS m (stepG star isS s r)).length ≤ _
    refine Nat.le_trans e1 ?_
    rw [List.length_cons, Nat.pow_succ, Nat.mul_assoc]
    exact Nat.mul_le_mul (Nat.le_refl _) e2
end
/-- the templates -/
def isN : Option Nat → Bool
  | none => true
  | some _ => false
abbrev stepR : Stp → List (Option Nat) → List (Option Nat) := stepG none isN
abbrev runR : Mask → List (Option Nat) → List (Option Nat) := runG none isN
def templ (m : Mask) (n : Nat) : List (Option Nat) := runR m ((List.range n).map some)
def dCell : Option Nat → PyData
  | none => .none
  | some i => .int i
def dRow (r : List (Option Nat)) : List PyData := r.map dCell
theorem pow5 {k : Nat} (h : k ≤ 4) : 5 ^ k ≤ 625 := by
  have : ∀ k : Fin 5, 5 ^ k.val ≤ 625 := by decide
  exact this ⟨k, by omega⟩
theorem templ_len {m : Mask} (h : okM 4 5 m) (n : Nat) : (templ m n).length ≤ 625 * n := by
  have e := runG_len (star := none) (isS := isN) 5 (by decide) m h.2 ((List.range n).map some)
  rw [List.length_map, List.length_range] at e
  exact Nat.le_trans e (Nat.mul_le_mul_right _ (pow5 h.1))
/-- texts: the star is 42 -/
abbrev stepT : Stp → List Nat → List Nat := stepG 42 (fun c => decide (c = 42))
abbrev runT : Mask → List Nat → List Nat := runG 42 (fun c => decide (c = 42))
def cell (f : Nat → Nat) : Option Nat → Nat
  | none => 42
  | some i => f i
theorem run_templ {f : Nat → Nat} (hf : ∀ i, f i ≠ 42) (m : Mask) (n : Nat) : runT m ((List.range n).map f) = (templ m n).map (cell f) := by
  have e := runG_map (φ := cell f) (star := none) (isS := isN) (star' := 42) (isS' := fun c => decide (c = 42)) rfl (fun x => by
    cases x with
    | none => rfl
    | some i => exact decide_eq_false (hf i)) m ((List.range n).map some)
  unfold templ
  rw [e, List.map_map]
  rfl
/-- a text by its signs -/
def mkS (l : List Nat) : Str := ⟨l.toArray⟩
theorem mkS_len (l : List Nat) : (mkS l).length = l.length := rfl
theorem mkS_tl (l : List Nat) : (mkS l).cps.toList = l := rfl
theorem mkS_app (a b : List Nat) : mkS a ++ mkS b = mkS (a ++ b) := by
  apply Str.ext'
  show a.toArray ++ b.toArray = (a ++ b).toArray
  simp
theorem mkS_inj {a b : List Nat} (h : mkS a = mkS b) : a = b := by
  have h2 : (mkS a).cps.toList = (mkS b).cps.toList := by rw [h]
  exact h2
theorem mk_of (z : Str) : z = mkS z.cps.toList := rfl
/-! ## hidden -/
def hidF (a b : Int) : PyData → PyData
  | .tuple [.int i, x] => if a ≤ i ∧ i < b then .none else x
  | d => d
def hidD (r : List PyData) (a b : Int) : List PyData := (enumD r).map (hidF a b)
theorem mem_enumD {ds : List PyData} {d : PyData} (h : d ∈ enumD ds) : ∃ (i : Nat) (x : PyData), d = .tuple [.int (i : Nat), x] ∧ ds[i]? = some x := by
  unfold enumD at h
  obtain ⟨i, hi, rfl⟩ := List.mem_map.mp h
  have hi2 := List.mem_range.mp hi
  exact ⟨i, _, rfl, by rw [List.getD_eq_getElem?_getD, List.getElem?_eq_getElem hi2]; rfl⟩
theorem hid_get (r : List (Option Nat)) (a b : Int) (i : Nat) : (hidD (dRow r) a b)[i]? = r[i]?.map fun x => if a ≤ (i : Int) ∧ (i : Int) < b then PyData.none else dCell x := by
  unfold hidD enumD dRow
  rw [List.map_map, List.getElem?_map]
  by_cases h : i < r.length
  · rw [List.getElem?_range (by simpa using h), List.getElem?_eq_getElem h]
    show some (hidF a b (.tuple [.int (i : Nat), (r.map dCell).getD i .none])) = _
    rw [List.getD_eq_getElem?_getD, List.getElem?_map, List.getElem?_eq_getElem h]
    rfl
  · rw [List.getElem?_eq_none (by simpa using h), List.getElem?_eq_none (by simpa using h)]
    rfl
theorem hid_ext {r r' : List (Option Nat)} {a b : Int} (hl : r'.length = r.length) (h : ∀ (i : Nat) (h1 : i < r.length) (h2 : i < r'.length), dCell r'[i] = if a ≤ (i : Int) ∧ (i : Int) < b then PyData.none else dCell r[i]) : hidD (dRow r) a b = dRow r' := by
  apply List.ext_getElem?
  intro i
  rw [hid_get]
  unfold dRow
  rw [List.getElem?_map]
  by_cases hi : i < r.length
  · have hi2 : i < r'.length := by omega
    rw [List.getElem?_eq_getElem hi, List.getElem?_eq_getElem hi2]
    show some _ = some _
    rw [h i hi hi2]
  · rw [List.getElem?_eq_none (by omega), List.getElem?_eq_none (by omega)]
    rfl
theorem hid_kf (n : Nat) (r : List (Option Nat)) : hidD (dRow r) n r.length = dRow (stepR (.cnt .kf n) r) := by
  refine hid_ext (by simp only [stepG, List.length_append, List.length_replicate, List.length_drop, List.length_take]; omega) fun i h1 h2 => ?_
  simp only [stepG]
  by_cases c : i < n
  · rw [if_neg (by omega), List.getElem_append_left (by rw [List.length_take]; omega), List.getElem_take]
  · rw [if_pos (by omega), List.getElem_append_right (by rw [List.length_take]; omega), List.getElem_replicate]
    rfl
theorem hid_kl (n : Nat) (r : List (Option Nat)) : hidD (dRow r) 0 ((r.length : Int) - n) = dRow (stepR (.cnt .kl n) r) := by
  refine hid_ext (by simp only [stepG, List.length_append, List.length_replicate, List.length_drop, List.length_take]; omega) fun i h1 h2 => ?_
  simp only [stepG]
  by_cases c : i < r.length - n
  · rw [if_pos (by omega), List.getElem_append_left (by rw [List.length_replicate]; omega), List.getElem_replicate]
    rfl
  · rw [if_neg (by omega), List.getElem_append_right (by rw [List.length_replicate]; omega), List.getElem_drop]
    congr 2
    rw [List.length_replicate]
    omega
theorem hid_hf (n : Nat) (r : List (Option Nat)) : hidD (dRow r) 0 n = dRow (stepR (.cnt .hf n) r) := by
  refine hid_ext (by simp only [stepG, List.length_append, List.length_replicate, List.length_drop]; omega) fun i h1 h2 => ?_
  simp only [stepG]
  by_cases c : i < n
  · rw [if_pos (by omega), List.getElem_append_left (by rw [List.length_replicate]; omega), List.getElem_replicate]
    rfl
  · rw [if_neg (by omega), List.getElem_append_right (by rw [List.length_replicate]; omega), List.getElem_drop]
    congr 2
    rw [List.length_replicate]
    omega
theorem hid_hl (n : Nat) (r : List (Option Nat)) : hidD (dRow r) ((r.length : Int) - n) r.length = dRow (stepR (.cnt .hl n) r) := by
  refine hid_ext (by simp only [stepG, List.length_append, List.length_replicate, List.length_drop, List.length_take]; omega) fun i h1 h2 => ?_
  simp only [stepG]
  by_cases c : i < r.length - n
  · rw [if_neg (by omega), List.getElem_append_left (by rw [List.length_take]; omega), List.getElem_take]
  · rw [if_pos (by omega), List.getElem_append_right (by rw [List.length_take]; omega), List.getElem_replicate]
    rfl
/-! slices -/
theorem cut_from {α : Type} (xs : List α) (n : Nat) : cutL xs (some (n : Int)) none = xs.drop n := by
  unfold cutL
  rw [HT.sIx_nat, HT.sIx_none]
  rw [List.take_of_length_le (by rw [List.length_drop]; omega)]
  by_cases h : n ≤ xs.length
  · rw [Nat.min_eq_left h]
  · rw [Nat.min_eq_right (by omega), List.drop_length, List.drop_eq_nil_of_le (by omega)]
theorem cut_to {α : Type} (xs : List α) (n : Nat) : cutL xs none (some (n : Int)) = xs.take n := by
  unfold cutL
  rw [HT.sIx_nat, HT.sIx_none, List.drop_zero, Nat.sub_zero]
  by_cases h : n ≤ xs.length
  · rw [Nat.min_eq_left h]
  · rw [Nat.min_eq_right (by omega), List.take_length, List.take_of_length_le (by omega)]
theorem cutS_mk (l : List Nat) (lo hi : Option Int) : L2.cutS (mkS l) lo hi = mkS (cutL l lo hi) := rfl
theorem repS_star (n : Nat) : repS (mkS [42]) (n : Int) = mkS (List.replicate n 42) := by
  unfold repS mkS
  congr 2
  show (List.replicate ((n : Int)).toNat [42]).flatten = _
  rw [Int.toNat_natCast]
  induction n with
  | zero => rfl
  | succ n ih => rw [List.replicate_succ, List.flatten_cons, ih]; rfl
theorem rep_none (n : Nat) : (List.replicate n [PyData.none]).flatten = dRow (List.replicate n none) := by
  unfold dRow
  induction n with
  | zero => rfl
  | succ n ih => rw [List.replicate_succ, List.flatten_cons, ih, List.replicate_succ]; rfl
theorem revS_mk (l : List Nat) : revS (mkS l) = mkS l.reverse := rfl
theorem max0 (a b : Nat) : max ((a : Int) - b) 0 = ((a - b : Nat) : Int) := by omega
theorem min0 (a b : Nat) : min (a : Int) (b : Int) = ((min a b : Nat) : Int) := by omega
/-! squeezed, from the left -/
theorem sqG_app {β : Type} {star : β} {isS : β → Bool} (n : Nat) : ∀ (p : Bool) (r : List β) (x : β), sqG star isS n p (r ++ [x]) = sqG star isS n p r ++ (if isS x then (if (match r.getLast? with | some y => isS y | none => p) then [] else List.replicate n star) else [x])
  | p, [], x => by
    unfold sqG
    show (if isS x = true then (if p = true then [] else List.replicate n star) ++ [] else x :: []) = _
    cases isS x with
    | true =>
      rw [if_pos rfl, if_pos rfl, List.append_nil]
      rfl
    | false => rfl
  | p, y :: r, x => by
    rw [List.cons_append]
    unfold sqG
    have hg : ∀ q, (match r.getLast? with | some y => isS y | none => q) = (match (y :: r).getLast? with | some y => isS y | none => p) ∨ r = [] := fun q => by
      cases r with
      | nil => exact .inr rfl
      | cons z r =>
        left
        rw [List.getLast?_cons_cons]
        cases h : (z :: r).getLast? with
        | none => simp at h
        | some v => rfl
    cases hy : isS y with
    | true =>
      rw [if_pos rfl, if_pos rfl, sqG_app n true r x, List.append_assoc]
      congr 2
      rcases hg true with h | h
      · rw [h]
      · subst h
        simp [hy]
    | false =>
      rw [if_neg (by simp), if_neg (by simp), sqG_app n false r x, List.cons_append]
      congr 2
      rcases hg false with h | h
      · rw [h]
      · subst h
        simp [hy]
end MK

namespace MK
open PySem DL
/-! ## data that == may compare -/
def okN : Nat → PyData → Bool
  | _, .none => true
  | _, .bool _ => true
  | _, .int _ => true
  | _, .str x => PyData.strOk x
  | _, .dict _ => false
  | 0, .list _ => false
  | 0, .tuple _ => false
  | n + 1, .list xs => xs.all (okN n)
  | n + 1, .tuple xs => xs.all (okN n)
theorem okN_all {n : Nat} (ih : ∀ d, okN n d = true → DL.plain d = true ∧ d.canLay0 = true ∧ d.depth ≤ n) : ∀ xs : List PyData, xs.all (okN n) = true → plains xs = true ∧ PyData.canLayAll0 xs = true ∧ PyData.depthAll xs ≤ n
  | [], _ => ⟨by simp [DL.plains], by simp [PyData.canLayAll0], by simp [PyData.depthAll]⟩
  | x :: xs, h => by
    rw [List.all_cons, Bool.and_eq_true] at h
    obtain ⟨a1, a2, a3⟩ := ih x h.1
    obtain ⟨b1, b2, b3⟩ := okN_all ih xs h.2
    refine ⟨by simp [DL.plains, a1, b1], by simp [PyData.canLayAll0, a2, b2], ?_⟩
    simp only [PyData.depthAll]
    omega
theorem okN_parts : ∀ (n : Nat) (d : PyData), okN n d = true → DL.plain d = true ∧ d.canLay0 = true ∧ d.depth ≤ n
  | n, .none, _ => ⟨by simp [DL.plain], by simp [PyData.canLay0], by simp [PyData.depth]⟩
  | n, .bool _, _ => ⟨by simp [DL.plain], by simp [PyData.canLay0], by simp [PyData.depth]⟩
  | n, .int _, _ => ⟨by simp [DL.plain], by simp [PyData.canLay0], by simp [PyData.depth]⟩
  | n, .str x, h => ⟨by simp [DL.plain], by simpa [PyData.canLay0, okN] using h, by simp [PyData.depth]⟩
  | n, .dict _, h => by simp [okN] at h
  | 0, .list _, h => by simp [okN] at h
  | 0, .tuple _, h => by simp [okN] at h
  | n + 1, .list xs, h => by
    obtain ⟨a, b, c⟩ := okN_all (okN_parts n) xs (by simpa [okN] using h)
    exact ⟨by simp [DL.plain, a], by simp [PyData.canLay0, b], by simp only [PyData.depth]; omega⟩
  | n + 1, .tuple xs, h => by
    obtain ⟨a, b, c⟩ := okN_all (okN_parts n) xs (by simpa [okN] using h)
    exact ⟨by simp [DL.plain, a], by simp [PyData.canLay0, b], by simp only [PyData.depth]; omega⟩
theorem okD_of {n : Nat} {d : PyData} (h : okN n d = true) (hn : n ≤ 64) : okD d = true := by
  obtain ⟨a, b, c⟩ := okN_parts n d h
  unfold okD SeqAt.shaped
  rw [a, b, decide_eq_true (by omega)]
  rfl
theorem okN_mem {n : Nat} {xs : List PyData} {d : PyData} (h : okN (n + 1) (.tuple xs) = true) (hd : d ∈ xs) : okN n d = true := List.all_eq_true.mp (show xs.all (okN n) = true by simpa [okN] using h) d hd
theorem okN_memL {n : Nat} {xs : List PyData} {d : PyData} (h : okN (n + 1) (.list xs) = true) (hd : d ∈ xs) : okN n d = true := List.all_eq_true.mp (show xs.all (okN n) = true by simpa [okN] using h) d hd
theorem okN_tup {n : Nat} {xs : List PyData} (h : ∀ d ∈ xs, okN n d = true) : okN (n + 1) (.tuple xs) = true := by
  show xs.all (okN n) = true
  exact List.all_eq_true.mpr h
theorem okN_lst {n : Nat} {xs : List PyData} (h : ∀ d ∈ xs, okN n d = true) : okN (n + 1) (.list xs) = true := by
  show xs.all (okN n) = true
  exact List.all_eq_true.mpr h
theorem okN_mono : ∀ {n : Nat} {d : PyData} {m : Nat}, okN n d = true → n ≤ m → okN m d = true
  | n, .none, m, _, _ => by cases m <;> rfl
  | n, .bool _, m, _, _ => by cases m <;> rfl
  | n, .int _, m, _, _ => by cases m <;> rfl
  | n, .str x, m, h, _ => by
    have h2 : PyData.strOk x = true := by cases n <;> exact h
    cases m <;> exact h2
  | n, .dict _, m, h, _ => by cases n <;> cases h
  | 0, .list _, m, h, _ => by cases h
  | 0, .tuple _, m, h, _ => by cases h
  | n + 1, .list xs, m + 1, h, hm => okN_lst fun d hd => okN_mono (okN_memL h hd) (by omega)
  | n + 1, .tuple xs, m + 1, h, hm => okN_tup fun d hd => okN_mono (okN_mem h hd) (by omega)
/-! ## is it a step, a mask, a text -/
def names : List Str := ["keep_first", "keep_last", "hide_first", "hide_last", "cut_first", "cut_last", "squeeze", "short"]
def isCountD : PyData → Int → Int → Bool
  | .int i, a, b => decide (a ≤ i ∧ i ≤ b)
  | _, _, _ => false
def isRestD (s : Str) : List PyData → Bool
  | [x] => decide (s ∈ names) && isCountD x 0 5
  | _ => false
def isStepD : PyData → Bool
  | .tuple (.str s :: rest) => if s = "reverse" then decide (rest.length = 0) else isRestD s rest
  | _ => false
def isMaskD : PyData → Bool
  | .tuple xs => decide (xs.length ≤ 4) && xs.all isStepD
  | _ => false
def letters : Str := "abcdefghijklmnopqrstuvwxyz"
def isStringD : PyData → Bool
  | .str z => decide (z.length ≤ 40) && z.cps.toList.all fun c => decide (c ∈ letters.cps.toList)
  | _ => false
theorem nm_names (k : Nm) : k.s ∈ names := by cases k <;> decide +kernel
theorem nm_rev (k : Nm) : k.s ≠ "reverse" := by cases k <;> decide +kernel
theorem nm_ok (k : Nm) : PyData.strOk k.s = true := by cases k <;> decide +kernel
theorem step_is {s : Stp} (h : okS 5 s) : isStepD (dStep s) = true := by
  cases s with
  | rev => decide +kernel
  | cnt k n =>
    show (if k.s = "reverse" then decide (([PyData.int n] : List PyData).length = 0) else decide (k.s ∈ names) && isCountD (.int n) 0 5) = true
    have hn : n ≤ 5 := h
    rw [if_neg (nm_rev k), decide_eq_true (nm_names k)]
    show decide _ = true
    exact decide_eq_true ⟨by omega, by omega⟩
theorem mask_is {m : Mask} (h : okM 4 5 m) : isMaskD (dMask m) = true := by
  show (decide ((m.map dStep).length ≤ 4) && (m.map dStep).all isStepD) = true
  rw [List.length_map, decide_eq_true h.1, Bool.true_and, List.all_map]
  exact List.all_eq_true.mpr fun s hs => step_is (h.2 s hs)
theorem dStep_ok (s : Stp) : okN 1 (dStep s) = true := by
  cases s with
  | rev => decide +kernel
  | cnt k n =>
    show (PyData.strOk k.s && (true && true)) = true
    rw [nm_ok]
    rfl
theorem dMask_ok (m : Mask) : okN 2 (dMask m) = true := okN_tup fun d hd => by
  obtain ⟨s, _, rfl⟩ := List.mem_map.mp hd
  exact dStep_ok s
/-- a text of letters -/
def okT (l : List Nat) : Prop := ∀ c ∈ l, 97 ≤ c ∧ c ≤ 122
theorem letters_tl : letters.cps.toList = (List.range 26).map (97 + ·) := by decide +kernel
theorem letter_in {c : Nat} (h : 97 ≤ c ∧ c ≤ 122) : c ∈ letters.cps.toList := by
  rw [letters_tl]
  exact List.mem_map.mpr ⟨c - 97, List.mem_range.mpr (by omega), by omega⟩
theorem string_is {l : List Nat} (h : okT l) (hl : l.length ≤ 40) : isStringD (.str (mkS l)) = true := by
  show (decide ((mkS l).length ≤ 40) && l.all fun c => decide (c ∈ letters.cps.toList)) = true
  rw [mkS_len, decide_eq_true hl, Bool.true_and]
  exact List.all_eq_true.mpr fun c hc => decide_eq_true (letter_in (h c hc))
theorem strOk_mk {l : List Nat} (h : ∀ c ∈ l, c < 128) : PyData.strOk (mkS l) = true := by
  unfold PyData.strOk mkS
  rw [List.all_toArray]
  exact List.all_eq_true.mpr fun c hc => decide_eq_true (Nat.lt_trans (h c hc) (by decide))
end MK

namespace MK
open PySem DL
theorem take_next {α : Type} {r : List α} {i : Nat} {c : α} (h : r[i]? = some c) : r.take (i + 1) = r.take i ++ [c] := by
  rw [List.take_add_one, h]
  rfl
theorem enum_row {r : List (Option Nat)} {i : Nat} {d : PyData} (h : (enumD (dRow r))[i]? = some d) : ∃ c, r[i]? = some c ∧ d = .tuple [.int (i : Nat), dCell c] := by
  unfold enumD dRow at h
  rw [List.getElem?_map] at h
  by_cases hi : i < r.length
  · rw [List.getElem?_range (by simpa using hi)] at h
    refine ⟨r[i], List.getElem?_eq_getElem hi, ?_⟩
    have h2 : PyData.tuple [.int (i : Nat), (r.map dCell).getD i .none] = d := Option.some.inj h
    rw [← h2, List.getD_eq_getElem?_getD, List.getElem?_map, List.getElem?_eq_getElem hi]
    rfl
  · rw [List.getElem?_eq_none (by simpa using hi)] at h
    cases h
section
variable {r : List (Option Nat)} {i : Nat} {n : Nat}
theorem sq_some {v : Nat} (h : r[i]? = some (some v)) : sqG none isN n false (r.take (i + 1)) = sqG none isN n false (r.take i) ++ [some v] := by
  rw [take_next h, sqG_app]
  rfl
theorem last_take {c : Option Nat} (h : r[i]? = some c) (hi : 0 < i) : ∃ p, r[i - 1]? = some p ∧ (r.take i).getLast? = some p := by
  have hl : i < r.length := (List.getElem?_eq_some_iff.mp h).1
  refine ⟨r[i - 1], List.getElem?_eq_getElem (by omega), ?_⟩
  rw [List.getLast?_eq_getElem?, List.length_take, Nat.min_eq_left (by omega), List.getElem?_take_of_lt (by omega), List.getElem?_eq_getElem (by omega)]
theorem sq_none0 (h : r[0]? = some none) : sqG none isN n false (r.take (0 + 1)) = sqG none isN n false (r.take 0) ++ List.replicate n none := by
  rw [take_next h, sqG_app]
  rfl
theorem sq_none {p : Option Nat} (h : r[i]? = some none) (hi : 0 < i) (hp : r[i - 1]? = some p) : sqG none isN n false (r.take (i + 1)) = sqG none isN n false (r.take i) ++ (if isN p then [] else List.replicate n none) := by
  obtain ⟨p', h1, h2⟩ := last_take h hi
  rw [hp] at h1
  cases h1
  rw [take_next h, sqG_app, h2]
  rfl
end
theorem dRow_app (a b : List (Option Nat)) : dRow (a ++ b) = dRow a ++ dRow b := List.map_append
theorem dRow_len (a : List (Option Nat)) : (dRow a).length = a.length := List.length_map _
theorem enumD_len (a : List PyData) : (enumD a).length = a.length := by simp [enumD]
theorem sq_take_len (n : Nat) (r : List (Option Nat)) (i : Nat) (hn : n ≤ 5) : (sqG none isN n false (r.take i)).length ≤ 5 * r.length := by
  have h := sqG_len (star := (none : Option Nat)) (isS := isN) n 5 hn (by decide) false (r.take i)
  rw [List.length_take] at h
  exact Nat.le_trans h (Nat.mul_le_mul_left 5 (Nat.min_le_right _ _))
theorem at_prev {r : List (Option Nat)} {i : Nat} {p : Option Nat} (hi : 0 < i) (hp : r[i - 1]? = some p) : L2.atI (dRow r) ((i : Int) - 1) = some (dCell p) := by
  have e : ((i : Int) - 1) = ((i - 1 : Nat) : Int) := by omega
  rw [e]
  refine L2.atI_nat ?_
  unfold dRow
  rw [List.getElem?_map, hp]
  rfl
theorem isNone_cell (p : Option Nat) : isNone (dCell p) = isN p := by cases p <;> rfl
end MK

namespace MK
open PySem DL
/-! ## outputs -/
section
variable {β : Type} {star : β} {isS : β → Bool}
theorem sqG_mem (n : Nat) : ∀ (p : Bool) (r : List β) {x : β}, x ∈ sqG star isS n p r → x = star ∨ x ∈ r
  | _, [], x, h => by simp [sqG] at h
  | p, y :: r, x, h => by
    unfold sqG at h
    split at h
    · rcases List.mem_append.mp h with h | h
      · split at h
        · cases h
        · exact .inl (List.eq_of_mem_replicate h)
      · rcases sqG_mem n true r h with h | h
        · exact .inl h
        · exact .inr (by simp [h])
    · rcases List.mem_cons.mp h with h | h
      · exact .inr (by simp [h])
      · rcases sqG_mem n false r h with h | h
        · exact .inl h
        · exact .inr (by simp [h])
theorem stepG_mem (s : Stp) (r : List β) {x : β} (h : x ∈ stepG star isS s r) : x = star ∨ x ∈ r := by
  cases s with
  | rev => exact .inr (List.mem_reverse.mp h)
  | cnt k n =>
    cases k <;> simp only [stepG] at h
    · rcases List.mem_append.mp h with h | h
      · exact .inr (List.mem_of_mem_take h)
      · exact .inl (List.eq_of_mem_replicate h)
    · rcases List.mem_append.mp h with h | h
      · exact .inl (List.eq_of_mem_replicate h)
      · exact .inr (List.mem_of_mem_drop h)
    · rcases List.mem_append.mp h with h | h
      · exact .inl (List.eq_of_mem_replicate h)
      · exact .inr (List.mem_of_mem_drop h)
    · rcases List.mem_append.mp h with h | h
      · exact .inr (List.mem_of_mem_take h)
      · exact .inl (List.eq_of_mem_replicate h)
    · exact .inr (List.mem_of_mem_drop h)
    · exact .inr (List.mem_of_mem_take h)
    · exact sqG_mem n false r h
    · split at h
      · exact .inl (List.eq_of_mem_replicate h)
      · exact .inr h
theorem runG_mem : ∀ (m : Mask) (r : List β) {x : β}, x ∈ runG star isS m r → x = star ∨ x ∈ r
  | [], r, x, h => .inr h
  | s :: m, r, x, h => by
    rcases runG_mem m _ h with h | h
    · exact .inl h
    · exact stepG_mem s r h
end
theorem templ_lt {m : Mask} {n i : Nat} (h : some i ∈ templ m n) : i < n := by
  rcases runG_mem m _ h with h | h
  · cases h
  · obtain ⟨j, hj, e⟩ := List.mem_map.mp h
    cases e
    exact List.mem_range.mp hj
theorem text_range (l : List Nat) : l = (List.range l.length).map fun i => l.getD i 97 := by
  apply List.ext_getElem?
  intro i
  rw [List.getElem?_map]
  by_cases h : i < l.length
  · rw [List.getElem?_range h, List.getElem?_eq_getElem h]
    show some _ = some (l.getD i 97)
    rw [List.getD_eq_getElem?_getD, List.getElem?_eq_getElem h]
    rfl
  · rw [List.getElem?_eq_none (by omega), List.getElem?_eq_none (by simpa using h)]
    rfl
theorem okT_get {l : List Nat} (h : okT l) (i : Nat) : l.getD i 97 ≠ 42 := by
  rw [List.getD_eq_getElem?_getD]
  cases e : l[i]? with
  | none => decide
  | some c =>
    have := h c (List.mem_of_getElem? e)
    show c ≠ 42
    omega
theorem run_text {l : List Nat} (h : okT l) (m : Mask) : runT m l = (templ m l.length).map (cell fun i => l.getD i 97) := by
  have e := run_templ (okT_get h) m l.length
  rw [← text_range l] at e
  exact e
def outF (l : List Nat) : PyData → PyData
  | .int i => .str (mkS [l.getD i.toNat 97])
  | _ => .str "*"
theorem star_mk : ("*" : Str) = mkS [42] := by decide +kernel
theorem out_strs (m : Mask) (l : List Nat) : (dRow (templ m l.length)).map (outF l) = (((templ m l.length).map (cell fun i => l.getD i 97)).map fun c => mkS [c]).map PyData.str := by
  unfold dRow
  rw [List.map_map, List.map_map, List.map_map]
  apply List.map_congr_left
  intro c _
  cases c with
  | none =>
    show PyData.str "*" = PyData.str (mkS [42])
    rw [star_mk]
  | some i => rfl
theorem sum_ones (l : List Nat) : ((l.map fun c => mkS [c]).map (·.length)).sum = l.length := by
  induction l with
  | nil => rfl
  | cons c l ih =>
    rw [List.map_cons, List.map_cons, List.sum_cons, ih, List.length_cons]
    show 1 + _ = _
    omega
theorem joinL_ones : ∀ l : List Nat, TL.joinL [] (l.map fun c => [c]) = l
  | [] => rfl
  | [c] => rfl
  | c :: d :: l => by
    have ih := joinL_ones (d :: l)
    show [c] ++ [] ++ TL.joinL [] ((d :: l).map fun c => [c]) = _
    rw [ih]
    rfl
theorem join_ones (l : List Nat) : Txt.join (Str.ofString "") (l.map fun c => mkS [c]) = mkS l := by
  rw [TL.join_eq]
  apply TL.ext_tl
  rw [TL.tl_join, List.map_map]
  have e : TL.tl (Str.ofString "") = [] := by decide +kernel
  rw [e]
  have e2 : (TL.tl ∘ fun c => mkS [c]) = fun c => [c] := rfl
  rw [e2, joinL_ones]
  rfl
end MK

namespace MK
open PySem DL
/-! ## the bound, the first difference -/
def cntS : Stp → Nat
  | .cnt _ n => n
  | .rev => 0
def sumM (m : Mask) : Nat := (m.map cntS).sum
def bnd (ms : List Mask) : Nat := 2 + (ms.map sumM).sum
def argI (s : Stp) : List Int := match s with
  | .cnt _ n => [(n : Int)]
  | .rev => []
theorem arg_cut (s : Stp) : ∃ xs, dStep s = .tuple xs ∧ cutL xs (some ((1 : Nat) : Int)) none = (argI s).map PyData.int := by
  cases s with
  | rev => exact ⟨_, rfl, by rw [cut_from]; rfl⟩
  | cnt k n => exact ⟨_, rfl, by rw [cut_from]; rfl⟩
theorem arg_sum (s : Stp) : (argI s).sum = (cntS s : Int) := by
  cases s with
  | rev => rfl
  | cnt k n => show (n : Int) + 0 = n; omega
theorem sumM_cons (s : Stp) (m : Mask) : sumM (s :: m) = cntS s + sumM m := rfl
theorem sumM_app (f g : Mask) : sumM (f ++ g) = sumM f + sumM g := by
  unfold sumM
  rw [List.map_append, List.sum_append]
theorem sum_cast (xs : List Nat) : (xs.map fun (n : Nat) => (n : Int)).sum = ((xs.sum : Nat) : Int) := by
  induction xs with
  | nil => rfl
  | cons a b ih => rw [List.map_cons, List.sum_cons, List.sum_cons, ih]; omega
theorem sumM_le {k b : Nat} {m : Mask} (h : okM k b m) : sumM m ≤ k * b := by
  refine Nat.le_trans (m := m.length * b) ?_ (Nat.mul_le_mul_right _ h.1)
  have h2 := h.2
  clear h
  induction m with
  | nil => simp [sumM]
  | cons s m ih =>
    rw [sumM_cons, List.length_cons, Nat.add_mul, Nat.one_mul]
    have h3 : cntS s ≤ b := by
      have := h2 s (by simp)
      cases s with
      | rev => exact Nat.zero_le _
      | cnt k n => exact this
    have := ih fun s hs => h2 s (by simp [hs])
    omega
theorem bnd_two (f g : Mask) : bnd [f, g] = 2 + (sumM f + sumM g) := by simp [bnd]
theorem eqvAll_row : ∀ a b : List (Option Nat), PyData.eqvAll (dRow a) (dRow b) = decide (a = b)
  | [], [] => by simp [dRow, PyData.eqvAll]
  | [], _ :: _ => by simp [dRow, PyData.eqvAll]
  | _ :: _, [] => by simp [dRow, PyData.eqvAll]
  | x :: a, y :: b => by
    show PyData.eqvAll (dCell x :: dRow a) (dCell y :: dRow b) = _
    rw [PyData.eqvAll, eqvAll_row a b]
    have e : PyData.eqv (dCell x) (dCell y) = decide (x = y) := by
      cases x <;> cases y <;> simp [dCell, PyData.eqv]
      rename_i i j
      rw [Bool.eq_iff_iff]
      simp
      exact Int.ofNat_inj
    rw [e, Bool.eq_iff_iff]
    simp
theorem eqv_row (a b : List (Option Nat)) : PyData.eqv (.tuple (dRow a)) (.tuple (dRow b)) = decide (a = b) := by
  rw [PyData.eqv]
  exact eqvAll_row a b
theorem dCell_ok (c : Option Nat) : okN 0 (dCell c) = true := by cases c <;> rfl
theorem dRow_okN (r : List (Option Nat)) : okN 1 (.tuple (dRow r)) = true := okN_tup fun d hd => by
  obtain ⟨c, _, rfl⟩ := List.mem_map.mp hd
  exact dCell_ok c
theorem dRow_okD (r : List (Option Nat)) : okD (.tuple (dRow r)) = true := okD_of (dRow_okN r) (by decide)
/-- the smallest length at which two masks differ, below a bound -/
def firstD (f g : Mask) (N : Nat) : Option Nat := (List.range N).find? fun n => decide (templ f n ≠ templ g n)
def fdD (f g : Mask) : Option Nat → PyData
  | none => .none
  | some n => .tuple [.int (n : Nat), .tuple (dRow (templ f n)), .tuple (dRow (templ g n))]
theorem firstD_none {f g : Mask} {N : Nat} : firstD f g N = none ↔ ∀ n, n < N → templ f n = templ g n := by
  unfold firstD
  rw [List.find?_eq_none]
  constructor
  · intro h n hn
    have := h n (List.mem_range.mpr hn)
    simpa using this
  · intro h n hn
    have := h n (List.mem_range.mp hn)
    simp [this]
theorem firstD_some {f g : Mask} {N n : Nat} (h : firstD f g N = some n) : n < N ∧ templ f n ≠ templ g n ∧ ∀ i, i < n → templ f i = templ g i := by
  unfold firstD at h
  obtain ⟨h1, h2, h3⟩ := List.find?_eq_some_iff_getElem.mp h
  obtain ⟨hi, e, h4⟩ := h3
  rw [List.getElem_range] at e
  subst e
  refine ⟨List.mem_range.mp (by simpa using List.mem_of_find?_eq_some h), by simpa using h1, fun i hi2 => ?_⟩
  have := h4 i hi2
  rw [List.getElem_range] at this
  simpa using this
theorem firstD_at {f g : Mask} {N n : Nat} (hn : n < N) (h1 : templ f n ≠ templ g n) (h2 : ∀ i, i < n → templ f i = templ g i) : firstD f g N = some n := by
  cases h : firstD f g N with
  | none => exact absurd (firstD_none.mp h n hn) h1
  | some k =>
    obtain ⟨_, k2, k3⟩ := firstD_some h
    rcases Nat.lt_trichotomy n k with hk | hk | hk
    · exact absurd (k3 n hk) h1
    · rw [hk]
    · exact absurd (h2 k hk) k2
/-- the string that shows a difference -/
def badI : List (Option Nat) → List (Option Nat) → Option Nat
  | some i :: a, some j :: b => if i ≠ j then some i else badI a b
  | _ :: a, _ :: b => badI a b
  | _, _ => none
def showL (n : Nat) (a b : List (Option Nat)) : List Nat :=
  match (if a.length = b.length then badI a b else none) with
  | some i => (List.replicate n 97).set i 98
  | none => List.replicate n 97
theorem badI_mem {a b : List (Option Nat)} {i : Nat} (h : badI a b = some i) : some i ∈ a := by
  induction a generalizing b with
  | nil => simp [badI] at h
  | cons x a ih =>
    cases b with
    | nil => cases x <;> simp [badI] at h
    | cons y b =>
      cases x with
      | none => exact List.mem_cons_of_mem _ (ih (by simpa [badI] using h))
      | some k =>
        cases y with
        | none => exact List.mem_cons_of_mem _ (ih (by simpa [badI] using h))
        | some j =>
          rw [badI] at h
          split at h
          · cases h; exact List.mem_cons_self
          · exact List.mem_cons_of_mem _ (ih h)
theorem showL_len (n : Nat) (a b : List (Option Nat)) : (showL n a b).length = n := by
  unfold showL
  split <;> simp
theorem okT_repl (n : Nat) : okT (List.replicate n 97) := fun c hc => by
  rw [List.eq_of_mem_replicate hc]
  omega
theorem okT_set {l : List Nat} {i c : Nat} (h : okT l) (hc : 97 ≤ c ∧ c ≤ 122) : okT (l.set i c) := fun x hx => by
  rcases List.mem_or_eq_of_mem_set hx with h1 | h1
  · exact h x h1
  · rw [h1]; exact hc
theorem showL_ok (n : Nat) (a b : List (Option Nat)) : okT (showL n a b) := by
  unfold showL
  split
  · exact okT_set (okT_repl n) (by omega)
  · exact okT_repl n
/-- what difference gives -/
def diffL (f g : Mask) : Option (List Nat) := (firstD f g (bnd [f, g] + 1)).map fun n => showL n (templ f n) (templ g n)
def dOpt : Option (List Nat) → PyData
  | none => .none
  | some l => .str (mkS l)
theorem okM_app {f g : Mask} (hf : okM 2 5 f) (hg : okM 2 5 g) : okM 4 5 (f ++ g) := ⟨by rw [List.length_append]; have := hf.1; have := hg.1; omega, fun s hs => (List.mem_append.mp hs).elim (hf.2 s) (hg.2 s)⟩
theorem okM_24 {f : Mask} (hf : okM 2 5 f) : okM 4 5 f := ⟨by have := hf.1; omega, hf.2⟩
theorem isNone_fd (f g : Mask) : DL.isNone (fdD f g (firstD f g (bnd [f, g] + 1))) = (diffL f g).isNone := by
  unfold diffL
  cases firstD f g (bnd [f, g] + 1) <;> rfl
end MK

namespace MK
open PySem DL
/-! ## pumping: what a mask does to u ++ z ++ v for all z -/
section
variable {β : Type} {star : β} {isS : β → Bool}
abbrev rep (star : β) (n : Nat) : List β := List.replicate n star
def need : Mask → Nat × Nat
  | [] => (0, 0)
  | .rev :: m => ((need m).2, (need m).1)
  | .cnt .sq _ :: m => need m
  | .cnt .kf k :: m => ((need m).1 + k, (need m).2)
  | .cnt .hf k :: m => ((need m).1 + k, (need m).2)
  | .cnt .cf k :: m => ((need m).1 + k, (need m).2)
  | .cnt .sh k :: m => ((need m).1 + k, (need m).2)
  | .cnt .kl k :: m => ((need m).1, (need m).2 + k)
  | .cnt .hl k :: m => ((need m).1, (need m).2 + k)
  | .cnt .cl k :: m => ((need m).1, (need m).2 + k)
theorem need_le : ∀ m : Mask, (need m).1 + (need m).2 ≤ sumM m
  | [] => Nat.le_refl _
  | .rev :: m => by
    have := need_le m
    rw [sumM_cons]
    simp only [need, cntS]
    omega
  | .cnt k n :: m => by
    have := need_le m
    rw [sumM_cons]
    cases k <;> simp only [need, cntS] <;> omega
/-- a row that depends on z -/
inductive Sh (β : Type) where
  | one (r : Bool) (p u v q : List β)
  | two (p : List β) (e : Nat) (q : List β)
  | thr (c : List β)
def Sh.row (star : β) : Sh β → List β → List β
  | .one r p u v q, z => p ++ (u ++ (if r then z.reverse else z) ++ v) ++ q
  | .two p e q, z => p ++ rep star (e + z.length) ++ q
  | .thr c, _ => c
def free (isS : β → Bool) (l : List β) : Prop := ∀ x ∈ l, isS x = false
def Sh.ok (isS : β → Bool) : Sh β → Nat × Nat → Prop
  | .one _ _ u v _, n => free isS u ∧ free isS v ∧ n.1 ≤ u.length ∧ n.2 ≤ v.length
  | .two _ e _, n => n.1 + n.2 ≤ e
  | .thr _, _ => True
def Sh.flip : Sh β → Sh β
  | .one r p u v q => .one (!r) q.reverse v.reverse u.reverse p.reverse
  | .two p e q => .two q.reverse e p.reverse
  | .thr c => .thr c.reverse
theorem Sh.flip_row (X : Sh β) (z : List β) : X.flip.row star z = (X.row star z).reverse := by
  cases X with
  | one r p u v q => cases r <;> simp [Sh.flip, Sh.row, List.reverse_append, List.append_assoc]
  | two p e q => simp [Sh.flip, Sh.row, List.reverse_append, List.append_assoc]
  | thr c => rfl
theorem free_rev {l : List β} (h : free isS l) : free isS l.reverse := fun x hx => h x (List.mem_reverse.mp hx)
theorem Sh.flip_ok {X : Sh β} {a b : Nat} (h : X.ok isS (a, b)) : X.flip.ok isS (b, a) := by
  cases X with
  | one r p u v q => exact ⟨free_rev h.2.1, free_rev h.1, by rw [List.length_reverse]; exact h.2.2.2, by rw [List.length_reverse]; exact h.2.2.1⟩
  | two p e q => show b + a ≤ e; have : a + b ≤ e := h; omega
  | thr c => trivial
theorem free_drop {l : List β} (h : free isS l) (n : Nat) : free isS (l.drop n) := fun x hx => h x (List.mem_of_mem_drop hx)
/-- the next shape -/
def nxtF (star : β) (isS : β → Bool) : Nm → Nat → Sh β → Sh β
  | .kf, k, .one _ p u v q => .two ((p ++ u).take k) (p.length + u.length - k + v.length + q.length) []
  | .kf, k, .two p e q => .two (p.take k) ((p.length - k) + e + q.length) []
  | .hf, k, .one r p u v q => .one r (rep star k ++ p.drop k) (u.drop (k - p.length)) v q
  | .hf, k, .two p e q => .two (rep star (min k p.length) ++ p.drop k) e q
  | .cf, k, .one r p u v q => .one r (p.drop k) (u.drop (k - p.length)) v q
  | .cf, k, .two p e q => .two (p.drop k) (e - (k - p.length)) q
  | .sq, k, .one r p u v q => .one r (sqG star isS k false p) u v (sqG star isS k false q)
  | .sq, k, .two p _ q => .thr (sqG star isS k false (p ++ (rep star (0 + 1) ++ q)))
  | .sh, _, .one r p u v q => .one r p u v q
  | .sh, _, .two p e q => .two p e q
  | n, k, .thr c => .thr (stepG star isS (.cnt n k) c)
  | _, _, X => X
def nxt (star : β) (isS : β → Bool) : Stp → Sh β → Sh β
  | .rev, X => X.flip
  | .cnt .kl k, X => (nxtF star isS .kf k X.flip).flip
  | .cnt .hl k, X => (nxtF star isS .hf k X.flip).flip
  | .cnt .cl k, X => (nxtF star isS .cf k X.flip).flip
  | .cnt n k, X => nxtF star isS n k X
/-- what one step does to a row of this shape, for all z -/
def Does (star : β) (isS : β → Bool) (s : Stp) (X : Sh β) (n : Nat × Nat) : Prop := (nxt star isS s X).ok isS n ∧ ∀ z, z ≠ [] → free isS z → stepG star isS s (X.row star z) = (nxt star isS s X).row star z
theorem does_rev {X : Sh β} {a b : Nat} (h : X.ok isS (a, b)) : Does star isS .rev X (b, a) := ⟨X.flip_ok h, fun z _ _ => (X.flip_row z).symm⟩
theorem pos_len {z : List β} (h : z ≠ []) : 1 ≤ z.length := by
  cases z with
  | nil => exact absurd rfl h
  | cons a b => exact Nat.le_add_left 1 _
theorem does_kf {X : Sh β} {a b k : Nat} (h : X.ok isS (a + k, b)) : Does star isS (.cnt .kf k) X (a, b) := by
  cases X with
  | thr c => exact ⟨trivial, fun _ _ _ => rfl⟩
  | two p e q =>
    have h : a + k + b ≤ e := h
    refine ⟨by show a + b ≤ _; omega, fun z _ _ => ?_⟩
    show (p ++ rep star (e + z.length) ++ q).take k ++ rep star ((p ++ rep star (e + z.length) ++ q).length - k) = p.take k ++ rep star ((p.length - k) + e + q.length + z.length) ++ []
    rw [List.append_assoc, List.take_append, List.append_nil, List.append_assoc, List.append_cancel_left_eq, List.take_append, List.length_replicate, List.take_replicate,
      show k - p.length - (e + z.length) = 0 by omega, List.take_zero, List.append_nil, List.replicate_append_replicate]
    congr 1
    simp only [List.length_append, List.length_replicate]
    omega
  | one r p u v q =>
    obtain ⟨h1, h2, h3, h4⟩ := h
    have h3 : a + k ≤ u.length := h3
    have h4 : b ≤ v.length := h4
    refine ⟨by show a + b ≤ _; omega, fun z _ _ => ?_⟩
    show (p ++ (u ++ (if r then z.reverse else z) ++ v) ++ q).take k ++ rep star ((p ++ (u ++ (if r then z.reverse else z) ++ v) ++ q).length - k) = (p ++ u).take k ++ rep star (p.length + u.length - k + v.length + q.length + z.length) ++ []
    have e1 : p ++ (u ++ (if r then z.reverse else z) ++ v) ++ q = (p ++ u) ++ ((if r then z.reverse else z) ++ v ++ q) := by simp [List.append_assoc]
    rw [List.append_nil, e1, List.take_append_of_le_length (by rw [List.length_append]; omega), List.append_cancel_left_eq]
    congr 1
    cases r <;> simp only [List.length_append, List.length_reverse, if_true, Bool.false_eq_true, if_false] <;> omega
theorem does_hf {X : Sh β} {a b k : Nat} (h : X.ok isS (a + k, b)) : Does star isS (.cnt .hf k) X (a, b) := by
  cases X with
  | thr c => exact ⟨trivial, fun _ _ _ => rfl⟩
  | two p e q =>
    have h : a + k + b ≤ e := h
    refine ⟨by show a + b ≤ _; omega, fun z _ _ => ?_⟩
    show rep star (min k (p ++ rep star (e + z.length) ++ q).length) ++ (p ++ rep star (e + z.length) ++ q).drop k = rep star (min k p.length) ++ p.drop k ++ rep star (e + z.length) ++ q
    have e1 : min k (p ++ rep star (e + z.length) ++ q).length = min k p.length + (k - p.length) := by
      simp only [List.length_append, List.length_replicate]
      omega
    rw [e1, show rep star (min k p.length + (k - p.length)) = rep star (min k p.length) ++ rep star (k - p.length) from List.replicate_append_replicate.symm, List.append_assoc p, List.drop_append, List.drop_append, List.drop_replicate, List.length_replicate, show k - p.length - (e + z.length) = 0 by omega, List.drop_zero]
    by_cases c : k ≤ p.length
    · rw [show k - p.length = 0 by omega, Nat.sub_zero]
      simp [List.append_assoc]
    · rw [List.drop_eq_nil_of_le (show p.length ≤ k by omega)]
      simp only [List.nil_append, List.append_nil, List.append_assoc, List.append_cancel_left_eq]
      rw [← List.append_assoc, List.replicate_append_replicate]
      congr 2
      omega
  | one r p u v q =>
    obtain ⟨h1, h2, h3, h4⟩ := h
    have h3 : a + k ≤ u.length := h3
    refine ⟨⟨free_drop h1 _, h2, by show a ≤ _; rw [List.length_drop]; omega, h4⟩, fun z _ _ => ?_⟩
    show rep star (min k (p ++ (u ++ (if r then z.reverse else z) ++ v) ++ q).length) ++ (p ++ (u ++ (if r then z.reverse else z) ++ v) ++ q).drop k = rep star k ++ p.drop k ++ (u.drop (k - p.length) ++ (if r then z.reverse else z) ++ v) ++ q
    have e1 : min k (p ++ (u ++ (if r then z.reverse else z) ++ v) ++ q).length = k := by
      simp only [List.length_append]
      omega
    have e2 : p ++ (u ++ (if r then z.reverse else z) ++ v) ++ q = p ++ (u ++ ((if r then z.reverse else z) ++ v ++ q)) := by simp [List.append_assoc]
    rw [e1, e2, List.drop_append, List.drop_append_of_le_length (l₁ := u) (by omega)]
    simp [List.append_assoc]
theorem does_cf {X : Sh β} {a b k : Nat} (h : X.ok isS (a + k, b)) : Does star isS (.cnt .cf k) X (a, b) := by
  cases X with
  | thr c => exact ⟨trivial, fun _ _ _ => rfl⟩
  | two p e q =>
    have h : a + k + b ≤ e := h
    refine ⟨by show a + b ≤ _; omega, fun z _ _ => ?_⟩
    show (p ++ rep star (e + z.length) ++ q).drop k = p.drop k ++ rep star (e - (k - p.length) + z.length) ++ q
    rw [List.append_assoc, List.drop_append, List.drop_append, List.drop_replicate, List.length_replicate, show k - p.length - (e + z.length) = 0 by omega, List.drop_zero, List.append_assoc]
    congr 3
    omega
  | one r p u v q =>
    obtain ⟨h1, h2, h3, h4⟩ := h
    have h3 : a + k ≤ u.length := h3
    refine ⟨⟨free_drop h1 _, h2, by show a ≤ _; rw [List.length_drop]; omega, h4⟩, fun z _ _ => ?_⟩
    show (p ++ (u ++ (if r then z.reverse else z) ++ v) ++ q).drop k = p.drop k ++ (u.drop (k - p.length) ++ (if r then z.reverse else z) ++ v) ++ q
    have e2 : p ++ (u ++ (if r then z.reverse else z) ++ v) ++ q = p ++ (u ++ ((if r then z.reverse else z) ++ v ++ q)) := by simp [List.append_assoc]
    rw [e2, List.drop_append, List.drop_append_of_le_length (l₁ := u) (by omega)]
    simp [List.append_assoc]
theorem does_sh {X : Sh β} {a b k : Nat} (h : X.ok isS (a + k, b)) : Does star isS (.cnt .sh k) X (a, b) := by
  cases X with
  | thr c => exact ⟨trivial, fun _ _ _ => rfl⟩
  | two p e q =>
    have h : a + k + b ≤ e := h
    refine ⟨by show a + b ≤ _; omega, fun z _ _ => ?_⟩
    exact if_neg (by
      show ¬ (p ++ rep star (e + z.length) ++ q).length < k
      simp only [List.length_append, List.length_replicate]
      omega)
  | one r p u v q =>
    obtain ⟨h1, h2, h3, h4⟩ := h
    have h3 : a + k ≤ u.length := h3
    refine ⟨⟨h1, h2, by show a ≤ _; omega, h4⟩, fun z _ _ => ?_⟩
    exact if_neg (by
      show ¬ (p ++ (u ++ (if r then z.reverse else z) ++ v) ++ q).length < k
      simp only [List.length_append]
      omega)
theorem sq_free (n : Nat) : ∀ (w : List β) (r : List β) (p : Bool), free isS w → w ≠ [] → sqG star isS n p (w ++ r) = w ++ sqG star isS n false r
  | [], r, p, _, h => absurd rfl h
  | [x], r, p, hw, _ => by
    show (if isS x = true then _ else _) = _
    rw [hw x (by simp)]
    rfl
  | x :: y :: w, r, p, hw, _ => by
    have ih := sq_free n (y :: w) r false (fun z hz => hw z (by simp [List.mem_cons.mp hz])) (by simp)
    show (if isS x = true then _ else x :: sqG star isS n false (y :: w ++ r)) = _
    rw [hw x (by simp), if_neg (by simp), ih]
    rfl
theorem sq_cut (n : Nat) : ∀ (l : List β) (w r : List β) (p : Bool), free isS w → w ≠ [] → sqG star isS n p (l ++ (w ++ r)) = sqG star isS n p l ++ (w ++ sqG star isS n false r)
  | [], w, r, p, hw, h => sq_free n w r p hw h
  | x :: l, w, r, p, hw, h => by
    have i1 := sq_cut n l w r true hw h
    have i2 := sq_cut n l w r false hw h
    show (if isS x = true then _ ++ sqG star isS n true (l ++ (w ++ r)) else x :: sqG star isS n false (l ++ (w ++ r))) = (if isS x = true then _ ++ sqG star isS n true l else x :: sqG star isS n false l) ++ _
    cases isS x with
    | true => rw [if_pos rfl, if_pos rfl, i1, List.append_assoc]
    | false => rw [if_neg (by simp), if_neg (by simp), i2, List.cons_append]
theorem sq_run (hs : isS star = true) (n : Nat) : ∀ (j : Nat) (r : List β) (p : Bool), sqG star isS n p (rep star (j + 1) ++ r) = (if p then [] else rep star n) ++ sqG star isS n true r
  | 0, r, p => by
    show (if isS star = true then _ else _) = _
    rw [hs, if_pos rfl]
    rfl
  | j + 1, r, p => by
    have ih := sq_run hs n j r true
    show (if isS star = true then (if p then [] else rep star n) ++ sqG star isS n true (rep star (j + 1) ++ r) else _) = _
    rw [hs, if_pos rfl, ih]
    rfl
theorem sq_runs (hs : isS star = true) (n : Nat) (j j' : Nat) (r : List β) : ∀ (l : List β) (p : Bool), sqG star isS n p (l ++ (rep star (j + 1) ++ r)) = sqG star isS n p (l ++ (rep star (j' + 1) ++ r))
  | [], p => by rw [List.nil_append, List.nil_append, sq_run hs, sq_run hs]
  | x :: l, p => by
    show (if isS x = true then _ ++ sqG star isS n true (l ++ _) else x :: sqG star isS n false (l ++ _)) = (if isS x = true then _ ++ sqG star isS n true (l ++ _) else x :: sqG star isS n false (l ++ _))
    rw [sq_runs hs n j j' r l true, sq_runs hs n j j' r l false]
theorem does_sq (hs : isS star = true) {X : Sh β} {n : Nat × Nat} {k : Nat} (h : X.ok isS n) : Does star isS (.cnt .sq k) X n := by
  cases X with
  | thr c => exact ⟨trivial, fun _ _ _ => rfl⟩
  | two p e q =>
    refine ⟨trivial, fun z hz _ => ?_⟩
    have hz := pos_len hz
    show sqG star isS k false (p ++ rep star (e + z.length) ++ q) = _
    rw [List.append_assoc, show e + z.length = (e + z.length - 1) + 1 by omega]
    exact sq_runs hs k _ _ q p false
  | one r p u v q =>
    obtain ⟨h1, h2, h3, h4⟩ := h
    refine ⟨⟨h1, h2, h3, h4⟩, fun z hz hf => ?_⟩
    show sqG star isS k false (p ++ (u ++ (if r then z.reverse else z) ++ v) ++ q) = sqG star isS k false p ++ (u ++ (if r then z.reverse else z) ++ v) ++ sqG star isS k false q
    have hA : free isS (u ++ (if r then z.reverse else z) ++ v) := by
      intro x hx
      simp only [List.mem_append] at hx
      rcases hx with (hx | hx) | hx
      · exact h1 x hx
      · refine hf x ?_
        cases r with
        | true => exact List.mem_reverse.mp hx
        | false => exact hx
      · exact h2 x hx
    have hB : u ++ (if r then z.reverse else z) ++ v ≠ [] := by
      intro h
      have := congrArg List.length h
      have hz := pos_len hz
      cases r <;> simp only [List.length_append, List.length_reverse, List.length_nil, if_true, Bool.false_eq_true, if_false] at this <;> omega
    rw [List.append_assoc, sq_cut k p _ q false hA hB, List.append_assoc (sqG star isS k false p)]
/-- the back steps are the front steps of the mirrored row -/
theorem kl_rev (k : Nat) (r : List β) : stepG star isS (.cnt .kl k) r = (stepG star isS (.cnt .kf k) r.reverse).reverse := by
  show rep star (r.length - k) ++ r.drop (r.length - k) = (r.reverse.take k ++ rep star (r.reverse.length - k)).reverse
  rw [List.reverse_append, List.reverse_replicate, List.length_reverse, List.take_reverse, List.reverse_reverse]
theorem hl_rev (k : Nat) (r : List β) : stepG star isS (.cnt .hl k) r = (stepG star isS (.cnt .hf k) r.reverse).reverse := by
  show r.take (r.length - k) ++ rep star (min k r.length) = (rep star (min k r.reverse.length) ++ r.reverse.drop k).reverse
  rw [List.reverse_append, List.reverse_replicate, List.length_reverse, List.drop_reverse, List.reverse_reverse]
theorem cl_rev (k : Nat) (r : List β) : stepG star isS (.cnt .cl k) r = (stepG star isS (.cnt .cf k) r.reverse).reverse := by
  show r.take (r.length - k) = (r.reverse.drop k).reverse
  rw [List.drop_reverse, List.reverse_reverse]
theorem does_mir {s s' : Stp} {X : Sh β} (hr : ∀ r : List β, stepG star isS s r = (stepG star isS s' r.reverse).reverse) (hn : nxt star isS s X = (nxt star isS s' X.flip).flip) {a b : Nat} (h : Does star isS s' X.flip (b, a)) : Does star isS s X (a, b) := by
  obtain ⟨hy, e⟩ := h
  rw [Does, hn]
  refine ⟨Sh.flip_ok hy, fun z hz hf => ?_⟩
  rw [hr, ← X.flip_row, e z hz hf, Sh.flip_row]
theorem does_any (hs : isS star = true) {X : Sh β} {s : Stp} {m : Mask} (h : X.ok isS (need (s :: m))) : Does star isS s X (need m) := by
  cases s with
  | rev => exact does_rev (a := (need m).2) (b := (need m).1) h
  | cnt k n =>
    cases k with
    | kf => exact does_kf h
    | hf => exact does_hf h
    | cf => exact does_cf h
    | sh => exact does_sh h
    | sq => exact does_sq hs h
    | kl => exact does_mir (kl_rev n) rfl (does_kf (X.flip_ok h))
    | hl => exact does_mir (hl_rev n) rfl (does_hf (X.flip_ok h))
    | cl => exact does_mir (cl_rev n) rfl (does_cf (X.flip_ok h))
def nxts (star : β) (isS : β → Bool) (m : Mask) (X : Sh β) : Sh β := m.foldl (fun X s => nxt star isS s X) X
theorem run_nxts (hs : isS star = true) : ∀ (m : Mask) (X : Sh β), X.ok isS (need m) → ∀ z, z ≠ [] → free isS z → runG star isS m (X.row star z) = (nxts star isS m X).row star z
  | [], X, _, z, _, _ => rfl
  | s :: m, X, h, z, hz, hf => by
    obtain ⟨hy, e⟩ := does_any hs h
    show runG star isS m (stepG star isS s (X.row star z)) = (nxts star isS m (nxt star isS s X)).row star z
    rw [e z hz hf]
    exact run_nxts hs m _ hy z hz hf
theorem run_shape (hs : isS star = true) (m : Mask) (X : Sh β) (h : X.ok isS (need m)) : ∃ Y : Sh β, ∀ z, z ≠ [] → free isS z → runG star isS m (X.row star z) = Y.row star z := ⟨nxts star isS m X, run_nxts hs m X h⟩
end
end MK

namespace MK
open PySem DL
section
variable {β : Type} {star : β} {isS : β → Bool}
inductive Fm (β : Type) where
  | mid (r : Bool) (p q : List β)
  | run (p : List β) (e : Nat) (q : List β)
  | cst (c : List β)
def Fm.row (star : β) : Fm β → List β → List β
  | .mid r p q, z => p ++ (if r then z.reverse else z) ++ q
  | .run p e q, z => p ++ rep star (e + z.length) ++ q
  | .cst c, _ => c
def Sh.fm : Sh β → Fm β
  | .one r p u v q => .mid r (p ++ u) (v ++ q)
  | .two p e q => .run p e q
  | .thr c => .cst c
theorem Sh.fm_row (X : Sh β) (z : List β) : X.fm.row star z = X.row star z := by
  cases X with
  | one r p u v q => simp [Sh.fm, Fm.row, Sh.row, List.append_assoc]
  | two p e q => rfl
  | thr c => rfl
theorem at_mid (p q : List β) (c : β) : (p ++ [c] ++ q)[p.length]? = some c := by simp
theorem mid_const {p q : List β} {x y : β} {C : List β} (h1 : p ++ [x] ++ q = C) (h2 : p ++ [y] ++ q = C) : x = y := by
  have e1 := at_mid p q x
  have e2 := at_mid p q y
  rw [h1] at e1
  rw [h2, e1] at e2
  exact Option.some.inj e2
theorem mid_lt {p q p' q' : List β} {x y : β} (hxy : x ≠ y) (h1 : p ++ [x] ++ q = p' ++ [x] ++ q') (h2 : p ++ [y] ++ q = p' ++ [y] ++ q') : ¬ p.length < p'.length := by
  intro h
  have e1 := at_mid p q x
  have e2 := at_mid p q y
  rw [h1, List.append_assoc, List.getElem?_append_left h] at e1
  rw [h2, List.append_assoc, List.getElem?_append_left h, e1] at e2
  exact hxy (Option.some.inj e2)
theorem mid_mid {p q p' q' : List β} {x y : β} (hxy : x ≠ y) (h1 : p ++ [x] ++ q = p' ++ [x] ++ q') (h2 : p ++ [y] ++ q = p' ++ [y] ++ q') : p = p' ∧ q = q' := by
  have a := mid_lt hxy h1 h2
  have b := mid_lt hxy h1.symm h2.symm
  rw [List.append_assoc, List.append_assoc] at h1
  obtain ⟨e1, e2⟩ := List.append_inj h1 (by omega)
  exact ⟨e1, (List.cons.inj e2).2⟩
theorem shift_rep {t : List β} (h : star :: t = t ++ [star]) : t = rep star t.length := by
  induction t with
  | nil => rfl
  | cons x t ih =>
    have e := List.cons.inj h
    obtain ⟨e1, e2⟩ := e
    subst e1
    have := ih (by simpa using e2)
    rw [List.length_cons, show rep star (t.length + 1) = star :: rep star t.length from List.replicate_succ, ← this]
theorem rep_succ (n : Nat) : rep star (n + 1) = star :: rep star n := List.replicate_succ
theorem rep_add (a b : Nat) : rep star (a + b) = rep star a ++ rep star b := List.replicate_append_replicate.symm
theorem run_run_le {p q p' q' : List β} {e e' : Nat} (hl : p.length ≤ p'.length) (h1 : p ++ rep star (e + 1) ++ q = p' ++ rep star (e' + 1) ++ q') (h2 : p ++ rep star (e + 2) ++ q = p' ++ rep star (e' + 2) ++ q') (k : Nat) : p ++ rep star (e + 1 + k) ++ q = p' ++ rep star (e' + 1 + k) ++ q' := by
  obtain ⟨t, rfl⟩ : ∃ t, p' = p ++ t := by
    rw [List.append_assoc, List.append_assoc] at h1
    rcases List.append_eq_append_iff.mp h1 with ⟨t, a, _⟩ | ⟨t, a, b⟩
    · exact ⟨t, a⟩
    · have hh := congrArg List.length a
      rw [List.length_append] at hh
      have ht : t = [] := List.length_eq_zero_iff.mp (by omega)
      subst ht
      exact ⟨[], by simpa using a.symm⟩
  simp only [List.append_assoc, List.append_cancel_left_eq] at h1 h2 ⊢
  have e2 : star :: t = t ++ [star] := by
    rw [show e + 2 = (e + 1) + 1 from rfl, show e' + 2 = (e' + 1) + 1 from rfl, rep_succ (e + 1), rep_succ (e' + 1), List.cons_append, h1] at h2
    have h3 : (star :: t) ++ (rep star (e' + 1) ++ q') = (t ++ [star]) ++ (rep star (e' + 1) ++ q') := by
      simpa [List.append_assoc] using h2
    exact List.append_cancel_right h3
  have e3 := shift_rep e2
  rw [show e + 1 + k = k + (e + 1) by omega, show e' + 1 + k = k + (e' + 1) by omega, rep_add k (e + 1), rep_add k (e' + 1), List.append_assoc, h1]
  have e4 : rep star k ++ t = t ++ rep star k := by
    rw [e3, ← rep_add, ← rep_add, Nat.add_comm]
  rw [← List.append_assoc, e4, List.append_assoc, List.append_assoc]
theorem run_run {p q p' q' : List β} {e e' : Nat} (h1 : p ++ rep star (e + 1) ++ q = p' ++ rep star (e' + 1) ++ q') (h2 : p ++ rep star (e + 2) ++ q = p' ++ rep star (e' + 2) ++ q') (k : Nat) : p ++ rep star (e + 1 + k) ++ q = p' ++ rep star (e' + 1 + k) ++ q' := by
  rcases Nat.le_total p.length p'.length with hl | hl
  · exact run_run_le hl h1 h2 k
  · exact (run_run_le hl h1.symm h2.symm k).symm
theorem if_rev1 (r : Bool) (x : β) : (if r then [x].reverse else [x]) = [x] := by cases r <;> rfl
theorem agree_mid {r : Bool} {p q : List β} {Y : Fm β} {x y : β} (hx : isS x = false) (hy : isS y = false) (hxy : x ≠ y) (h : ∀ z, z ≠ [] → z.length ≤ 2 → free isS z → (Fm.mid r p q).row star z = Y.row star z) : Y = .mid r p q := by
  have fx : free isS [x] := fun c hc => by rw [List.mem_singleton.mp hc]; exact hx
  have fy : free isS [y] := fun c hc => by rw [List.mem_singleton.mp hc]; exact hy
  have hX := h [x] (by simp) (by simp) fx
  have hY := h [y] (by simp) (by simp) fy
  simp only [Fm.row, if_rev1] at hX hY
  cases Y with
  | mid r' p' q' =>
    simp only [Fm.row, if_rev1] at hX hY
    obtain ⟨rfl, rfl⟩ := mid_mid hxy hX hY
    have h2 := h [x, y] (by simp) (by simp) (fun c hc => by
      rcases List.mem_cons.mp hc with e | e
      · rw [e]; exact hx
      · rw [List.mem_singleton.mp e]; exact hy)
    cases r <;> cases r' <;> simp [Fm.row] at h2 ⊢
    · exact hxy h2.1
    · exact hxy h2.2
  | run p' e' q' => exact absurd (mid_const hX hY) hxy
  | cst c => exact absurd (mid_const hX hY) hxy
theorem agree {X Y : Fm β} {x y : β} (hx : isS x = false) (hy : isS y = false) (hxy : x ≠ y) (h : ∀ z, z ≠ [] → z.length ≤ 2 → free isS z → X.row star z = Y.row star z) : ∀ z, z ≠ [] → X.row star z = Y.row star z := by
  have fx : free isS [x] := fun c hc => by rw [List.mem_singleton.mp hc]; exact hx
  have fxy : free isS [x, y] := fun c hc => by
    rcases List.mem_cons.mp hc with e | e
    · rw [e]; exact hx
    · rw [List.mem_singleton.mp e]; exact hy
  have h1 := h [x] (by simp) (by simp) fx
  have h2 := h [x, y] (by simp) (by simp) fxy
  intro z hz
  have hz := pos_len hz
  cases X with
  | mid r p q => rw [agree_mid hx hy hxy h]
  | run p e q =>
    cases Y with
    | mid r p' q' => rw [agree_mid hx hy hxy fun z a b c => (h z a b c).symm]
    | run p' e' q' =>
      have := run_run h1 h2 (z.length - 1)
      show p ++ rep star (e + z.length) ++ q = p' ++ rep star (e' + z.length) ++ q'
      rw [show e + z.length = e + 1 + (z.length - 1) by omega, show e' + z.length = e' + 1 + (z.length - 1) by omega]
      exact this
    | cst c =>
      have e1 := congrArg List.length h1
      have e2 := congrArg List.length h2
      simp [Fm.row] at e1 e2
      omega
  | cst c =>
    cases Y with
    | mid r p' q' => rw [agree_mid hx hy hxy fun z a b c => (h z a b c).symm]
    | run p' e' q' =>
      have e1 := congrArg List.length h1
      have e2 := congrArg List.length h2
      simp [Fm.row] at e1 e2
      omega
    | cst c' => exact h1
end
/-! ## templates say all -/
theorem run_names (f : Nat → Nat) (m : Mask) (n : Nat) : (templ m n).map (Option.map f) = runR m ((List.range n).map fun i => some (f i)) := by
  unfold templ
  rw [runG_map (star' := none) (isS' := isN) (φ := Option.map f) rfl (fun x => by cases x <;> rfl), List.map_map]
  rfl
theorem run_list (m : Mask) (w : List Nat) : runR m (w.map some) = (templ m w.length).map (Option.map fun i => w.getD i 0) := by
  rw [run_names]
  congr 1
  apply List.ext_getElem
  · simp
  · intro i h1 h2
    simp at h1 h2 ⊢
    rw [List.getElem?_eq_getElem h1]
    rfl
theorem free_some (w : List Nat) : free isN (w.map some) := fun x hx => by
  obtain ⟨i, _, rfl⟩ := List.mem_map.mp hx
  rfl
theorem unsome {z : List (Option Nat)} (h : free isN z) : ∃ w : List Nat, z = w.map some := by
  induction z with
  | nil => exact ⟨[], rfl⟩
  | cons x z ih =>
    obtain ⟨w, hw⟩ := ih fun c hc => h c (List.mem_cons_of_mem _ hc)
    cases x with
    | none => exact absurd (h none List.mem_cons_self) (by decide)
    | some i => exact ⟨i :: w, by rw [hw]; rfl⟩
/-- beyond the bound masks that were alike stay alike -/
theorem bound_ok {f g : Mask} (h : ∀ n, n ≤ 2 + (sumM f + sumM g) → templ f n = templ g n) (n : Nat) : templ f n = templ g n := by
  by_cases c : n ≤ 2 + (sumM f + sumM g)
  · exact h n c
  have nf := need_le f
  have ng := need_le g
  let A := max (need f).1 (need g).1
  let B := max (need f).2 (need g).2
  have hAB : A + B ≤ sumM f + sumM g := by
    show max _ _ + max _ _ ≤ _
    omega
  let u : List Nat := List.range A
  let v : List Nat := (List.range B).map fun i => n - B + i
  let X : Sh (Option Nat) := .one false [] (u.map some) (v.map some) []
  have okf : X.ok isN (need f) := ⟨free_some _, free_some _, by simp [u]; exact Nat.le_max_left _ _, by simp [v]; exact Nat.le_max_left _ _⟩
  have okg : X.ok isN (need g) := ⟨free_some _, free_some _, by simp [u]; exact Nat.le_max_right _ _, by simp [v]; exact Nat.le_max_right _ _⟩
  obtain ⟨F, hF⟩ := run_shape (star := none) (isS := isN) rfl f X okf
  obtain ⟨G, hG⟩ := run_shape (star := none) (isS := isN) rfl g X okg
  have hrow : ∀ w : List Nat, X.row none (w.map some) = (u ++ w ++ v).map some := fun w => by
    show [] ++ (u.map some ++ (w.map some) ++ v.map some) ++ [] = _
    simp
  have small : ∀ z, z ≠ [] → z.length ≤ 2 → free isN z → F.fm.row none z = G.fm.row none z := by
    intro z hz hl hf
    obtain ⟨w, rfl⟩ := unsome hf
    rw [F.fm_row, G.fm_row, ← hF _ hz hf, ← hG _ hz hf, hrow]
    show runR f _ = runR g _
    rw [run_list, run_list, h]
    rw [List.length_map] at hl
    simp [u, v]
    omega
  have all := agree (x := some 0) (y := some 1) rfl rfl (by decide) small
  let w : List Nat := (List.range (n - A - B)).map fun i => A + i
  have hw : w.map some ≠ [] := by
    intro h0
    have := congrArg List.length h0
    simp [w] at this
    omega
  have e := all (w.map some) hw
  rw [F.fm_row, G.fm_row, ← hF _ hw (free_some w), ← hG _ hw (free_some w), hrow] at e
  have e3 : u ++ w ++ v = List.range n := by
    have e4 : List.range n = List.range (A + (n - A - B) + B) := by
      congr 1
      omega
    rw [e4, List.range_add, List.range_add]
    show _ = u ++ w ++ _
    congr 1
    show (List.range B).map (fun i => n - B + i) = _
    rw [show A + (n - A - B) = n - B by omega]
  rw [e3] at e
  exact e
theorem bound_firstD {f g : Mask} : firstD f g (bnd [f, g] + 1) = none ↔ ∀ n, templ f n = templ g n := by
  rw [firstD_none, bnd_two]
  exact ⟨fun h n => bound_ok (fun n hn => h n (by omega)) n, fun h n _ => h n⟩
end MK

namespace MK
open PySem DL
/-! ## all strings, shortest first -/
def lvl (ls : List Nat) : Nat → List (List Nat)
  | 0 => [[]]
  | n + 1 => (lvl ls n).flatMap fun t => ls.map fun c => t ++ [c]
def strsL (ls : List Nat) (n : Nat) : List (List Nat) := (List.range (n + 1)).flatMap (lvl ls)
def dStrs (ts : List (List Nat)) : List PyData := ts.map fun t => .str (mkS t)
theorem lvl_mem {ls : List Nat} : ∀ {n : Nat} {t : List Nat}, t ∈ lvl ls n ↔ t.length = n ∧ ∀ c ∈ t, c ∈ ls
  | 0, t => by
    simp only [lvl, List.mem_singleton]
    constructor
    · rintro rfl
      exact ⟨rfl, fun c hc => by cases hc⟩
    · exact fun h => List.length_eq_zero_iff.mp h.1
  | n + 1, t => by
    simp only [lvl, List.mem_flatMap, List.mem_map]
    constructor
    · rintro ⟨s, hs, c, hc, rfl⟩
      obtain ⟨h1, h2⟩ := lvl_mem.mp hs
      refine ⟨by simp [h1], fun d hd => ?_⟩
      rcases List.mem_append.mp hd with h | h
      · exact h2 d h
      · rw [List.mem_singleton.mp h]; exact hc
    · rintro ⟨h1, h2⟩
      rcases List.eq_nil_or_concat t with e | ⟨s, c, e⟩
      · subst e
        cases h1
      · subst e
        refine ⟨s, lvl_mem.mpr ⟨by simp at h1; exact h1, fun d hd => h2 d (by simp [hd])⟩, c, h2 c (by simp), by simp⟩
theorem strsL_mem {ls : List Nat} {n : Nat} {t : List Nat} : t ∈ strsL ls n ↔ t.length ≤ n ∧ ∀ c ∈ t, c ∈ ls := by
  unfold strsL
  rw [List.mem_flatMap]
  constructor
  · rintro ⟨i, hi, h⟩
    obtain ⟨h1, h2⟩ := lvl_mem.mp h
    have := List.mem_range.mp hi
    exact ⟨by omega, h2⟩
  · rintro ⟨h1, h2⟩
    exact ⟨t.length, List.mem_range.mpr (by omega), lvl_mem.mpr ⟨rfl, h2⟩⟩
theorem lvl_len (ls : List Nat) : ∀ n, (lvl ls n).length = ls.length ^ n
  | 0 => rfl
  | n + 1 => by
    show ((lvl ls n).flatMap _).length = _
    rw [List.length_flatMap]
    have : (lvl ls n).map (fun t => (ls.map fun c => t ++ [c]).length) = List.replicate (lvl ls n).length ls.length := by
      rw [List.eq_replicate_iff]
      refine ⟨by simp, fun b hb => ?_⟩
      obtain ⟨t, _, rfl⟩ := List.mem_map.mp hb
      simp
    rw [this, List.sum_replicate_nat, lvl_len ls n, Nat.pow_succ]
theorem strsL_succ (ls : List Nat) (n : Nat) : strsL ls (n + 1) = strsL ls n ++ lvl ls (n + 1) := by
  unfold strsL
  rw [List.range_succ, List.flatMap_append]
  simp
/-- lengths do not fall -/
theorem strsL_sorted (ls : List Nat) : ∀ n, (strsL ls n).Pairwise fun a b => a.length ≤ b.length
  | 0 => by
    show ([[]] : List (List Nat)).Pairwise _
    simp
  | n + 1 => by
    rw [strsL_succ]
    refine List.pairwise_append.mpr ⟨strsL_sorted ls n, ?_, fun a ha b hb => ?_⟩
    · refine List.Pairwise.imp_of_mem (R := fun _ _ => True) (fun {a b} ha hb _ => ?_) (List.pairwise_of_forall fun _ _ => trivial)
      rw [(lvl_mem.mp ha).1, (lvl_mem.mp hb).1]
      exact Nat.le_refl _
    · rw [(lvl_mem.mp hb).1]
      have := (strsL_mem.mp ha).1
      omega
/-! ## outputs and templates -/
theorem outs_of {f g : Mask} {l : List Nat} (hl : okT l) (h : templ f l.length = templ g l.length) : runT f l = runT g l := by
  rw [run_text hl f, run_text hl g, h]
theorem cells_len {φ : Nat → Nat} (r : List (Option Nat)) : (r.map (cell φ)).length = r.length := List.length_map _
theorem bad_none {a b : List (Option Nat)} (φ : Nat → Nat) (hφ : ∀ i, φ i ≠ 42) (hl : a.length = b.length) (hb : badI a b = none) (h : a.map (cell φ) = b.map (cell φ)) : a = b := by
  induction a generalizing b with
  | nil => cases b with
    | nil => rfl
    | cons => cases hl
  | cons x a ih =>
    cases b with
    | nil => cases hl
    | cons y b =>
      rw [List.map_cons, List.map_cons] at h
      obtain ⟨h1, h2⟩ := List.cons.inj h
      have hl2 : a.length = b.length := Nat.succ.inj hl
      cases x with
      | none =>
        cases y with
        | none => rw [ih hl2 (by simpa [badI] using hb) h2]
        | some j => exact absurd h1.symm (hφ j)
      | some i =>
        cases y with
        | none => exact absurd h1 (hφ i)
        | some j =>
          rw [badI] at hb
          split at hb
          · cases hb
          · rename_i c
            rw [ih hl2 hb h2, Decidable.not_not.mp c]
theorem bad_some {a b : List (Option Nat)} {i : Nat} (φ : Nat → Nat) (h1 : badI a b = some i) (h2 : ∀ j, j ≠ i → φ j ≠ φ i) : a.map (cell φ) ≠ b.map (cell φ) := by
  induction a generalizing b with
  | nil => simp [badI] at h1
  | cons x a ih =>
    cases b with
    | nil => cases x <;> simp [badI] at h1
    | cons y b =>
      intro h
      rw [List.map_cons, List.map_cons] at h
      obtain ⟨e1, e2⟩ := List.cons.inj h
      cases x with
      | none => exact ih (by simpa [badI] using h1) e2
      | some k =>
        cases y with
        | none => exact ih (by simpa [badI] using h1) e2
        | some j =>
          rw [badI] at h1
          split at h1
          · cases h1
            rename_i c
            exact h2 j (Ne.symm c) e1.symm
          · exact ih h1 e2
/-- the string shows the difference -/
theorem show_ok {f g : Mask} {n : Nat} (h : templ f n ≠ templ g n) : runT f (showL n (templ f n) (templ g n)) ≠ runT g (showL n (templ f n) (templ g n)) := by
  have hT := showL_ok n (templ f n) (templ g n)
  have hL := showL_len n (templ f n) (templ g n)
  intro e
  rw [run_text hT f, run_text hT g, hL] at e
  have el := congrArg List.length e
  rw [cells_len, cells_len] at el
  unfold showL at e
  rw [if_pos el] at e
  cases hb : badI (templ f n) (templ g n) with
  | none =>
    rw [hb] at e
    refine h (bad_none _ (fun i => ?_) el hb e)
    dsimp only
    rw [List.getD_eq_getElem?_getD, List.getElem?_replicate]
    split <;> simp
  | some i =>
    rw [hb] at e
    have hi : i < n := templ_lt (badI_mem hb)
    refine bad_some _ hb (fun j hj => ?_) e
    dsimp only
    rw [List.getD_eq_getElem?_getD, List.getD_eq_getElem?_getD, List.getElem?_set_ne (Ne.symm hj), List.getElem?_set_self (by simpa using hi), List.getElem?_replicate]
    split <;> simp
theorem diffL_none {f g : Mask} : diffL f g = none ↔ ∀ n, templ f n = templ g n := by
  unfold diffL
  rw [Option.map_eq_none_iff, bound_firstD]
theorem diffL_some {f g : Mask} {l : List Nat} (h : diffL f g = some l) : (okT l ∧ (∀ c ∈ l, c = 97 ∨ c = 98) ∧ l.length ≤ bnd [f, g]) ∧ runT f l ≠ runT g l ∧ ∀ n, n < l.length → templ f n = templ g n := by
  unfold diffL at h
  obtain ⟨n, h1, rfl⟩ := Option.map_eq_some_iff.mp h
  obtain ⟨a, b, c⟩ := firstD_some h1
  refine ⟨⟨showL_ok _ _ _, ?_, by rw [showL_len]; omega⟩, show_ok b, fun k hk => c k (by rw [showL_len] at hk; exact hk)⟩
  intro x hx
  unfold showL at hx
  split at hx
  · rcases List.mem_or_eq_of_mem_set hx with h | h
    · exact .inl (List.eq_of_mem_replicate h)
    · exact .inr h
  · exact .inl (List.eq_of_mem_replicate hx)
theorem diffL_none_runs {f g : Mask} (h : diffL f g = none) {l : List Nat} (hl : okT l) : runT f l = runT g l := outs_of hl (diffL_none.mp h _)
theorem diffL_comm (f g : Mask) : (diffL f g).isNone = (diffL g f).isNone := by
  rw [Bool.eq_iff_iff, Option.isNone_iff_eq_none, Option.isNone_iff_eq_none, diffL_none, diffL_none]
  exact ⟨fun h n => (h n).symm, fun h n => (h n).symm⟩
theorem diffL_self (f : Mask) : diffL f f = none := diffL_none.mpr fun _ => rfl
theorem runT_app (f g : Mask) (l : List Nat) : runT (f ++ g) l = runT g (runT f l) := List.foldl_append
end MK

namespace MK
open PySem DL
/-! ## releases -/
abbrev Rel := List Mask
def dRel (r : Rel) : PyData := .tuple (r.map dMask)
def okR (r : Rel) : Prop := r.length ≤ 3 ∧ ∀ m ∈ r, okM 4 5 m
theorem dRel_ok (r : Rel) : okN 3 (dRel r) = true := okN_tup fun d hd => by
  obtain ⟨m, _, rfl⟩ := List.mem_map.mp hd
  exact dMask_ok m
def simB (a b : List (Option Nat)) : Bool := decide (a.map isN = b.map isN)
theorem sim_zip : ∀ (a b : List (Option Nat)), a.length = b.length → ((a.zip b).all fun p => decide (isN p.1 = isN p.2)) = simB a b
  | [], [], _ => rfl
  | [], _ :: _, h => by cases h
  | _ :: _, [], h => by cases h
  | x :: a, y :: b, h => by
    rw [List.zip_cons_cons, List.all_cons, sim_zip a b (Nat.succ.inj h)]
    unfold simB
    rw [List.map_cons, List.map_cons, Bool.eq_iff_iff]
    simp
/-- the places that a release shows at a length -/
def shownL (r : Rel) (n : Nat) : List Nat := r.flatMap fun m => (templ m n).filterMap id
/-- with numbers as keys, each True -/
def markE (ns : List Nat) : List (L2.Key × PyData) := ns.foldl (fun es (i : Nat) => putE es (Sum.inl (i : Int)) (.bool true)) []
theorem markE_snoc (ns : List Nat) (i : Nat) : markE (ns ++ [i]) = putE (markE ns) (Sum.inl (i : Int)) (.bool true) := by
  unfold markE
  rw [List.foldl_append]
  rfl
def addN (ns : List Nat) (i : Nat) : List Nat := if i ∈ ns then ns else ns ++ [i]
def once (ns : List Nat) : List Nat := ns.foldl addN []
theorem once_snoc (ns : List Nat) (i : Nat) : once (ns ++ [i]) = addN (once ns) i := by
  unfold once
  rw [List.foldl_append]
  rfl
theorem rev_ind {α : Type} {p : List α → Prop} (h0 : p []) (h1 : ∀ l x, p l → p (l ++ [x])) (l : List α) : p l := by
  have : ∀ l : List α, p l.reverse := by
    intro l
    induction l with
    | nil => exact h0
    | cons x l ih => rw [List.reverse_cons]; exact h1 _ _ ih
  have h := this l.reverse
  rw [List.reverse_reverse] at h
  exact h
theorem markE_once (ns : List Nat) : markE ns = (once ns).map fun (i : Nat) => ((Sum.inl (i : Int) : L2.Key), PyData.bool true) := by
  induction ns using rev_ind with
  | h0 => rfl
  | h1 l x ih =>
    rw [markE_snoc, once_snoc, ih]
    unfold putE addN
    by_cases c : x ∈ once l
    · have h1 : (((once l).map fun (i : Nat) => ((Sum.inl (i : Int) : L2.Key), PyData.bool true)).any fun p => decide (p.1 = Sum.inl (x : Int))) = true := by
        rw [List.any_eq_true]
        exact ⟨_, List.mem_map.mpr ⟨x, c, rfl⟩, decide_eq_true rfl⟩
      rw [if_pos h1, if_pos c, List.map_map]
      refine List.map_congr_left fun i _ => ?_
      show (if (Sum.inl (i : Int) : L2.Key) = Sum.inl (x : Int) then _ else _) = _
      split <;> rfl
    · have h1 : ¬ (((once l).map fun (i : Nat) => ((Sum.inl (i : Int) : L2.Key), PyData.bool true)).any fun p => decide (p.1 = Sum.inl (x : Int))) = true := by
        rw [List.any_eq_true]
        rintro ⟨p, hp, e⟩
        obtain ⟨i, hi, rfl⟩ := List.mem_map.mp hp
        have e := of_decide_eq_true e
        have e : (i : Int) = (x : Int) := Sum.inl.inj e
        have : i = x := by omega
        exact c (this ▸ hi)
      rw [if_neg h1, if_neg c, List.map_append]
      rfl
theorem once_mem (ns : List Nat) (i : Nat) : i ∈ once ns ↔ i ∈ ns := by
  induction ns using rev_ind with
  | h0 => exact Iff.rfl
  | h1 l x ih =>
    rw [once_snoc]
    unfold addN
    by_cases c : x ∈ once l
    · rw [if_pos c, ih, List.mem_append, List.mem_singleton]
      constructor
      · exact .inl
      · rintro (h | h)
        · exact h
        · subst h
          exact ih.mp c
    · rw [if_neg c, List.mem_append, List.mem_append, ih]
theorem once_nodup (ns : List Nat) : (once ns).Nodup := by
  induction ns using rev_ind with
  | h0 => exact List.nodup_nil
  | h1 l x ih =>
    rw [once_snoc]
    unfold addN
    by_cases c : x ∈ once l
    · rw [if_pos c]; exact ih
    · rw [if_neg c]
      refine List.nodup_append.mpr ⟨ih, by simp, fun a ha b hb => ?_⟩
      rw [List.mem_singleton.mp hb]
      exact fun e => c (e ▸ ha)
theorem nodup_lt : ∀ (n : Nat) (l : List Nat), l.Nodup → (∀ i ∈ l, i < n) → l.length ≤ n
  | 0, l, _, h => by
    cases l with
    | nil => exact Nat.le_refl _
    | cons x l => exact absurd (h x List.mem_cons_self) (Nat.not_lt_zero _)
  | n + 1, l, hd, h => by
    have h1 := nodup_lt n (l.erase n) (hd.erase n) (fun i hi => by
      have h2 := (hd.mem_erase_iff).mp hi
      have := h i h2.2
      omega)
    by_cases c : n ∈ l
    · rw [List.length_erase_of_mem c] at h1
      omega
    · rw [List.erase_of_not_mem c] at h1
      omega
theorem shownL_lt {r : Rel} {n i : Nat} (h : i ∈ shownL r n) : i < n := by
  unfold shownL at h
  obtain ⟨m, _, h⟩ := List.mem_flatMap.mp h
  obtain ⟨c, hc, e⟩ := List.mem_filterMap.mp h
  have e : c = some i := e
  subst e
  exact templ_lt hc
theorem once_len {ns : List Nat} {n : Nat} (h : ∀ i ∈ ns, i < n) : (once ns).length ≤ n := nodup_lt n _ (once_nodup ns) fun i hi => h i ((once_mem ns i).mp hi)
theorem markE_len {ns : List Nat} {n : Nat} (h : ∀ i ∈ ns, i < n) : (markE ns).length ≤ n := by
  rw [markE_once, List.length_map]
  exact once_len h
/-- what group_size gives -/
def grpN (r : Rel) (n l : Nat) : Nat := l ^ (n - (once (shownL r n)).length)
end MK

namespace MK
open PySem DL
/-! ## classes of letters -/
abbrev Nd := Nat × Nat
abbrev Par := List (Nd × Nd)
def nk (p : Nd) : List L2.Key := [Sum.inl (p.1 : Int), Sum.inl (p.2 : Int)]
def dNode (p : Nd) : PyData := .tuple [.int (p.1 : Nat), .int (p.2 : Nat)]
theorem dNode_nk (p : Nd) : dNode p = .tuple ((nk p).map kD) := rfl
theorem nk_inj {p q : Nd} (h : nk p = nk q) : p = q := by
  obtain ⟨a, b⟩ := p
  obtain ⟨c, d⟩ := q
  simp only [nk, List.cons.injEq, Sum.inl.injEq, and_true] at h
  have h1 : a = c := Int.ofNat_inj.mp h.1
  have h2 : b = d := Int.ofNat_inj.mp h.2
  rw [h1, h2]
def pE (ps : Par) : List (List L2.Key × PyData) := ps.map fun p => (nk p.1, dNode p.2)
def getP (ps : Par) (x : Nd) : Option Nd := (ps.find? fun p => decide (p.1 = x)).map (·.2)
theorem getP_cons (p : Nd × Nd) (ps : Par) (x : Nd) : getP (p :: ps) x = if p.1 = x then some p.2 else getP ps x := by
  by_cases c : p.1 = x
  · simp [getP, List.find?_cons, c]
  · simp [getP, List.find?_cons, c]
theorem getE_pE : ∀ (ps : Par) (x : Nd), getE (pE ps) (nk x) = (getP ps x).map dNode
  | [], _ => rfl
  | p :: ps, x => by
    rw [getP_cons]
    have ih := getE_pE ps x
    by_cases c : p.1 = x
    · rw [if_pos c]
      simp [pE, getE, List.find?_cons, c]
    · rw [if_neg c, ← ih]
      have c2 : ¬ nk p.1 = nk x := fun z => c (nk_inj z)
      simp [pE, getE, List.find?_cons, c2]
theorem putE_new {ps : Par} {x y : Nd} (h : getP ps x = none) : putE (pE ps) (nk x) (dNode y) = pE (ps ++ [(x, y)]) := by
  have h1 : ¬ ((pE ps).any fun p => decide (p.1 = nk x)) = true := by
    rw [List.any_eq_true]
    rintro ⟨q, hq, e⟩
    obtain ⟨p, hp, rfl⟩ := List.mem_map.mp hq
    have e := nk_inj (of_decide_eq_true e)
    unfold getP at h
    rw [Option.map_eq_none_iff, List.find?_eq_none] at h
    exact h p hp (decide_eq_true e)
  unfold putE
  rw [if_neg h1]
  unfold pE
  rw [List.map_append]
  rfl
def WfP (ps : Par) : Prop := ps.Pairwise (fun p q => q.1 ≠ p.1 ∧ q.2 ≠ p.1) ∧ ∀ p ∈ ps, p.1 ≠ p.2
def headN (ps : Par) (x : Nd) : Nd := ps.foldl (fun x p => if p.1 = x then p.2 else x) x
def muP (ps : Par) (x : Nd) : Nat := (ps.dropWhile fun p => decide (p.1 ≠ x)).length
theorem headN_cons (p : Nd × Nd) (ps : Par) (x : Nd) : headN (p :: ps) x = headN ps (if p.1 = x then p.2 else x) := rfl
theorem muP_cons (p : Nd × Nd) (ps : Par) (x : Nd) : muP (p :: ps) x = if p.1 = x then ps.length + 1 else muP ps x := by
  unfold muP
  by_cases c : p.1 = x
  · simp [List.dropWhile_cons, c]
  · simp [List.dropWhile_cons, c]
theorem muP_le (ps : Par) (x : Nd) : muP ps x ≤ ps.length := (List.dropWhile_sublist _).length_le
theorem getP_mem {ps : Par} {x y : Nd} (h : getP ps x = some y) : (x, y) ∈ ps := by
  unfold getP at h
  obtain ⟨p, hp, e⟩ := Option.map_eq_some_iff.mp h
  have h1 := List.mem_of_find?_eq_some hp
  have h2 := List.find?_some hp
  have h2 : p.1 = x := of_decide_eq_true h2
  subst e h2
  exact h1
theorem head_step : ∀ {ps : Par} {y z : Nd}, WfP ps → getP ps y = some z → headN ps z = headN ps y ∧ muP ps z < muP ps y
  | [], _, _, _, h => by cases h
  | p :: ps, y, z, w, h => by
    have wp := List.pairwise_cons.mp w.1
    have w2 : WfP ps := ⟨wp.2, fun q hq => w.2 q (List.mem_cons_of_mem _ hq)⟩
    have hne := w.2 p List.mem_cons_self
    rw [getP_cons] at h
    rw [headN_cons, headN_cons, muP_cons, muP_cons]
    by_cases c : p.1 = y
    · rw [if_pos c] at h
      cases h
      rw [if_neg hne, if_pos c, if_neg hne, if_pos c]
      exact ⟨rfl, Nat.lt_succ_of_le (muP_le ps _)⟩
    · rw [if_neg c] at h
      have hz : ¬ p.1 = z := fun e => (wp.1 _ (getP_mem h)).2 e.symm
      rw [if_neg hz, if_neg c, if_neg hz, if_neg c]
      exact head_step w2 h
theorem head_end : ∀ {ps : Par} {y : Nd}, getP ps y = none → headN ps y = y
  | [], _, _ => rfl
  | p :: ps, y, h => by
    rw [getP_cons] at h
    by_cases c : p.1 = y
    · rw [if_pos c] at h; cases h
    · rw [if_neg c] at h
      rw [headN_cons, if_neg c]
      exact head_end h
theorem head_root {ps : Par} (w : WfP ps) : ∀ (m : Nat) (x : Nd), muP ps x ≤ m → getP ps (headN ps x) = none
  | m, x, hm => by
    cases h : getP ps x with
    | none => rw [head_end h]; exact h
    | some y =>
      obtain ⟨h1, h2⟩ := head_step w h
      rw [← h1]
      match m, hm with
      | 0, hm => exact absurd h2 (by omega)
      | m + 1, hm => exact head_root w m y (by omega)
theorem headN_root {ps : Par} (w : WfP ps) (x : Nd) : getP ps (headN ps x) = none := head_root w _ x (Nat.le_refl _)
theorem wfP_snoc {ps : Par} {x y : Nd} (w : WfP ps) (hx : getP ps x = none) (hy : getP ps y = none) (hxy : x ≠ y) : WfP (ps ++ [(x, y)]) := by
  have key : ∀ {z : Nd}, getP ps z = none → ∀ p ∈ ps, z ≠ p.1 := fun {z} h p hp e => by
    unfold getP at h
    rw [Option.map_eq_none_iff, List.find?_eq_none] at h
    exact h p hp (decide_eq_true e.symm)
  refine ⟨List.pairwise_append.mpr ⟨w.1, by simp, fun p hp q hq => ?_⟩, fun p hp => ?_⟩
  · rw [List.mem_singleton.mp hq]
    exact ⟨key hx p hp, key hy p hp⟩
  · rcases List.mem_append.mp hp with h | h
    · exact w.2 p h
    · rw [List.mem_singleton.mp h]; exact hxy
theorem headN_snoc (ps : Par) (x y z : Nd) : headN (ps ++ [(x, y)]) z = if x = headN ps z then y else headN ps z := by
  unfold headN
  rw [List.foldl_append]
  rfl
def dRows (rs : List (List (Option Nat))) : List PyData := rs.map fun r => .tuple (dRow r)
def simR (rs os : List (List (Option Nat))) : Bool := (rs.zip os).all fun p => simB p.1 p.2
def joinP (ps : Par) : Option Nat × Option Nat → Par
  | (some i, some j) => if headN ps (0, i) = headN ps (1, j) then ps else ps ++ [(headN ps (0, i), headN ps (1, j))]
  | _ => ps
def joinR (ps : Par) (p : List (Option Nat) × List (Option Nat)) : Par := (p.1.zip p.2).foldl joinP ps
def eqP (rs os : List (List (Option Nat))) : Par := (rs.zip os).foldl joinR []
theorem joinP_wf {ps : Par} (w : WfP ps) (p : Option Nat × Option Nat) : WfP (joinP ps p) := by
  obtain ⟨a, b⟩ := p
  cases a with
  | none => exact w
  | some i =>
    cases b with
    | none => exact w
    | some j =>
      show WfP (if _ then _ else _)
      split
      · exact w
      · rename_i c
        exact wfP_snoc w (headN_root w _) (headN_root w _) c
theorem joinP_len (ps : Par) (p : Option Nat × Option Nat) : (joinP ps p).length ≤ ps.length + 1 := by
  obtain ⟨a, b⟩ := p
  cases a with
  | none => exact Nat.le_succ _
  | some i =>
    cases b with
    | none => exact Nat.le_succ _
    | some j =>
      show (if _ then _ else _ : Par).length ≤ _
      split
      · exact Nat.le_succ _
      · simp
theorem eqv_node (p q : Nd) : PyData.eqv (dNode p) (dNode q) = decide (p = q) := by
  obtain ⟨a, b⟩ := p
  obtain ⟨c, d⟩ := q
  simp only [dNode, PyData.eqv, PyData.eqvAll]
  rw [Bool.eq_iff_iff]
  simp
  exact ⟨fun h => ⟨Int.ofNat_inj.mp h.1, Int.ofNat_inj.mp h.2⟩, fun h => ⟨by rw [h.1], by rw [h.2]⟩⟩
theorem dNode_okD (p : Nd) : okD (dNode p) = true := okD_of (n := 1) (okN_tup fun d hd => by
  simp at hd
  rcases hd with rfl | rfl <;> rfl) (by decide)
theorem sim_at {a b : List (Option Nat)} {i : Nat} {x y : Option Nat} (h : simB a b = true) (hx : a[i]? = some x) (hy : b[i]? = some y) : isN x = isN y := by
  have h := of_decide_eq_true h
  have e := congrArg (fun l : List Bool => l[i]?) h
  simp only [List.getElem?_map, hx, hy, Option.map_some, Option.some.injEq] at e
  exact e
def dCh : Option Nd → PyData
  | none => .none
  | some p => dNode p
def colL (ps : Par) (side n : Nat) (ch : Option Nd) : List Nat := (List.range n).map fun i => if some (headN ps (side, i)) = ch then 98 else 97
theorem dCh_okD (c : Option Nd) : okD (dCh c) = true := by
  cases c with
  | none => exact okD_of (n := 0) rfl (by decide)
  | some p => exact dNode_okD p
theorem eqv_ch (p : Nd) (c : Option Nd) : PyData.eqv (dNode p) (dCh c) = decide (some p = c) := by
  cases c with
  | none =>
    rw [decide_eq_false (by simp)]
    simp [dNode, dCh, PyData.eqv]
  | some q =>
    rw [show dCh (some q) = dNode q from rfl, eqv_node, Bool.eq_iff_iff]
    simp
def badP (ps : Par) : List (Option Nat × Option Nat) → Option Nd
  | [] => none
  | (some i, some j) :: r => if headN ps (0, i) = headN ps (1, j) then badP ps r else some (headN ps (0, i))
  | _ :: r => badP ps r
def partD (ps : Par) (a b : List (Option Nat)) (n m : Nat) : Option (List Nat × List Nat) :=
  if simB a b = true then (badP ps (a.zip b)).map fun c => (colL ps 0 n (some c), colL ps 1 m (some c)) else some (colL ps 0 n none, colL ps 1 m none)
def dPair : Option (List Nat × List Nat) → PyData
  | none => .none
  | some p => .tuple [.str (mkS p.1), .str (mkS p.2)]
theorem zipD_map {α γ : Type} (f : α → PyData) (g : γ → PyData) : ∀ (xs : List α) (ys : List γ), zipD (xs.map f) (ys.map g) = (xs.zip ys).map fun p => .tuple [f p.1, g p.2]
  | [], _ => by simp [zipD]
  | _ :: _, [] => by simp [zipD]
  | x :: xs, y :: ys => by
    have ih := zipD_map f g xs ys
    unfold zipD at ih ⊢
    rw [List.map_cons, List.map_cons, List.zipWith_cons_cons, ih]
    rfl
theorem zip_len {α γ : Type} (xs : List α) (ys : List γ) : (xs.zip ys).length ≤ xs.length := by rw [List.length_zip]; exact Nat.min_le_left _ _
/-! ## the smallest counterexample -/
def tmpR (r : Rel) (n : Nat) : List (List (Option Nat)) := r.map fun m => templ m n
/-- what the program finds at a pair of lengths -/
def tryNM (r : Rel) (g : Mask) (n m : Nat) : Option (List Nat × List Nat) :=
  if simR (tmpR r n) (tmpR r m) = true then partD (eqP (tmpR r n) (tmpR r m)) (templ g n) (templ g m) n m else none
/-- the pairs of lengths, in the program's order -/
def pairsT (most t : Nat) : List (Nat × Nat) := (List.range (t / 2 + 1 - (t - most))).map fun i => (t - most + i, t - (t - most + i))
def scexT (r : Rel) (g : Mask) (most t : Nat) : Option (List Nat × List Nat) := (pairsT most t).findSome? fun p => tryNM r g p.1 p.2
def scex (r : Rel) (g : Mask) : Option (List Nat × List Nat) := (List.range (2 * (bnd (r ++ [g]) + 1) + 1)).findSome? (scexT r g (bnd (r ++ [g]) + 1))
end MK

namespace MK
open PySem DL
/-! ## confused strings -/
theorem cells_eq {φ ψ : Nat → Nat} (hφ : ∀ i, φ i ≠ 42) (hψ : ∀ i, ψ i ≠ 42) : ∀ (a b : List (Option Nat)), a.map (cell φ) = b.map (cell ψ) ↔ simB a b = true ∧ ∀ i j, (some i, some j) ∈ a.zip b → φ i = ψ j
  | [], [] => by simp [simB]
  | [], _ :: _ => by simp [simB]
  | _ :: _, [] => by simp [simB]
  | x :: a, y :: b => by
    have ih := cells_eq hφ hψ a b
    unfold simB at ih ⊢
    rw [List.map_cons, List.map_cons, List.map_cons, List.map_cons, List.cons.injEq, ih, List.zip_cons_cons]
    simp only [decide_eq_true_eq, List.cons.injEq, List.mem_cons, Prod.mk.injEq]
    cases x with
    | none =>
      cases y with
      | none => simp [cell, isN]
      | some j => simp [cell, isN, (hψ j).symm]
    | some i =>
      cases y with
      | none => simp [cell, isN, hφ i]
      | some j =>
        simp only [cell, isN, Option.some.injEq]
        constructor
        · rintro ⟨h1, h2, h3⟩
          refine ⟨⟨trivial, h2⟩, fun k l h => ?_⟩
          rcases h with ⟨rfl, rfl⟩ | h
          · exact h1
          · exact h3 k l h
        · rintro ⟨⟨_, h2⟩, h3⟩
          exact ⟨h3 i j (.inl ⟨rfl, rfl⟩), h2, fun k l h => h3 k l (.inr h)⟩
def conf (r : Rel) (s t : List Nat) : Prop := ∀ f ∈ r, runT f s = runT f t
def val (s t : List Nat) : Nd → Nat
  | (0, i) => s.getD i 97
  | (_ + 1, i) => t.getD i 97
theorem okT_42 {l : List Nat} (h : okT l) (i : Nat) : l.getD i 97 ≠ 42 := by
  rw [List.getD_eq_getElem?_getD]
  cases c : l[i]? with
  | none => decide
  | some x =>
    have := h x (List.mem_of_getElem? c)
    show x ≠ 42
    omega
theorem runs_eq {f : Mask} {s t : List Nat} (hs : okT s) (ht : okT t) : runT f s = runT f t ↔ simB (templ f s.length) (templ f t.length) = true ∧ ∀ i j, (some i, some j) ∈ (templ f s.length).zip (templ f t.length) → val s t (0, i) = val s t (1, j) := by
  rw [run_text hs, run_text ht]
  exact cells_eq (okT_42 hs) (okT_42 ht) _ _
theorem joinP_val {v : Nd → Nat} {ps : Par} {c : Option Nat × Option Nat} (h : ∀ p, v (headN ps p) = v p) (hc : ∀ i j, c = (some i, some j) → v (0, i) = v (1, j)) : ∀ p, v (headN (joinP ps c) p) = v p := by
  obtain ⟨a, b⟩ := c
  intro p
  cases a with
  | none => exact h p
  | some i =>
    cases b with
    | none => exact h p
    | some j =>
      show v (headN (if _ then _ else _) p) = _
      split
      · exact h p
      · rw [headN_snoc]
        split
        · rename_i e
          rw [h, ← hc i j rfl, ← h (0, i), e, h]
        · exact h p
theorem fold_val {v : Nd → Nat} : ∀ (xs : List (Option Nat × Option Nat)) (ps : Par), (∀ p, v (headN ps p) = v p) → (∀ i j, (some i, some j) ∈ xs → v (0, i) = v (1, j)) → ∀ p, v (headN (xs.foldl joinP ps) p) = v p
  | [], ps, h, _ => h
  | x :: xs, ps, h, hx => fold_val xs _ (joinP_val h fun i j e => hx i j (by rw [e]; exact List.mem_cons_self)) fun i j hm => hx i j (List.mem_cons_of_mem _ hm)
theorem foldR_val {v : Nd → Nat} : ∀ (xs : List (List (Option Nat) × List (Option Nat))) (ps : Par), (∀ p, v (headN ps p) = v p) → (∀ x ∈ xs, ∀ i j, (some i, some j) ∈ x.1.zip x.2 → v (0, i) = v (1, j)) → ∀ p, v (headN (xs.foldl joinR ps) p) = v p
  | [], ps, h, _ => h
  | x :: xs, ps, h, hx => foldR_val xs _ (fold_val _ ps h (hx x List.mem_cons_self)) fun y hy => hx y (List.mem_cons_of_mem _ hy)
theorem joinP_keep {ps : Par} {c : Option Nat × Option Nat} {p q : Nd} (h : headN ps p = headN ps q) : headN (joinP ps c) p = headN (joinP ps c) q := by
  obtain ⟨a, b⟩ := c
  cases a with
  | none => exact h
  | some i =>
    cases b with
    | none => exact h
    | some j =>
      show headN (if _ then _ else _) p = headN (if _ then _ else _) q
      split
      · exact h
      · rw [headN_snoc, headN_snoc, h]
theorem fold_keep {p q : Nd} : ∀ (xs : List (Option Nat × Option Nat)) (ps : Par), headN ps p = headN ps q → headN (xs.foldl joinP ps) p = headN (xs.foldl joinP ps) q
  | [], _, h => h
  | x :: xs, ps, h => fold_keep xs _ (joinP_keep h)
theorem foldR_keep {p q : Nd} : ∀ (xs : List (List (Option Nat) × List (Option Nat))) (ps : Par), headN ps p = headN ps q → headN (xs.foldl joinR ps) p = headN (xs.foldl joinR ps) q
  | [], _, h => h
  | x :: xs, ps, h => foldR_keep xs _ (fold_keep _ ps h)
theorem joinP_at {ps : Par} (w : WfP ps) {i j : Nat} : headN (joinP ps (some i, some j)) (0, i) = headN (joinP ps (some i, some j)) (1, j) := by
  show headN (if _ then _ else _) _ = headN (if _ then _ else _) _
  split
  · assumption
  · rename_i c
    rw [headN_snoc, headN_snoc, if_pos rfl]
    split
    · rfl
    · rfl
theorem fold_at {i j : Nat} : ∀ (xs : List (Option Nat × Option Nat)) (ps : Par), WfP ps → (some i, some j) ∈ xs → headN (xs.foldl joinP ps) (0, i) = headN (xs.foldl joinP ps) (1, j)
  | x :: xs, ps, w, h => by
    rcases List.mem_cons.mp h with e | e
    · subst e
      exact fold_keep xs _ (joinP_at w)
    · exact fold_at xs _ (joinP_wf w x) e
theorem fold_wf : ∀ (xs : List (Option Nat × Option Nat)) (ps : Par), WfP ps → WfP (xs.foldl joinP ps)
  | [], _, w => w
  | x :: xs, ps, w => fold_wf xs _ (joinP_wf w x)
theorem foldR_at {i j : Nat} : ∀ (xs : List (List (Option Nat) × List (Option Nat))) (ps : Par), WfP ps → ∀ x ∈ xs, (some i, some j) ∈ x.1.zip x.2 → headN (xs.foldl joinR ps) (0, i) = headN (xs.foldl joinR ps) (1, j)
  | y :: xs, ps, w, x, hx, h => by
    rcases List.mem_cons.mp hx with e | e
    · subst e
      exact foldR_keep xs _ (fold_at _ ps w h)
    · exact foldR_at xs _ (fold_wf _ ps w) x e h
theorem zip_tmp (r : Rel) (n m : Nat) : (tmpR r n).zip (tmpR r m) = r.map fun f => (templ f n, templ f m) := by
  unfold tmpR
  induction r with
  | nil => rfl
  | cons f r ih => rw [List.map_cons, List.map_cons, List.zip_cons_cons, ih, List.map_cons]
theorem simR_tmp {r : Rel} {n m : Nat} : simR (tmpR r n) (tmpR r m) = true ↔ ∀ f ∈ r, simB (templ f n) (templ f m) = true := by
  unfold simR
  rw [zip_tmp, List.all_eq_true]
  constructor
  · intro h f hf
    exact h _ (List.mem_map.mpr ⟨f, hf, rfl⟩)
  · intro h p hp
    obtain ⟨f, hf, rfl⟩ := List.mem_map.mp hp
    exact h f hf
theorem badP_some {ps : Par} : ∀ {xs : List (Option Nat × Option Nat)} {c : Nd}, badP ps xs = some c → ∃ i j, (some i, some j) ∈ xs ∧ headN ps (0, i) ≠ headN ps (1, j) ∧ c = headN ps (0, i)
  | [], _, h => by cases h
  | (none, _) :: xs, c, h => by
    obtain ⟨i, j, h1, h2⟩ := badP_some (xs := xs) (by simpa [badP] using h)
    exact ⟨i, j, List.mem_cons_of_mem _ h1, h2⟩
  | (some _, none) :: xs, c, h => by
    obtain ⟨i, j, h1, h2⟩ := badP_some (xs := xs) (by simpa [badP] using h)
    exact ⟨i, j, List.mem_cons_of_mem _ h1, h2⟩
  | (some i, some j) :: xs, c, h => by
    rw [badP] at h
    split at h
    · obtain ⟨i, j, h1, h2⟩ := badP_some h
      exact ⟨i, j, List.mem_cons_of_mem _ h1, h2⟩
    · rename_i hc
      cases h
      exact ⟨i, j, List.mem_cons_self, hc, rfl⟩
theorem badP_no {ps : Par} : ∀ {xs : List (Option Nat × Option Nat)}, badP ps xs = none → ∀ i j, (some i, some j) ∈ xs → headN ps (0, i) = headN ps (1, j)
  | x :: xs, h, i, j, hm => by
    obtain ⟨a, b⟩ := x
    rcases List.mem_cons.mp hm with e | e
    · cases e
      rw [badP] at h
      split at h
      · assumption
      · cases h
    · refine badP_no (xs := xs) ?_ i j e
      cases a with
      | none => simpa [badP] using h
      | some a =>
        cases b with
        | none => simpa [badP] using h
        | some b =>
          rw [badP] at h
          split at h
          · exact h
          · cases h
/-- at these lengths nothing is missed -/
theorem try_none {r : Rel} {g : Mask} {s t : List Nat} (hs : okT s) (ht : okT t) (h : tryNM r g s.length t.length = none) (hc : conf r s t) : runT g s = runT g t := by
  have hsim : simR (tmpR r s.length) (tmpR r t.length) = true := simR_tmp.mpr fun f hf => ((runs_eq hs ht).mp (hc f hf)).1
  unfold tryNM at h
  rw [if_pos hsim] at h
  unfold partD at h
  have hv : ∀ p, val s t (headN (eqP (tmpR r s.length) (tmpR r t.length)) p) = val s t p := by
    unfold eqP
    refine foldR_val _ [] (fun _ => rfl) fun x hx i j hm => ?_
    rw [zip_tmp] at hx
    obtain ⟨f, hf, rfl⟩ := List.mem_map.mp hx
    exact ((runs_eq hs ht).mp (hc f hf)).2 i j hm
  cases hS : simB (templ g s.length) (templ g t.length) with
  | false => rw [hS] at h; cases h
  | true =>
    rw [hS, if_pos rfl, Option.map_eq_none_iff] at h
    refine (runs_eq hs ht).mpr ⟨hS, fun i j hm => ?_⟩
    rw [← hv (0, i), badP_no h i j hm, hv]
theorem colL_val {ps : Par} {n m : Nat} {ch : Option Nd} {i : Nat} (hi : i < n) : val (colL ps 0 n ch) (colL ps 1 m ch) (0, i) = if some (headN ps (0, i)) = ch then 98 else 97 := by
  show (colL ps 0 n ch).getD i 97 = _
  unfold colL
  rw [List.getD_eq_getElem?_getD, List.getElem?_map, List.getElem?_range hi]
  rfl
theorem colL_val1 {ps : Par} {n m : Nat} {ch : Option Nd} {i : Nat} (hi : i < m) : val (colL ps 0 n ch) (colL ps 1 m ch) (1, i) = if some (headN ps (1, i)) = ch then 98 else 97 := by
  show (colL ps 1 m ch).getD i 97 = _
  unfold colL
  rw [List.getD_eq_getElem?_getD, List.getElem?_map, List.getElem?_range hi]
  rfl
theorem colL_size (ps : Par) (k n : Nat) (ch : Option Nd) : (colL ps k n ch).length = n := by simp [colL]
theorem colL_ab (ps : Par) (k n : Nat) (ch : Option Nd) : ∀ c ∈ colL ps k n ch, c = 97 ∨ c = 98 := fun c hc => by
  unfold colL at hc
  obtain ⟨i, _, rfl⟩ := List.mem_map.mp hc
  split
  · exact .inr rfl
  · exact .inl rfl
theorem ab_okT {l : List Nat} (h : ∀ c ∈ l, c = 97 ∨ c = 98) : okT l := fun c hc => by
  have := h c hc
  omega
theorem zip_lt {f : Mask} {n m i j : Nat} (h : (some i, some j) ∈ (templ f n).zip (templ f m)) : i < n ∧ j < m := ⟨templ_lt (List.of_mem_zip h).1, templ_lt (List.of_mem_zip h).2⟩
/-- what is found is a counterexample -/
theorem try_some {r : Rel} {g : Mask} {n m : Nat} {s t : List Nat} (h : tryNM r g n m = some (s, t)) : (s.length = n ∧ t.length = m) ∧ (∀ c ∈ s, c = 97 ∨ c = 98) ∧ (∀ c ∈ t, c = 97 ∨ c = 98) ∧ conf r s t ∧ runT g s ≠ runT g t := by
  unfold tryNM at h
  cases hsim : simR (tmpR r n) (tmpR r m) with
  | false => rw [hsim] at h; cases h
  | true =>
    rw [hsim, if_pos rfl] at h
    obtain ⟨ps, hps⟩ : ∃ ps, ps = eqP (tmpR r n) (tmpR r m) := ⟨_, rfl⟩
    rw [← hps] at h
    obtain ⟨ch, e1, hch⟩ : ∃ ch, (s, t) = (colL ps 0 n ch, colL ps 1 m ch) ∧ (simB (templ g n) (templ g m) = true → ∃ i j, (some i, some j) ∈ (templ g n).zip (templ g m) ∧ headN ps (0, i) ≠ headN ps (1, j) ∧ ch = some (headN ps (0, i))) := by
      unfold partD at h
      cases hS : simB (templ g n) (templ g m) with
      | false =>
        rw [hS] at h
        exact ⟨none, (Option.some.inj h).symm, fun z => by cases z⟩
      | true =>
        rw [hS, if_pos rfl] at h
        obtain ⟨c, hc, e⟩ := Option.map_eq_some_iff.mp h
        obtain ⟨i, j, h1, h2, h3⟩ := badP_some hc
        exact ⟨some c, e.symm, fun _ => ⟨i, j, h1, h2, by rw [h3]⟩⟩
    cases e1
    have hS0 := colL_ab ps 0 n ch
    have hT0 := colL_ab ps 1 m ch
    refine ⟨⟨colL_size _ _ _ _, colL_size _ _ _ _⟩, hS0, hT0, fun f hf => ?_, fun e => ?_⟩
    · refine (runs_eq (ab_okT hS0) (ab_okT hT0)).mpr ?_
      rw [colL_size, colL_size]
      refine ⟨simR_tmp.mp hsim f hf, fun i j hm => ?_⟩
      obtain ⟨hi, hj⟩ := zip_lt hm
      rw [colL_val hi, colL_val1 hj]
      have e : headN ps (0, i) = headN ps (1, j) := by
        rw [hps]
        unfold eqP
        refine foldR_at _ [] ⟨.nil, fun p hp => by cases hp⟩ (templ f n, templ f m) ?_ hm
        rw [zip_tmp]
        exact List.mem_map.mpr ⟨f, hf, rfl⟩
      rw [e]
    · have e := (runs_eq (ab_okT hS0) (ab_okT hT0)).mp e
      rw [colL_size, colL_size] at e
      obtain ⟨i, j, h1, h2, h3⟩ := hch e.1
      obtain ⟨hi, hj⟩ := zip_lt h1
      have e2 := e.2 i j h1
      rw [colL_val hi, colL_val1 hj, h3, if_pos rfl, if_neg fun z => h2 (Option.some.inj z).symm] at e2
      cases e2
end MK

namespace MK
open PySem DL
/-! ## shapes read through letters -/
section
variable {β γ : Type} {star : β} {isS : β → Bool} {star' : γ} {isS' : γ → Bool}
def Sh.map (φ : β → γ) : Sh β → Sh γ
  | .one r p u v q => .one r (p.map φ) (u.map φ) (v.map φ) (q.map φ)
  | .two p e q => .two (p.map φ) e (q.map φ)
  | .thr c => .thr (c.map φ)
theorem Sh.map_flip (φ : β → γ) (X : Sh β) : X.flip.map φ = (X.map φ).flip := by
  cases X <;> simp [Sh.flip, Sh.map, List.map_reverse]
variable {φ : β → γ} (h1 : φ star = star') (h2 : ∀ x, isS' (φ x) = isS x)
include h1 h2
theorem nxtF_map (n : Nm) (k : Nat) (X : Sh β) : (nxtF star isS n k X).map φ = nxtF star' isS' n k (X.map φ) := by
  cases X with
  | thr c => cases n <;> (show Sh.thr _ = Sh.thr _; rw [stepG_map h1 h2])
  | one r p u v q =>
    cases n <;> simp only [nxtF, Sh.map, List.map_append, List.map_take, List.map_drop, List.map_nil, List.length_map, List.map_replicate, h1, sqG_map h1 h2]
  | two p e q =>
    cases n <;> simp only [nxtF, Sh.map, List.map_append, List.map_take, List.map_drop, List.map_nil, List.length_map, List.map_replicate, h1, sqG_map h1 h2]
theorem nxt_map (s : Stp) (X : Sh β) : (nxt star isS s X).map φ = nxt star' isS' s (X.map φ) := by
  cases s with
  | rev => exact Sh.map_flip φ X
  | cnt n k =>
    cases n <;> simp only [nxt, Sh.map_flip, nxtF_map h1 h2]
theorem nxts_map : ∀ (m : Mask) (X : Sh β), (nxts star isS m X).map φ = nxts star' isS' m (X.map φ)
  | [], X => rfl
  | s :: m, X => by
    show (nxts star isS m (nxt star isS s X)).map φ = nxts star' isS' m (nxt star' isS' s (X.map φ))
    rw [nxts_map m, nxt_map h1 h2]
end
end MK

namespace MK
open PySem DL
/-! ## how long an output is at most -/
section
variable {β : Type} {star : β} {isS : β → Bool}
def Sh.off : Sh β → Nat
  | .one _ p u v q => p.length + u.length + v.length + q.length
  | .two p e q => p.length + e + q.length
  | .thr _ => 0
def LetS (star : β) (isS : β → Bool) (p q ρ : List β) : Prop := ∃ w, free isS w ∧ w ≠ [] ∧ ρ = p ++ (w ++ q)
def LenI (star : β) (isS : β → Bool) (D n σ : Nat) (ρ : List β) : Sh β → Prop
  | .one r p u v q => p = rep star p.length ∧ q = rep star q.length ∧ D ≤ u.length + v.length + σ ∧
      ((LetS star isS p q ρ ∧ ρ.length + D = n + (p.length + u.length + v.length + q.length)) ∨ (ρ = rep star ρ.length ∧ ρ.length + D ≤ max n σ + (p.length + u.length + v.length + q.length)))
  | .two p e q => ρ.length + D ≤ max n σ + (p.length + e + q.length) ∧ D ≤ σ + (p.length + e + q.length)
  | .thr _ => True
theorem rep_rev {l : List β} (h : l = rep star l.length) : l.reverse = rep star l.reverse.length := by
  rw [h]
  simp
theorem LenI.flip {D n σ : Nat} {ρ : List β} {X : Sh β} (h : LenI star isS D n σ ρ X) : LenI star isS D n σ ρ.reverse X.flip := by
  cases X with
  | thr c => trivial
  | two p e q =>
    obtain ⟨a, b⟩ := h
    refine ⟨?_, ?_⟩
    · simp only [List.length_reverse]; omega
    · simp only [List.length_reverse]; omega
  | one r p u v q =>
    obtain ⟨a, b, c, d⟩ := h
    refine ⟨rep_rev b, rep_rev a, by simp only [List.length_reverse]; omega, ?_⟩
    rcases d with ⟨⟨w, w1, w2, w3⟩, d⟩ | ⟨d1, d2⟩
    · refine .inl ⟨⟨w.reverse, free_rev w1, by simpa using w2, by rw [w3]; simp⟩, ?_⟩
      simp only [List.length_reverse]; omega
    · refine .inr ⟨rep_rev d1, ?_⟩
      simp only [List.length_reverse]; omega
theorem rep_take (n k : Nat) : (rep star n).take k = rep star (min k n) := List.take_replicate
theorem rep_drop (n k : Nat) : (rep star n).drop k = rep star (n - k) := List.drop_replicate
theorem rep_app (a b : Nat) : rep star a ++ rep star b = rep star (a + b) := List.replicate_append_replicate
theorem rep_len (n : Nat) : (rep star n).length = n := List.length_replicate
theorem sq_rep (hs : isS star = true) (k : Nat) : ∀ n, sqG star isS k false (rep star n) = rep star (if n = 0 then 0 else k)
  | 0 => rfl
  | n + 1 => by
    have := sq_run hs k n [] false
    rw [List.append_nil] at this
    rw [this]
    simp [sqG]
theorem step_len_kf (k : Nat) (ρ : List β) : (stepG star isS (.cnt .kf k) ρ).length = ρ.length := by
  simp [stepG]
  omega
theorem step_len_hf (k : Nat) (ρ : List β) : (stepG star isS (.cnt .hf k) ρ).length = ρ.length := by
  simp [stepG]
  omega
theorem step_len_cf (k : Nat) (ρ : List β) : (stepG star isS (.cnt .cf k) ρ).length = ρ.length - k := by
  simp [stepG]
theorem step_len_sh (k : Nat) (ρ : List β) : (stepG star isS (.cnt .sh k) ρ).length = ρ.length := by
  simp only [stepG]
  split <;> simp
theorem free_dr {w : List β} (h : free isS w) (k : Nat) : free isS (w.drop k) := fun x hx => h x (List.mem_of_mem_drop hx)
theorem ne_drop {w : List β} {k : Nat} (h : k < w.length) : w.drop k ≠ [] := fun e => by
  have := congrArg List.length e
  simp at this
  omega
theorem len_kf {D n σ k a b : Nat} {ρ : List β} {X : Sh β} (ok : X.ok isS (a + k, b)) (h : LenI star isS D n σ ρ X) : LenI star isS D n (σ + k) (stepG star isS (.cnt .kf k) ρ) (nxtF star isS .kf k X) := by
  cases X with
  | thr c => trivial
  | two p e q =>
    obtain ⟨h1, h2⟩ := h
    refine ⟨?_, ?_⟩
    · rw [step_len_kf, List.length_take, List.length_nil]; omega
    · rw [List.length_take, List.length_nil]; omega
  | one r p u v q =>
    obtain ⟨h1, h2, h3, h4⟩ := h
    have ok3 : a + k ≤ u.length := ok.2.2.1
    refine ⟨?_, ?_⟩
    · rw [step_len_kf, List.length_take, List.length_nil, List.length_append]
      rcases h4 with ⟨_, h4⟩ | ⟨_, h4⟩ <;> omega
    · rw [List.length_take, List.length_nil, List.length_append]; omega
theorem len_hf {D n σ k a b : Nat} {ρ : List β} {X : Sh β} (ok : X.ok isS (a + k, b)) (h : LenI star isS D n σ ρ X) : LenI star isS D n (σ + k) (stepG star isS (.cnt .hf k) ρ) (nxtF star isS .hf k X) := by
  cases X with
  | thr c => trivial
  | two p e q =>
    obtain ⟨h1, h2⟩ := h
    refine ⟨?_, ?_⟩
    · rw [step_len_hf, List.length_append, List.length_drop, rep_len]; omega
    · rw [List.length_append, List.length_drop, rep_len]; omega
  | one r p u v q =>
    obtain ⟨h1, h2, h3, h4⟩ := h
    have ok3 : a + k ≤ u.length := ok.2.2.1
    refine ⟨?_, h2, by rw [List.length_drop]; omega, ?_⟩
    · rw [h1, rep_drop, rep_app, rep_len]
    · rw [step_len_hf, List.length_append, List.length_drop, List.length_drop, rep_len]
      rcases h4 with ⟨⟨w, w1, w2, w3⟩, h4⟩ | ⟨h4, h5⟩
      · by_cases c : k < p.length + w.length
        · refine .inl ⟨⟨w.drop (k - p.length), free_dr w1 _, ne_drop (by have := pos_len w2; omega), ?_⟩, by omega⟩
          subst w3
          show rep star (min k (p ++ (w ++ q)).length) ++ (p ++ (w ++ q)).drop k = _
          rw [List.drop_append, List.drop_append_of_le_length (l₁ := w) (by omega), show min k (p ++ (w ++ q)).length = k from by simp only [List.length_append]; omega]
          simp [List.append_assoc]
        · refine .inr ⟨?_, by omega⟩
          have e : stepG star isS (.cnt .hf k) ρ = rep star (min k ρ.length) ++ rep star (q.length - (k - p.length - w.length)) := by
            subst w3
            show rep star (min k (p ++ (w ++ q)).length) ++ (p ++ (w ++ q)).drop k = _
            rw [List.drop_append, List.drop_append, List.drop_eq_nil_of_le (as := p) (by omega), List.drop_eq_nil_of_le (as := w) (by omega), List.nil_append, List.nil_append]
            congr 1
            conv => lhs; rw [h2]
            rw [rep_drop]
          rw [← step_len_hf (star := star) (isS := isS) k ρ, e, rep_app, rep_len]
      · refine .inr ⟨?_, by omega⟩
        rw [← step_len_hf (star := star) (isS := isS) k ρ]
        have e : stepG star isS (.cnt .hf k) ρ = rep star (min k ρ.length) ++ rep star (ρ.length - k) := by
          show rep star (min k ρ.length) ++ ρ.drop k = _
          congr 1
          conv => lhs; rw [h4]
          rw [rep_drop]
        rw [e, rep_app, rep_len]
theorem len_cf {D n σ k a b : Nat} {ρ : List β} {X : Sh β} (ok : X.ok isS (a + k, b)) (h : LenI star isS D n σ ρ X) : LenI star isS D n (σ + k) (stepG star isS (.cnt .cf k) ρ) (nxtF star isS .cf k X) := by
  cases X with
  | thr c => trivial
  | two p e q =>
    obtain ⟨h1, h2⟩ := h
    have ok3 : a + k + b ≤ e := ok
    refine ⟨?_, ?_⟩
    · rw [step_len_cf, List.length_drop]; omega
    · rw [List.length_drop]; omega
  | one r p u v q =>
    obtain ⟨h1, h2, h3, h4⟩ := h
    have ok3 : a + k ≤ u.length := ok.2.2.1
    refine ⟨?_, h2, by rw [List.length_drop]; omega, ?_⟩
    · rw [List.length_drop]
      conv => lhs; rw [h1]
      rw [rep_drop]
    · rw [step_len_cf, List.length_drop, List.length_drop]
      rcases h4 with ⟨⟨w, w1, w2, w3⟩, h4⟩ | ⟨h4, h5⟩
      · have hl : ρ.length = p.length + (w.length + q.length) := by rw [w3, List.length_append, List.length_append]
        by_cases c : k < p.length + w.length
        · refine .inl ⟨⟨w.drop (k - p.length), free_dr w1 _, ne_drop (by have := pos_len w2; omega), ?_⟩, by omega⟩
          subst w3
          show (p ++ (w ++ q)).drop k = _
          rw [List.drop_append, List.drop_append_of_le_length (l₁ := w) (by omega)]
        · refine .inr ⟨?_, by omega⟩
          have e : stepG star isS (.cnt .cf k) ρ = rep star (q.length - (k - p.length - w.length)) := by
            subst w3
            show (p ++ (w ++ q)).drop k = _
            rw [List.drop_append, List.drop_append, List.drop_eq_nil_of_le (as := p) (by omega), List.drop_eq_nil_of_le (as := w) (by omega), List.nil_append, List.nil_append]
            conv => lhs; rw [h2]
            rw [rep_drop]
          rw [← step_len_cf (star := star) (isS := isS) k ρ, e, rep_len]
      · refine .inr ⟨?_, by omega⟩
        rw [← step_len_cf (star := star) (isS := isS) k ρ]
        have e : stepG star isS (.cnt .cf k) ρ = rep star (ρ.length - k) := by
          show ρ.drop k = _
          conv => lhs; rw [h4]
          rw [rep_drop]
        rw [e, rep_len]
theorem len_sh {D n σ k : Nat} {ρ : List β} {X : Sh β} (h : LenI star isS D n σ ρ X) : LenI star isS D n (σ + k) (stepG star isS (.cnt .sh k) ρ) (nxtF star isS .sh k X) := by
  cases X with
  | thr c => trivial
  | two p e q =>
    obtain ⟨h1, h2⟩ := h
    exact ⟨by rw [step_len_sh]; omega, by omega⟩
  | one r p u v q =>
    obtain ⟨h1, h2, h3, h4⟩ := h
    refine ⟨h1, h2, by omega, ?_⟩
    rw [step_len_sh]
    by_cases c : ρ.length < k
    · have e : stepG star isS (.cnt .sh k) ρ = rep star ρ.length := if_pos c
      rw [e]
      refine .inr ⟨rfl, ?_⟩
      rcases h4 with ⟨_, h4⟩ | ⟨_, h4⟩ <;> omega
    · have e : stepG star isS (.cnt .sh k) ρ = ρ := if_neg c
      rw [e]
      rcases h4 with h4 | ⟨h4, h5⟩
      · exact .inl h4
      · exact .inr ⟨h4, by omega⟩
theorem len_sq (hs : isS star = true) {D n σ k : Nat} {ρ : List β} {X : Sh β} (h : LenI star isS D n σ ρ X) : LenI star isS D n (σ + k) (stepG star isS (.cnt .sq k) ρ) (nxtF star isS .sq k X) := by
  cases X with
  | thr c => trivial
  | two p e q => trivial
  | one r p u v q =>
    obtain ⟨h1, h2, h3, h4⟩ := h
    have ep : sqG star isS k false p = rep star (if p.length = 0 then 0 else k) := by
      conv => lhs; rw [h1]
      exact sq_rep hs k _
    have eq : sqG star isS k false q = rep star (if q.length = 0 then 0 else k) := by
      conv => lhs; rw [h2]
      exact sq_rep hs k _
    refine ⟨by rw [ep, rep_len], by rw [eq, rep_len], by omega, ?_⟩
    rcases h4 with ⟨⟨w, w1, w2, w3⟩, h4⟩ | ⟨h4, h5⟩
    · refine .inl ⟨⟨w, w1, w2, ?_⟩, ?_⟩
      · subst w3
        exact sq_cut k p w q false w1 w2
      · have e : stepG star isS (.cnt .sq k) ρ = sqG star isS k false p ++ (w ++ sqG star isS k false q) := by
          subst w3
          exact sq_cut k p w q false w1 w2
        have hl : ρ.length = p.length + (w.length + q.length) := by rw [w3, List.length_append, List.length_append]
        rw [e, List.length_append, List.length_append]
        omega
    · have e : stepG star isS (.cnt .sq k) ρ = rep star (if ρ.length = 0 then 0 else k) := by
        show sqG star isS k false ρ = _
        conv => lhs; rw [h4]
        exact sq_rep hs k _
      rw [e, rep_len]
      refine .inr ⟨rfl, ?_⟩
      split <;> omega
theorem len_step (hs : isS star = true) {D n σ : Nat} {ρ : List β} {X : Sh β} {s : Stp} {m : Mask} (ok : X.ok isS (need (s :: m))) (h : LenI star isS D n σ ρ X) : LenI star isS D n (σ + cntS s) (stepG star isS s ρ) (nxt star isS s X) := by
  cases s with
  | rev => exact h.flip
  | cnt k c =>
    cases k with
    | kf => exact len_kf ok h
    | hf => exact len_hf ok h
    | cf => exact len_cf ok h
    | sh => exact len_sh h
    | sq => exact len_sq hs h
    | kl =>
      rw [kl_rev]
      exact (len_kf (X.flip_ok ok) h.flip).flip
    | hl =>
      rw [hl_rev]
      exact (len_hf (X.flip_ok ok) h.flip).flip
    | cl =>
      rw [cl_rev]
      exact (len_cf (X.flip_ok ok) h.flip).flip
theorem len_run (hs : isS star = true) {D n : Nat} : ∀ (m : Mask) (σ : Nat) (ρ : List β) (X : Sh β), X.ok isS (need m) → LenI star isS D n σ ρ X → LenI star isS D n (σ + sumM m) (runG star isS m ρ) (nxts star isS m X)
  | [], σ, ρ, X, _, h => h
  | s :: m, σ, ρ, X, ok, h => by
    have h2 := len_step hs ok h
    have h3 := len_run hs m (σ + cntS s) _ _ (does_any hs ok).1 h2
    rw [sumM_cons, ← Nat.add_assoc]
    exact h3
end
end MK

namespace MK
open PySem DL
/-! ## one shape for all strings -/
def Xg (A B : Nat) : Sh (Option Nat) := .one false [] ((List.range A).map some) ((List.range B).map fun i => some (A + i)) []
def gF (f : Mask) (A B : Nat) : Sh (Option Nat) := nxts none isN f (Xg A B)
def phi (u v : List Nat) : Option Nat → Nat := cell fun i => (u ++ v).getD i 97
def Sh.isC {β : Type} : Sh β → Bool
  | .thr _ => true
  | _ => false
theorem Sh.map_off {β γ : Type} (φ : β → γ) (X : Sh β) : (X.map φ).off = X.off := by
  cases X <;> simp [Sh.map, Sh.off]
theorem Sh.map_isC {β γ : Type} (φ : β → γ) (X : Sh β) : (X.map φ).isC = X.isC := by
  cases X <;> rfl
theorem okT_app {a b : List Nat} : okT (a ++ b) ↔ okT a ∧ okT b := by
  unfold okT
  constructor
  · intro h
    exact ⟨fun c hc => h c (List.mem_append_left _ hc), fun c hc => h c (List.mem_append_right _ hc)⟩
  · rintro ⟨h1, h2⟩ c hc
    rcases List.mem_append.mp hc with h | h
    · exact h1 c h
    · exact h2 c h
theorem Xg_map {u v : List Nat} : (Xg u.length v.length).map (phi u v) = .one false [] u v [] := by
  have e1 : ((List.range u.length).map some).map (phi u v) = u := by
    rw [List.map_map]
    conv => rhs; rw [text_range u]
    refine List.map_congr_left fun i hi => ?_
    have hi := List.mem_range.mp hi
    show (u ++ v).getD i 97 = u.getD i 97
    rw [List.getD_eq_getElem?_getD, List.getD_eq_getElem?_getD, List.getElem?_append_left hi]
  have e2 : ((List.range v.length).map fun i => some (u.length + i)).map (phi u v) = v := by
    rw [List.map_map]
    conv => rhs; rw [text_range v]
    refine List.map_congr_left fun i hi => ?_
    show (u ++ v).getD (u.length + i) 97 = v.getD i 97
    rw [List.getD_eq_getElem?_getD, List.getD_eq_getElem?_getD, List.getElem?_append_right (by omega), Nat.add_sub_cancel_left]
  show Sh.one false _ _ _ _ = _
  rw [e1, e2]
  rfl
theorem phi_ok {u v : List Nat} (hu : okT u) (hv : okT v) (x : Option Nat) : (decide (phi u v x = 42)) = isN x := by
  cases x with
  | none => rfl
  | some i => exact decide_eq_false (okT_get (okT_app.mpr ⟨hu, hv⟩) i)
theorem gF_map {u v : List Nat} (hu : okT u) (hv : okT v) (f : Mask) : (gF f u.length v.length).map (phi u v) = nxts 42 (fun c => decide (c = 42)) f (.one false [] u v []) := by
  unfold gF
  rw [nxts_map (φ := phi u v) (star := none) (isS := isN) (star' := (42 : Nat)) (isS' := fun c => decide (c = 42)) rfl (phi_ok hu hv), Xg_map]
theorem free_okT {l : List Nat} (h : okT l) : free (fun c => decide (c = 42)) l := fun x hx => decide_eq_false (by have := h x hx; omega)
/-- a mask's output for all long strings -/
theorem kind_run {f : Mask} {u v z : List Nat} (hu : okT u) (hv : okT v) (hz : okT z) (h1 : (need f).1 ≤ u.length) (h2 : (need f).2 ≤ v.length) (h3 : z ≠ []) : runT f (u ++ z ++ v) = ((gF f u.length v.length).map (phi u v)).row 42 z := by
  have e := run_nxts (star := 42) (isS := fun c => decide (c = 42)) rfl f (.one false [] u v []) ⟨free_okT hu, free_okT hv, h1, h2⟩ z h3 (free_okT hz)
  rw [gF_map hu hv, ← e]
  show _ = runG _ _ f ([] ++ (u ++ z ++ v) ++ [])
  simp
theorem Sh.row_len {β : Type} {star : β} {X : Sh β} (h : X.isC = false) (z : List β) : (X.row star z).length = X.off + z.length := by
  cases X with
  | one r p u v q => cases r <;> simp [Sh.row, Sh.off] <;> omega
  | two p e q => simp [Sh.row, Sh.off]; omega
  | thr c => cases h
/-- what is not constant cannot be long for a short string -/
theorem kind_len {f : Mask} {A B : Nat} (h1 : (need f).1 ≤ A) (h2 : (need f).2 ≤ B) (hc : (gF f A B).isC = false) {s : List Nat} (hs : okT s) : (runT f s).length + (A + B) ≤ max s.length (sumM f) + (gF f A B).off := by
  let u := List.replicate A 97
  let v := List.replicate B 97
  have hu : u.length = A := List.length_replicate
  have hv : v.length = B := List.length_replicate
  have e := gF_map (okT_repl A) (okT_repl B) f
  rw [List.length_replicate, List.length_replicate] at e
  have i0 : LenI 42 (fun c => decide (c = 42)) (A + B) s.length 0 s (.one false [] u v []) := by
    refine ⟨rfl, rfl, by rw [hu, hv]; omega, ?_⟩
    by_cases c : s = []
    · subst c
      refine .inr ⟨rfl, ?_⟩
      simp only [List.length_nil, hu, hv]
      omega
    · refine .inl ⟨⟨s, free_okT hs, c, by simp⟩, ?_⟩
      simp only [List.length_nil, hu, hv]
      omega
  have l := len_run (star := 42) (isS := fun c => decide (c = 42)) rfl f 0 s (.one false [] u v []) ⟨free_okT (okT_repl A), free_okT (okT_repl B), by rw [hu]; exact h1, by rw [hv]; exact h2⟩ i0
  rw [← e, Nat.zero_add] at l
  rw [← (gF f A B).map_off (phi u v)]
  cases hg : gF f A B with
  | thr c => rw [hg] at hc; cases hc
  | two p e q =>
    rw [hg] at l
    exact l.1
  | one r p a b q =>
    rw [hg] at l
    obtain ⟨_, _, _, l⟩ := l
    show _ ≤ _ + (_ + _ + _ + _)
    rcases l with ⟨_, l⟩ | ⟨_, l⟩
    · exact Nat.le_trans (Nat.le_of_eq l) (Nat.add_le_add_right (Nat.le_max_left _ _) _)
    · exact l
/-- a long string and its parts -/
theorem split3 {t : List Nat} {A B : Nat} (h : A + B < t.length) : ∃ u z v, t = u ++ z ++ v ∧ u.length = A ∧ v.length = B ∧ z ≠ [] := by
  refine ⟨t.take A, (t.drop A).take (t.length - A - B), t.drop (t.length - B), ?_, ?_, ?_, ?_⟩
  · have e1 : t.drop (t.length - B) = (t.drop A).drop (t.length - A - B) := by
      rw [List.drop_drop]
      congr 1
      omega
    rw [e1, List.append_assoc, List.take_append_drop, List.take_append_drop]
  · rw [List.length_take]; omega
  · rw [List.length_drop]; omega
  · intro e
    have := congrArg List.length e
    simp at this
    omega
def okT1 : okT [97] := fun c hc => by simp at hc; omega
def okT2 : okT [97, 97] := fun c hc => by simp at hc; omega
def okTb : okT [98] := fun c hc => by simp at hc; omega
theorem okT_3 {u z v : List Nat} (h : okT (u ++ z ++ v)) : okT u ∧ okT z ∧ okT v := by
  have h1 := okT_app.mp h
  have h2 := okT_app.mp h1.1
  exact ⟨h2.1, h2.2, h1.2⟩
theorem okT_of3 {u z v : List Nat} (hu : okT u) (hz : okT z) (hv : okT v) : okT (u ++ z ++ v) := okT_app.mpr ⟨okT_app.mpr ⟨hu, hz⟩, hv⟩
theorem Sh.row_C {β : Type} {star : β} {X : Sh β} (h : X.isC = true) (z z' : List β) : X.row star z = X.row star z' := by
  cases X with
  | thr c => rfl
  | one => cases h
  | two => cases h
/-- the ends that suit all masks of a list -/
def sumA (r : Rel) : Nat := (r.map fun f => (need f).1).sum
def sumB (r : Rel) : Nat := (r.map fun f => (need f).2).sum
def sumS (r : Rel) : Nat := (r.map sumM).sum
theorem sumAB : ∀ r : Rel, sumA r + sumB r ≤ sumS r
  | [] => Nat.le_refl _
  | f :: r => by
    have h := sumAB r
    have n := need_le f
    unfold sumA sumB sumS at h ⊢
    simp only [List.map_cons, List.sum_cons]
    omega
theorem le_sum {α : Type} {φ : α → Nat} : ∀ {r : List α} {f : α}, f ∈ r → φ f ≤ (r.map φ).sum
  | g :: r, f, h => by
    rw [List.map_cons, List.sum_cons]
    rcases List.mem_cons.mp h with e | e
    · subst e; omega
    · have := le_sum (φ := φ) e; omega
theorem conf_symm {r : Rel} {s t : List Nat} (h : conf r s t) : conf r t s := fun f hf => (h f hf).symm
end MK

namespace MK
open PySem DL
def needs (A B : Nat) (f : Mask) : Prop := (need f).1 ≤ A ∧ (need f).2 ≤ B
/-- all masks of the release constant: one string alone can be shortened -/
theorem short1 {r : Rel} {g : Mask} {A B : Nat} (hr : ∀ f ∈ r, needs A B f) (hg : needs A B g) (hC : ∀ f ∈ r, (gF f A B).isC = true) {s t : List Nat} (ht : okT t) (hl : A + B < t.length) (h1 : conf r s t) (h2 : runT g s ≠ runT g t) : ∃ t', okT t' ∧ t'.length ≤ A + B + 2 ∧ conf r s t' ∧ runT g s ≠ runT g t' := by
  obtain ⟨u, z, v, rfl, hu, hv, hz⟩ := split3 hl
  obtain ⟨ou, oz, ov⟩ := okT_3 ht
  subst hu hv
  have key : ∀ z', okT z' → z' ≠ [] → conf r s (u ++ z' ++ v) := fun z' oz' hz' f hf => by
    rw [h1 f hf, kind_run ou ov oz (hr f hf).1 (hr f hf).2 hz, kind_run ou ov oz' (hr f hf).1 (hr f hf).2 hz']
    exact Sh.row_C (by rw [Sh.map_isC]; exact hC f hf) _ _
  cases hc : (gF g u.length v.length).isC with
  | true =>
    refine ⟨u ++ [97] ++ v, okT_of3 ou okT1 ov, by simp; omega, key _ okT1 (by simp), ?_⟩
    rw [kind_run ou ov okT1 hg.1 hg.2 (by simp), Sh.row_C (by rw [Sh.map_isC]; exact hc) _ z, ← kind_run ou ov oz hg.1 hg.2 hz]
    exact h2
  | false =>
    have l1 : (runT g (u ++ [97] ++ v)).length = (gF g u.length v.length).off + 1 := by
      rw [kind_run ou ov okT1 hg.1 hg.2 (by simp), Sh.row_len (by rw [Sh.map_isC]; exact hc), Sh.map_off]
      rfl
    have l2 : (runT g (u ++ [97, 97] ++ v)).length = (gF g u.length v.length).off + 2 := by
      rw [kind_run ou ov okT2 hg.1 hg.2 (by simp), Sh.row_len (by rw [Sh.map_isC]; exact hc), Sh.map_off]
      rfl
    by_cases c : (runT g s).length = (gF g u.length v.length).off + 1
    · refine ⟨u ++ [97, 97] ++ v, okT_of3 ou okT2 ov, by simp; omega, key _ okT2 (by simp), fun e => ?_⟩
      rw [e] at c
      omega
    · refine ⟨u ++ [97] ++ v, okT_of3 ou okT1 ov, by simp; omega, key _ okT1 (by simp), fun e => ?_⟩
      rw [e] at c
      omega
theorem app3_inj {β : Type} {a a' b b' c c' : List β} (h : a ++ b ++ c = a' ++ b' ++ c') (h1 : a.length = a'.length) (h2 : b.length = b'.length) : a = a' ∧ b = b' ∧ c = c' := by
  rw [List.append_assoc, List.append_assoc] at h
  obtain ⟨e1, e2⟩ := List.append_inj h h1
  obtain ⟨e3, e4⟩ := List.append_inj e2 h2
  exact ⟨e1, e3, e4⟩
/-- rows of one shape, read through letters, are alike iff their parts are -/
def Sh.fits {β γ : Type} (X : Sh β) (φ ψ : β → γ) (same : Prop) : Prop :=
  match X with
  | .one _ p u v q => p.map φ = p.map ψ ∧ u.map φ = u.map ψ ∧ v.map φ = v.map ψ ∧ q.map φ = q.map ψ ∧ same
  | .two p _ q => p.map φ = p.map ψ ∧ q.map φ = q.map ψ
  | .thr c => c.map φ = c.map ψ
theorem Sh.fits_iff {β γ : Type} {star : γ} (X : Sh β) (φ ψ : β → γ) (z z' : List γ) (hl : z.length = z'.length) : (X.map φ).row star z = (X.map ψ).row star z' ↔ X.fits φ ψ (z = z') := by
  cases X with
  | thr c => exact Iff.rfl
  | two p e q =>
    simp only [Sh.map, Sh.row, Sh.fits, hl]
    constructor
    · intro h
      obtain ⟨a, _, c⟩ := app3_inj h (by simp) rfl
      exact ⟨a, c⟩
    · rintro ⟨a, b⟩
      rw [a, b]
  | one r p u v q =>
    simp only [Sh.map, Sh.row, Sh.fits]
    have hr : (if r = true then z.reverse else z) = (if r = true then z'.reverse else z') ↔ z = z' := by cases r <;> simp
    have hrl : (if r = true then z.reverse else z).length = (if r = true then z'.reverse else z').length := by cases r <;> simp [hl]
    constructor
    · intro h
      obtain ⟨a, b, c⟩ := app3_inj h (by simp) (by simp [hrl])
      obtain ⟨a1, b1, c1⟩ := app3_inj b (by simp) hrl
      exact ⟨a, a1, c1, c, hr.mp b1⟩
    · rintro ⟨a, b, c, d, e⟩
      rw [a, b, c, d, e]
theorem Sh.fits_imp {β γ : Type} {X : Sh β} {φ ψ : β → γ} {P Q : Prop} (h : P → Q) (f : X.fits φ ψ P) : X.fits φ ψ Q := by
  cases X with
  | thr c => exact f
  | two p e q => exact f
  | one r p u v q => exact ⟨f.1, f.2.1, f.2.2.1, f.2.2.2.1, h f.2.2.2.2⟩
/-- some mask of the release not constant: both are shortened together -/
theorem short2 {r : Rel} {g : Mask} {A B : Nat} (hr : ∀ f ∈ r, needs A B f) (hg : needs A B g) {f0 : Mask} (hf0 : f0 ∈ r) (hC : (gF f0 A B).isC = false) {s t : List Nat} (hs : okT s) (ht : okT t) (hl1 : A + B < s.length) (hl2 : A + B < t.length) (h1 : conf r s t) (h2 : runT g s ≠ runT g t) : ∃ s' t', (okT s' ∧ okT t') ∧ (s'.length = A + B + 1 ∧ t'.length = A + B + 1) ∧ conf r s' t' ∧ runT g s' ≠ runT g t' := by
  obtain ⟨u, z, v, rfl, hu, hv, hz⟩ := split3 hl1
  obtain ⟨u', z', v', rfl, hu', hv', hz'⟩ := split3 hl2
  obtain ⟨ou, oz, ov⟩ := okT_3 hs
  obtain ⟨ou', oz', ov'⟩ := okT_3 ht
  have run1 : ∀ (f : Mask) (w : List Nat), needs A B f → okT w → w ≠ [] → runT f (u ++ w ++ v) = ((gF f A B).map (phi u v)).row 42 w := fun f w hn ow hw => by
    have := kind_run (f := f) ou ov ow (by rw [hu]; exact hn.1) (by rw [hv]; exact hn.2) hw
    rw [hu, hv] at this
    exact this
  have run2 : ∀ (f : Mask) (w : List Nat), needs A B f → okT w → w ≠ [] → runT f (u' ++ w ++ v') = ((gF f A B).map (phi u' v')).row 42 w := fun f w hn ow hw => by
    have := kind_run (f := f) ou' ov' ow (by rw [hu']; exact hn.1) (by rw [hv']; exact hn.2) hw
    rw [hu', hv'] at this
    exact this
  have hzz : z.length = z'.length := by
    have e := congrArg List.length (h1 f0 hf0)
    rw [run1 f0 z (hr f0 hf0) oz hz, run2 f0 z' (hr f0 hf0) oz' hz', Sh.row_len (by rw [Sh.map_isC]; exact hC), Sh.row_len (by rw [Sh.map_isC]; exact hC), Sh.map_off, Sh.map_off] at e
    omega
  let w : List Nat := if z = z' then [97] else [98]
  have ow : okT w := by
    show okT (if z = z' then [97] else [98])
    split
    · exact okT1
    · exact okTb
  have hw : w ≠ [] := by
    show (if z = z' then [97] else [98]) ≠ []
    split <;> simp
  have lw : w.length = 1 := by
    show (if z = z' then [97] else [98]).length = 1
    split <;> rfl
  have ew : ([97] = w) ↔ (z = z') := by
    show [97] = (if z = z' then [97] else [98]) ↔ _
    split
    · rename_i c; simp [c]
    · rename_i c; simp [c]
  refine ⟨u ++ [97] ++ v, u' ++ w ++ v', ⟨okT_of3 ou okT1 ov, okT_of3 ou' ow ov'⟩, ⟨by simp; omega, by simp; omega⟩, fun f hf => ?_, fun e => h2 ?_⟩
  · have e := h1 f hf
    rw [run1 f z (hr f hf) oz hz, run2 f z' (hr f hf) oz' hz', Sh.fits_iff _ _ _ _ _ hzz] at e
    rw [run1 f _ (hr f hf) okT1 (by simp), run2 f _ (hr f hf) ow hw, Sh.fits_iff _ _ _ _ _ (by rw [lw]; rfl)]
    exact Sh.fits_imp ew.mpr e
  · rw [run1 g _ hg okT1 (by simp), run2 g _ hg ow hw, Sh.fits_iff _ _ _ _ _ (by rw [lw]; rfl)] at e
    rw [run1 g z hg oz hz, run2 g z' hg oz' hz', Sh.fits_iff _ _ _ _ _ hzz]
    exact Sh.fits_imp ew.mp e
/-- a mask that is not constant ties the lengths -/
theorem tie {f : Mask} {A B : Nat} (hn : needs A B f) (hC : (gF f A B).isC = false) {s t : List Nat} (hs : okT s) (ht : okT t) (hl : A + B < t.length) (h : runT f s = runT f t) : t.length ≤ max s.length (sumM f) := by
  obtain ⟨u, z, v, rfl, hu, hv, hz⟩ := split3 hl
  obtain ⟨ou, oz, ov⟩ := okT_3 ht
  have k := kind_len hn.1 hn.2 hC hs
  subst hu hv
  rw [h, kind_run ou ov oz hn.1 hn.2 hz, Sh.row_len (by rw [Sh.map_isC]; exact hC), Sh.map_off] at k
  simp only [List.length_append]
  omega
theorem needs_of {r : Rel} {f : Mask} (h : f ∈ r) : needs (sumA r) (sumB r) f := ⟨le_sum (φ := fun f => (need f).1) h, le_sum (φ := fun f => (need f).2) h⟩
/-- a pair that shows that the release does not determine the mask can be made short -/
theorem pair_short {r : Rel} {g : Mask} {s t : List Nat} (hs : okT s) (ht : okT t) (h1 : conf r s t) (h2 : runT g s ≠ runT g t) : ∃ s' t', (okT s' ∧ okT t') ∧ (s'.length ≤ s.length ∧ t'.length ≤ t.length) ∧ (s'.length ≤ sumS (r ++ [g]) + 3 ∧ t'.length ≤ sumS (r ++ [g]) + 3) ∧ conf r s' t' ∧ runT g s' ≠ runT g t' := by
  have hAB := sumAB (r ++ [g])
  have hr : ∀ f ∈ r, needs (sumA (r ++ [g])) (sumB (r ++ [g])) f := fun f hf => needs_of (List.mem_append_left _ hf)
  have hg : needs (sumA (r ++ [g])) (sumB (r ++ [g])) g := needs_of (by simp)
  have hS : ∀ f ∈ r, sumM f ≤ sumS (r ++ [g]) := fun f hf => le_sum (φ := sumM) (List.mem_append_left _ hf)
  revert hr hg hAB hS
  generalize sumA (r ++ [g]) = A
  generalize sumB (r ++ [g]) = B
  generalize sumS (r ++ [g]) = S
  intro hAB hr hg hS
  by_cases c : s.length ≤ S + 3 ∧ t.length ≤ S + 3
  · exact ⟨s, t, ⟨hs, ht⟩, ⟨Nat.le_refl _, Nat.le_refl _⟩, c, h1, h2⟩
  by_cases hC : ∀ f ∈ r, (gF f A B).isC = true
  · obtain ⟨t', o1, l1, l2, c1, d1⟩ : ∃ t', okT t' ∧ t'.length ≤ t.length ∧ t'.length ≤ S + 3 ∧ conf r s t' ∧ runT g s ≠ runT g t' := by
      by_cases c : t.length ≤ S + 3
      · exact ⟨t, ht, Nat.le_refl _, c, h1, h2⟩
      · obtain ⟨t', a, b, c, d⟩ := short1 hr hg hC ht (by omega) h1 h2
        exact ⟨t', a, by omega, by omega, c, d⟩
    by_cases c : s.length ≤ S + 3
    · exact ⟨s, t', ⟨hs, o1⟩, ⟨Nat.le_refl _, l1⟩, ⟨c, l2⟩, c1, d1⟩
    · obtain ⟨s', a, b, c, d⟩ := short1 hr hg hC hs (by omega) (conf_symm c1) d1.symm
      exact ⟨s', t', ⟨a, o1⟩, ⟨by omega, l1⟩, ⟨by omega, l2⟩, conf_symm c, d.symm⟩
  · have ⟨f0, hf0, hC0⟩ : ∃ f ∈ r, (gF f A B).isC = false := by
      refine Classical.byContradiction fun n => hC fun f hf => ?_
      cases e : (gF f A B).isC with
      | true => rfl
      | false => exact absurd ⟨f, hf, e⟩ n
    have l1 : A + B < t.length := by
      refine Classical.byContradiction fun n => ?_
      have := tie (hr f0 hf0) hC0 ht hs (by omega) (h1 f0 hf0).symm
      have := hS f0 hf0
      omega
    have l2 : A + B < s.length := by
      refine Classical.byContradiction fun n => ?_
      have := tie (hr f0 hf0) hC0 hs ht (by omega) (h1 f0 hf0)
      have := hS f0 hf0
      omega
    obtain ⟨s', t', a, ⟨b1, b2⟩, c1, d⟩ := short2 hr hg hf0 hC0 hs ht l2 l1 h1 h2
    exact ⟨s', t', a, ⟨by omega, by omega⟩, ⟨by omega, by omega⟩, c1, d⟩
/-! ## the smallest counterexample -/
theorem bnd_S (r : Rel) : bnd r = 2 + sumS r := rfl
theorem mem_pairsT {M t n m : Nat} (h1 : n ≤ m) (h2 : m ≤ M) (h3 : n + m = t) : (n, m) ∈ pairsT M t := by
  unfold pairsT
  refine List.mem_map.mpr ⟨n - (t - M), List.mem_range.mpr ?_, ?_⟩
  · omega
  · rw [Prod.mk.injEq]
    exact ⟨by omega, by omega⟩
theorem pairsT_sum {M t : Nat} {p : Nat × Nat} (h : p ∈ pairsT M t) : p.1 + p.2 = t := by
  unfold pairsT at h
  obtain ⟨i, hi, rfl⟩ := List.mem_map.mp h
  have := List.mem_range.mp hi
  show t - M + i + (t - (t - M + i)) = t
  omega
theorem findSome_min {α : Type} {φ : Nat → Option α} : ∀ {N : Nat} {x : α}, (List.range N).findSome? φ = some x → ∃ k, k < N ∧ φ k = some x ∧ ∀ j, j < k → φ j = none
  | 0, _, h => by cases h
  | N + 1, x, h => by
    rw [List.range_succ, List.findSome?_append] at h
    cases e : (List.range N).findSome? φ with
    | some y =>
      rw [e] at h
      have h : some y = some x := h
      cases h
      obtain ⟨k, a, b, c⟩ := findSome_min e
      exact ⟨k, by omega, b, c⟩
    | none =>
      rw [e] at h
      refine ⟨N, Nat.lt_succ_self _, ?_, fun j hj => ?_⟩
      · cases e2 : φ N with
        | none => simp [e2] at h
        | some y => simpa [e2] using h
      · exact List.findSome?_eq_none_iff.mp e j (List.mem_range.mpr hj)
theorem scexT_none {r : Rel} {g : Mask} {M t : Nat} (h : scexT r g M t = none) {s u : List Nat} (hs : okT s) (hu : okT u) (h1 : s.length ≤ M) (h2 : u.length ≤ M) (h3 : s.length + u.length = t) (hc : conf r s u) : runT g s = runT g u := by
  unfold scexT at h
  rw [List.findSome?_eq_none_iff] at h
  rcases Nat.le_total s.length u.length with l | l
  · exact try_none hs hu (h _ (mem_pairsT l h2 h3)) hc
  · exact (try_none hu hs (h _ (mem_pairsT l h1 (by omega))) (conf_symm hc)).symm
/-- none is found: the release determines the mask -/
theorem scex_none {r : Rel} {g : Mask} (h : scex r g = none) {s t : List Nat} (hs : okT s) (ht : okT t) (hc : conf r s t) : runT g s = runT g t := by
  refine Classical.byContradiction fun n => ?_
  obtain ⟨s', t', ⟨o1, o2⟩, _, ⟨l1, l2⟩, c, d⟩ := pair_short hs ht hc n
  unfold scex at h
  rw [List.findSome?_eq_none_iff] at h
  have := h (s'.length + t'.length) (List.mem_range.mpr (by rw [bnd_S]; omega))
  exact d (scexT_none this o1 o2 (by rw [bnd_S]; omega) (by rw [bnd_S]; omega) rfl c)
/-- what is found is a smallest counterexample -/
theorem scex_some {r : Rel} {g : Mask} {s t : List Nat} (h : scex r g = some (s, t)) : ((∀ c ∈ s, c = 97 ∨ c = 98) ∧ (∀ c ∈ t, c = 97 ∨ c = 98)) ∧ conf r s t ∧ runT g s ≠ runT g t ∧ ∀ s' t', okT s' → okT t' → conf r s' t' → runT g s' ≠ runT g t' → s.length + t.length ≤ s'.length + t'.length := by
  unfold scex at h
  obtain ⟨k, hk, e, hj⟩ := findSome_min h
  unfold scexT at e
  obtain ⟨p, hp, e2⟩ := List.exists_of_findSome?_eq_some e
  obtain ⟨⟨l1, l2⟩, a, b, c, d⟩ := try_some e2
  have hsum := pairsT_sum hp
  refine ⟨⟨a, b⟩, c, d, fun s' t' o1 o2 c' d' => ?_⟩
  obtain ⟨s2, t2, ⟨p1, p2⟩, ⟨q1, q2⟩, ⟨r1, r2⟩, c2, d2⟩ := pair_short o1 o2 c' d'
  refine Nat.le_trans ?_ (Nat.add_le_add q1 q2)
  refine Nat.le_of_not_lt fun lt => d2 ?_
  exact scexT_none (hj (s2.length + t2.length) (by omega)) p1 p2 (by rw [bnd_S]; omega) (by rw [bnd_S]; omega) rfl c2
theorem scex_iff {r : Rel} {g : Mask} : scex r g = none ↔ ∀ s t, okT s → okT t → conf r s t → runT g s = runT g t := by
  constructor
  · intro h s t hs ht hc
    exact scex_none h hs ht hc
  · intro h
    cases e : scex r g with
    | none => rfl
    | some p =>
      obtain ⟨s, t⟩ := p
      obtain ⟨⟨a, b⟩, c, d, _⟩ := scex_some e
      exact absurd (h s t (ab_okT a) (ab_okT b) c) d
theorem scex_len {r : Rel} {g : Mask} {s t : List Nat} (h : scex r g = some (s, t)) : s.length ≤ bnd (r ++ [g]) + 1 ∧ t.length ≤ bnd (r ++ [g]) + 1 := by
  unfold scex at h
  obtain ⟨k, hk, e, _⟩ := findSome_min h
  unfold scexT at e
  obtain ⟨p, hp, e2⟩ := List.exists_of_findSome?_eq_some e
  obtain ⟨⟨l1, l2⟩, _⟩ := try_some e2
  unfold pairsT at hp
  obtain ⟨i, hi, rfl⟩ := List.mem_map.mp hp
  have := List.mem_range.mp hi
  rw [l1, l2]
  dsimp only
  omega
end MK

namespace DL
open PySem PySem.Spec PyProof.Rows L2
section
variable {X : Cx} (K : PySem.W.Frag)
theorem kUnl {es : List Expr} {k : Nat} {t : TGs} {n : Nat} {pos : Pos} (hc : X.calm = true) (h : PGs X es t) (hK : X.K = K := by rfl) (hn : (assignEach es X.env).length = n := by rfl) (hst : (assignEach es X.env).findIdx? (·.1) = none := by rfl) : PG X (.Tuple es k pos) (gUnl K n t) := hK ▸ pg_unl hc h hn hst
theorem kSort (hK : X.K = K := by rfl) : CallR X (.builtin "sorted") (rSortedI K) := hK ▸ cr_sortedI
end
section
variable {K : PySem.W.Frag} {S : List Sl} {RO : Own → List Sl → Prop}
theorem gg_unl {gs : TGs} {n : Nat} {ds : List PyData} {R : List Sl → Prop} (hn : ds.length = n) (h : GGs K gs ds S R) : GG K (gUnl K n gs) (.list ds) S R := fun e F H σ v w r Q k => by
  cases r with
  | lst h1 r1 => exact ⟨_, _, rfl, SqL.of (w.sub _ _ h1), by rw [r1.length]; exact hn, h e F H σ _ w r1 Q k⟩
theorem rbn_sort {x : Vx} {ns : List Int} (hx : LstAt S (ns.map PyData.int) x) (q : ∀ ns' : List Int, ns'.Perm ns → ns'.Pairwise (· ≤ ·) → RO (.lst (ns'.map PyData.int)) S) : RBN K (rSortedI K) [x] S RO := fun e F H σ vs w rx Q k => by
  cases rx with
  | cons rx r0 =>
    cases r0
    obtain ⟨a, vs, rfl, ha, r⟩ := hx.get w rx
    have e1 := r.int_inv
    subst e1
    exact ⟨_, ns, rfl, SqL.of ha, fun ns' p h1 h2 hp => k p (.lst _) S F _ (w.fresh hp) (Same.refl _) (w.sub.free hp) (w.n0 hp) ⟨_, upd_same, Reps.ints ns'⟩ (w.no hp) (q ns' h1 h2)⟩
end
theorem rb_neg {K : PySem.W.Frag} {S : List Sl} {R : Vx → List Sl → Prop} {i : Int} (q : R (.dat (.int (-i))) S) : RB K (fun vs H Q => ∃ v, vs = [v] ∧ rU (fun i => V.int (-i)) v H Q) [.dat (.int i)] S R := fun e F H σ vs w rx Q k => by
  cases rx with
  | cons rx r0 =>
    cases r0
    cases rx
    exact ⟨_, rfl, i, rfl, k _ (.dat (.int _)) S F H w (Same.refl _) (.int _) q⟩
/-! ## in, not in -/
def uInA (K : PySem.W.Frag) : R2 := fun x y H Q => uInR K x y H Q ∨ L2.rInD K x y H Q
def rNotInDct : R2 := fun y x H Q => ∃ a o, x = .ref a ∧ DGet H a y o ∧ Q (.bl (!o.isSome)) H
theorem op_notIn_dict {X : Cx} (hu : X.A.units + 64 < cLine) : OpR X (compareOp .NotIn) rNotInDct := by
  intro pins s σ H y x u v Q I ry rx h
  obtain ⟨a, o, rfl, g, q⟩ := h
  obtain rfl : v = Value.ref a := rx
  exact d_notIn (by omega) I g ry fun s3 I3 => ⟨.bl (!o.isSome), H, I3, rfl, q⟩
def uNotInA (K : PySem.W.Frag) : R2 := fun x y H Q => rNotInDct x y H Q ∨ L2.rNotInD K x y H Q
section
variable {X : Cx} (K : PySem.W.Frag)
theorem kInA {k : Nat} (hr : Room k X.A) (hu : X.A.units + 64 < cLine) (hK : X.K = K := by rfl) : OpR X (compareOp .In) (uInA K) := hK ▸ (uIn hr hu).or (op_inD (by have := hr.un; omega))
theorem kNotInA {k : Nat} (hr : Room k X.A) (hu : X.A.units + 64 < cLine) (hK : X.K = K := by rfl) : OpR X (compareOp .NotIn) (uNotInA K) := hK ▸ (op_notIn_dict hu).or (op_notInD (by have := hr.un; omega))
end
/-- a dict with keys numbers and texts: owned, or data (that may be locked for good) -/
def dctK (es : List (Key × PyData)) : PyData := .dict (dKs es)
def lckK (es : List (Key × PyData)) : PyData := .dict ((.bool true, .none) :: dKs es)
def DckAt (S : List Sl) (es : List (Key × PyData)) : Vx → Prop
  | .dat d => d = dctK es ∨ d = lckK es
  | .ptr i => ∃ m a, S[i]? = some (.own m a (.dct (dKs es)))
section
variable {K : PySem.W.Frag} {S : List Sl} {R : Vx → List Sl → Prop} {RO : Own → List Sl → Prop} {ta tb te : TE} {P : Po}
theorem DckAt.get {e : En} {F H : Hp} {σ : L2.St} {v : V} {es : List (Key × PyData)} {x : Vx} (w : Wd K e F H σ S) (r : RepX K F σ v x) (h : DckAt S es x) : ∃ a kvs, v = .ref a ∧ Rd H a (.dK kvs) ∧ RepE K F kvs es := by
  cases x with
  | dat d =>
    rcases (show d = dctK es ∨ d = lckK es from h) with h | h
    rotate_left
    · subst h
      have r : Rep K F v (.dict ((.bool true, .none) :: dKs es)) := r
      generalize e0 : ((PyData.bool true, PyData.none) :: dKs es) = z at r
      cases r with
      | dk h1 r1 =>
        subst e0
        generalize e1 : (PyData.bool true, PyData.none) :: dKs es = z at r1
        cases r1 with
        | nil => cases e1
        | @cons k v vs d ds r t =>
          have e2 := congrArg Prod.fst (List.cons.inj e1).1
          cases k <;> cases e2
      | dt h1 r1 => cases e0
      | dl h1 r1 =>
        cases e0
        exact ⟨_, _, rfl, .inr ⟨_, w.sub _ _ h1⟩, repK_inv r1⟩
    subst h
    have r : Rep K F v (.dict (dKs es)) := r
    generalize e0 : dKs es = z at r
    cases r with
    | dk h1 r1 =>
      subst e0
      exact ⟨_, _, rfl, .inl (w.sub _ _ h1), repK_inv r1⟩
    | dl h1 r1 =>
      cases es with
      | nil => cases e0
      | cons p es =>
        have e1 := (List.cons.inj e0).1
        have e2 : kD p.1 = .bool true := congrArg Prod.fst e1
        obtain ⟨k, v⟩ := p
        cases k <;> cases e2
    | dt h1 r1 =>
      cases es with
      | nil => cases e0
      | cons p es =>
        have e1 := (List.cons.inj e0).1
        have e2 : kD p.1 = .none := congrArg Prod.fst e1
        obtain ⟨k, v⟩ := p
        cases k <;> cases e2
  | ptr i =>
    obtain ⟨m, a, h⟩ := h
    obtain ⟨g1, _, _, kvs, g3, g4⟩ := w.slots i _ h
    have e1 := (show σ[i]? = some (some v) from r).symm.trans g1
    cases Option.some.inj (Option.some.inj e1)
    exact ⟨a, kvs, rfl, .inl g3, repK_inv g4⟩
theorem rr_inL {a : PyData} {ds : List PyData} (ha : okD a = true) (hb : okD (.list ds) = true) (q : R (.dat (.bool (ds.any fun z => PyData.eqv z a))) S) : RR K (uInA K) (.dat a) (.dat (.list ds)) S R := fun e F H σ v u w rx ry Q k =>
  .inr ⟨a, ds, dp_mono w.sub (okD_p ha) rx, dp_mono w.sub (okD_p hb) ry, okD_s ha, okD_s hb, k _ (.dat (.bool _)) S F H w (Same.refl _) (.bl _) q⟩
theorem rr_notInL {a : PyData} {ds : List PyData} (ha : okD a = true) (hb : okD (.list ds) = true) (q : R (.dat (.bool (!ds.any fun z => PyData.eqv z a))) S) : RR K (uNotInA K) (.dat a) (.dat (.list ds)) S R := fun e F H σ v u w rx ry Q k =>
  .inr ⟨a, ds, dp_mono w.sub (okD_p ha) rx, dp_mono w.sub (okD_p hb) ry, okD_s ha, okD_s hb, k _ (.dat (.bool _)) S F H w (Same.refl _) (.bl _) q⟩
theorem rr_inA {x y : Vx} (h : RR K (uInR K) x y S R) : RR K (uInA K) x y S R := fun e F H σ v u w rx ry Q k => .inl (h e F H σ v u w rx ry Q k)
theorem dk_get {F H : Hp} {a : Addr} {kvs : List (Key × V)} {es : List (Key × PyData)} (ha : Rd H a (.dK kvs)) (r : RepE K F kvs es) (k : Key) : ∃ o, DGet H a (kV k) o ∧ o.isSome = (getE es k).isSome ∧ ∀ d, getE es k = some d → ∃ v, o = some v ∧ Rep K F v d := by
  refine ⟨valV kvs k, .inl ⟨kvs, k, ha, rfl, rfl⟩, ?_⟩
  rcases r.get k with ⟨h1, h2⟩ | ⟨v, d, h1, h2, h3⟩
  · rw [h1, h2]
    exact ⟨rfl, fun d z => by cases z⟩
  · rw [h1, h2]
    exact ⟨rfl, fun d' z => by cases z; exact ⟨v, rfl, h3⟩⟩
theorem rr_inK {x : Vx} {k : Key} {es : List (Key × PyData)} (hx : DckAt S es x) (q : R (.dat (.bool (getE es k).isSome)) S) : RR K (uInA K) (.dat (kD k)) x S R := fun e F H σ v u w rx ry Q kk => by
  obtain ⟨a, kvs, rfl, ha, r⟩ := hx.get w ry
  have e1 := rep_key rx
  subst e1
  obtain ⟨o, g, h1, _⟩ := dk_get ha r k
  refine .inl (.inr (.inr ⟨a, o, rfl, g, kk _ (.dat (.bool _)) S F H w (Same.refl _) ?_ q⟩))
  rw [h1]
  exact .bl _
theorem rr_notInK {x : Vx} {k : Key} {es : List (Key × PyData)} (hx : DckAt S es x) (q : R (.dat (.bool (!(getE es k).isSome))) S) : RR K (uNotInA K) (.dat (kD k)) x S R := fun e F H σ v u w rx ry Q kk => by
  obtain ⟨a, kvs, rfl, ha, r⟩ := hx.get w ry
  have e1 := rep_key rx
  subst e1
  obtain ⟨o, g, h1, _⟩ := dk_get ha r k
  refine .inl ⟨a, o, rfl, g, kk _ (.dat (.bool _)) S F H w (Same.refl _) ?_ q⟩
  rw [h1]
  exact .bl _
theorem ee_dgetK (h : EE K ta S fun x S1 => EE K tb S1 fun y S2 => ∃ (k : Key) (es : List (Key × PyData)) (d : PyData), DckAt S2 es x ∧ y = .dat (kD k) ∧ getE es k = some d ∧ R (.dat d) S2) : EE K (tDGet ta tb) S R := fun e F H σ w Q kk =>
  h e F H σ w _ fun v x S1 F1 H1 w1 m1 r1 q1 => q1 e F1 H1 σ w1 _ fun u y S2 F2 H2 w2 m2 r2 ⟨k, es, d, hx, e2, hd, q⟩ => by
    subst e2
    have e1 := rep_key r2
    subst e1
    have r1' : RepX K F2 σ v x := by
      cases x with
      | dat d => exact Rep.mono m2 r1
      | ptr i => exact r1
    obtain ⟨a, kvs, rfl, ha, r⟩ := hx.get w2 r1'
    obtain ⟨o, g, _, h2⟩ := dk_get ha r k
    obtain ⟨v, rfl, hv⟩ := h2 d hd
    exact ⟨a, v, rfl, g, kk _ (.dat d) S2 F2 H2 w2 (m1.trans m2) hv q⟩
end
theorem sorted_one : ∀ {xs ys : List Int}, xs.Perm ys → xs.Pairwise (· ≤ ·) → ys.Pairwise (· ≤ ·) → xs = ys
  | [], ys, p, _, _ => (List.nil_perm.mp p).symm ▸ rfl
  | x :: xs, [], p, _, _ => absurd p (by simp)
  | x :: xs, y :: ys, p, h1, h2 => by
    have a := List.pairwise_cons.mp h1
    have b := List.pairwise_cons.mp h2
    have hxy : x = y := by
      have hx : x ∈ y :: ys := p.mem_iff.mp List.mem_cons_self
      have hy : y ∈ x :: xs := p.mem_iff.mpr List.mem_cons_self
      rcases List.mem_cons.mp hx with e | e
      · exact e
      · rcases List.mem_cons.mp hy with e2 | e2
        · exact e2.symm
        · exact Int.le_antisymm (a.1 y e2) (b.1 x e)
    subst hxy
    rw [sorted_one ((List.perm_cons x).mp p) a.2 b.2]
end DL

namespace MK
open PySem DL
/-! ## what a release determines -/
def det (r : Rel) (g : Mask) : Bool := (scex r g).isNone
theorem det_iff {r : Rel} {g : Mask} : det r g = true ↔ ∀ s t, okT s → okT t → conf r s t → runT g s = runT g t := by
  unfold det
  rw [Option.isNone_iff_eq_none]
  exact scex_iff
theorem det_mem {r : Rel} {g : Mask} (h : g ∈ r) : det r g = true := det_iff.mpr fun s t _ _ c => c g h
theorem det_more {r : Rel} {g m : Mask} (h : g ∈ r) : det r (g ++ m) = true := det_iff.mpr fun s t _ _ c => by
  rw [runT_app, runT_app, c g h]
theorem det_id {r : Rel} {g : Mask} (h : [] ∈ r) : det r g = true := det_iff.mpr fun s t _ _ c => by
  have e : s = t := c [] h
  rw [e]
theorem det_trans {r q : Rel} {g : Mask} (h1 : ∀ f ∈ q, det r f = true) (h2 : det q g = true) : det r g = true := det_iff.mpr fun s t hs ht c =>
  det_iff.mp h2 s t hs ht fun f hf => det_iff.mp (h1 f hf) s t hs ht c
theorem det_sub {r q : Rel} {g : Mask} (h1 : ∀ f ∈ q, f ∈ r) (h2 : det q g = true) : det r g = true := det_trans (fun f hf => det_mem (h1 f hf)) h2
/-- masks that do the same -/
def sameM (f g : Mask) : Prop := ∀ s, okT s → runT f s = runT g s
theorem det_same {r : Rel} {f g : Mask} (h : sameM f g) : det r f = det r g := by
  rw [Bool.eq_iff_iff, det_iff, det_iff]
  constructor
  · intro q s t hs ht c
    rw [← h s hs, ← h t ht]
    exact q s t hs ht c
  · intro q s t hs ht c
    rw [h s hs, h t ht]
    exact q s t hs ht c
theorem det_same_l {f g m : Mask} (h : sameM f g) : det [f] m = det [g] m := by
  rw [Bool.eq_iff_iff, det_iff, det_iff]
  constructor
  · intro q s t hs ht c
    exact q s t hs ht fun k hk => by
      rw [List.mem_singleton.mp hk, h s hs, h t ht]
      exact c g (by simp)
  · intro q s t hs ht c
    exact q s t hs ht fun k hk => by
      rw [List.mem_singleton.mp hk, ← h s hs, ← h t ht]
      exact c f (by simp)
theorem step_hf0 {β : Type} {star : β} {isS : β → Bool} (r : List β) : stepG star isS (.cnt .hf 0) r = r := by simp [stepG]
theorem step_cl0 {β : Type} {star : β} {isS : β → Bool} (r : List β) : stepG star isS (.cnt .cl 0) r = r := by simp [stepG]
theorem step_sh0 {β : Type} {star : β} {isS : β → Bool} (r : List β) : stepG star isS (.cnt .sh 0) r = r := by simp [stepG]
theorem runG_snoc {β : Type} {star : β} {isS : β → Bool} (m : Mask) (s : Stp) (r : List β) : runG star isS (m ++ [s]) r = stepG star isS s (runG star isS m r) := List.foldl_append
theorem blank_run (s : List Nat) : runT [.cnt .kf 0, .cnt .sq 0] s = [] := by
  show stepT (.cnt .sq 0) (stepT (.cnt .kf 0) s) = []
  have e : stepT (.cnt .kf 0) s = List.replicate s.length 42 := by simp [stepG]
  rw [e]
  show sqG 42 _ 0 false (rep 42 s.length) = []
  rw [sq_rep (by decide)]
  split <;> rfl
theorem det_blank (r : Rel) : det r [.cnt .kf 0, .cnt .sq 0] = true := det_iff.mpr fun s t _ _ _ => by rw [blank_run, blank_run]
/-! ## sizes -/
theorem okM_mono {k b k' b' : Nat} {m : Mask} (h : okM k b m) (hk : k ≤ k') (hb : b ≤ b') : okM k' b' m := ⟨Nat.le_trans h.1 hk, fun s hs => by
  have := h.2 s hs
  cases s with
  | rev => trivial
  | cnt k n => exact Nat.le_trans this hb⟩
theorem okM_append {b : Nat} {f g : Mask} {k : Nat} (hk : f.length + g.length ≤ k) (hf : ∀ s ∈ f, okS b s) (hg : ∀ s ∈ g, okS b s) : okM k b (f ++ g) := ⟨by rw [List.length_append]; exact hk, fun s hs => (List.mem_append.mp hs).elim (hf s) (hg s)⟩
theorem dMask_app (f g : Mask) : (f.map dStep) ++ (g.map dStep) = (f ++ g).map dStep := List.map_append.symm
theorem dM_len (m : Mask) : (m.map dStep).length = m.length := List.length_map _
theorem okR1 {f : Mask} (h : okM 4 5 f) : okR [f] := ⟨by simp, fun m hm => by rw [List.mem_singleton.mp hm]; exact h⟩
theorem okR2 {f g : Mask} (h : okM 4 5 f) (h' : okM 4 5 g) : okR [f, g] := ⟨by simp, fun m hm => by
  simp at hm
  rcases hm with rfl | rfl
  · exact h
  · exact h'⟩
theorem okR3 {f g k : Mask} (h : okM 4 5 f) (h' : okM 4 5 g) (h2 : okM 4 5 k) : okR [f, g, k] := ⟨by simp, fun m hm => by
  simp at hm
  rcases hm with rfl | rfl | rfl
  · exact h
  · exact h'
  · exact h2⟩
theorem okR0 : okR [] := ⟨by decide, fun m hm => by cases hm⟩
theorem okM0 : okM 4 5 [] := ⟨by decide, fun s hs => by cases hs⟩
theorem okM_s {k : Nm} {n b : Nat} (h : n ≤ b) : ∀ s ∈ ([.cnt k n] : Mask), okS b s := fun s hs => by rw [List.mem_singleton.mp hs]; exact h
theorem okM1 {k : Nm} {n : Nat} (h : n ≤ 5) : okM 4 5 [.cnt k n] := ⟨by simp, okM_s h⟩
theorem okM2 {k k' : Nm} {n n' : Nat} (h : n ≤ 5) (h' : n' ≤ 5) : okM 4 5 [.cnt k n, .cnt k' n'] := ⟨by simp, fun s hs => by
  simp at hs
  rcases hs with rfl | rfl
  · exact h
  · exact h'⟩
end MK

namespace MK
open PySem DL
/-! ## how far two masks are alike -/
def longL (f g : Mask) : Nat := match diffL f g with
  | none => 99
  | some l => l.length
theorem bnd_le {f g : Mask} (hf : okM 4 5 f) (hg : okM 4 5 g) : bnd [f, g] ≤ 42 := by
  rw [bnd_two]
  have := sumM_le hf
  have := sumM_le hg
  omega
theorem long_le {f g : Mask} (hf : okM 4 5 f) (hg : okM 4 5 g) : longL f g ≤ 99 := by
  unfold longL
  cases h : diffL f g with
  | none => exact Nat.le_refl _
  | some l =>
    have := (diffL_some h).1.2.2
    have := bnd_le hf hg
    show l.length ≤ 99
    omega
theorem long_lt {f g : Mask} {n : Nat} (h : n < longL f g) : templ f n = templ g n := by
  unfold longL at h
  cases hd : diffL f g with
  | none => exact diffL_none.mp hd n
  | some l =>
    rw [hd] at h
    exact (diffL_some hd).2.2 n h
theorem long_at {f g : Mask} (h : longL f g < 99) : templ f (longL f g) ≠ templ g (longL f g) := by
  unfold longL at h ⊢
  cases hd : diffL f g with
  | none => rw [hd] at h; exact absurd h (by decide)
  | some l =>
    intro e
    have h1 := diffL_some hd
    exact h1.2.1 (outs_of h1.1.1 e)
theorem long_tri {f g h : Mask} (hf : okM 4 5 f) (hg : okM 4 5 g) (hh : okM 4 5 h) : longL f h ≥ min (longL f g) (longL g h) := by
  refine Nat.le_of_not_lt fun c => ?_
  have h1 := long_le hf hg
  exact long_at (f := f) (g := h) (by omega) ((long_lt (f := f) (g := g) (by omega)).trans (long_lt (by omega)))
theorem long_comm {f g : Mask} (hf : okM 4 5 f) (hg : okM 4 5 g) : longL f g = longL g f := by
  have a := long_le hf hg
  have b := long_le hg hf
  rcases Nat.lt_trichotomy (longL f g) (longL g f) with h | h | h
  · exact absurd (long_lt h).symm (long_at (by omega))
  · exact h
  · exact absurd (long_lt h).symm (long_at (by omega))
theorem tri_sorted {x y z : Nat} (h1 : z ≥ min x y) (h2 : x ≥ min y z) (h3 : y ≥ min x z) {ns : List Int} (p : ns.Perm [(x : Int), y, z]) (hs : ns.Pairwise (· ≤ ·)) : ∃ i j, ns = [i, i, j] := by
  rcases Nat.lt_trichotomy x y with c | c | c
  · have e : z = x := by omega
    subst e
    refine ⟨z, y, sorted_one (p.trans ?_) hs ?_⟩
    · exact (List.Perm.swap _ _ _).symm.trans (List.Perm.swap _ _ _) |>.trans ((List.Perm.swap _ _ _).cons _)
    · simp; omega
  · subst c
    refine ⟨x, z, sorted_one p hs ?_⟩
    simp; omega
  · have e : z = y := by omega
    subst e
    refine ⟨z, x, sorted_one (p.trans ?_) hs ?_⟩
    · exact (List.Perm.swap _ _ _).trans ((List.Perm.swap _ _ _).cons _)
    · simp; omega
theorem nodup_sub {l m : List Nat} (hd : l.Nodup) (h : ∀ x ∈ l, x ∈ m) : l.length ≤ m.length := by
  induction l generalizing m with
  | nil => exact Nat.zero_le _
  | cons x l ih =>
    have hd := List.nodup_cons.mp hd
    have hx := h x List.mem_cons_self
    have h1 := ih (m := m.erase x) hd.2 fun y hy => by
      have hne : y ≠ x := fun e => hd.1 (e ▸ hy)
      exact (List.mem_erase_of_ne hne).mpr (h y (List.mem_cons_of_mem _ hy))
    rw [List.length_erase_of_mem hx] at h1
    have := List.length_pos_of_mem hx
    rw [List.length_cons]
    omega
theorem grp_same {r q : Rel} {n l : Nat} (h : ∀ i, i ∈ shownL r n ↔ i ∈ shownL q n) : grpN r n l = grpN q n l := by
  unfold grpN
  have e : (once (shownL r n)).length = (once (shownL q n)).length := Nat.le_antisymm
    (nodup_sub (once_nodup _) fun x hx => (once_mem _ x).mpr ((h x).mp ((once_mem _ x).mp hx)))
    (nodup_sub (once_nodup _) fun x hx => (once_mem _ x).mpr ((h x).mpr ((once_mem _ x).mp hx)))
  rw [e]
theorem same_of_diff {f g : Mask} (h : diffL f g = none) : sameM f g := fun s hs => diffL_none_runs h hs
theorem templ_app {f g : Mask} (m : Mask) (h : ∀ n, templ f n = templ g n) (n : Nat) : templ (f ++ m) n = templ (g ++ m) n := by
  have e : ∀ k : Mask, templ (k ++ m) n = runR m (templ k n) := fun k => List.foldl_append
  rw [e, e, h]
end MK

namespace DL
open PySem PySem.Spec PyProof.Rows L2
/-! ## a dict is locked for good -/
def tLockF (t : TS) : TS := fun D σ H => ∃ d u, H d = some u ∧ Mut (some u) ∧ ∀ od, t D σ (upd H d (.frz od u))
theorem ps_lockF {X : Cx} {st : Stmt} {t : TS} (h : PS X st t) : PS X st (tLockF t) := by
  refine ⟨fun pins s σ H D I hw => ?_⟩
  obtain ⟨d, u, hd, mu, hw⟩ := hw
  obtain ⟨od, I1⟩ := I.lock hd mu
  exact h.run pins s σ _ _ I1 (hw od)
theorem Wd.lockD {K : PySem.W.Frag} {e : En} {F H : Hp} {σ : L2.St} {S : List Sl} (w : Wd K e F H σ S) {i : Nat} {a : Addr} {ds : List (PyData × PyData)} {kvs : List (Key × V)} (h : S[i]? = some (.own true a (.dct ds))) (hk : H a = some (.dK kvs)) (hr : RepK K F kvs ds) (od : Obj) :
    Wd K e (upd F a (.frz od (.dK kvs))) (upd H a (.frz od (.dK kvs))) σ (S.set i (.dat (.dict ((.bool true, .none) :: ds)))) := by
  obtain ⟨h1, h2, h3, _⟩ := w.slots i _ h
  have h3 : e.H0 a = none := h3
  have hi : i < S.length := (List.getElem?_eq_some_iff.mp h).1
  exact {
    sub := same_both w.sub
    f0 := w.f0.trans (same_new h2)
    keep := fun b u q no => by
      rw [upd_ne (ne_of_none q h3)]
      exact w.keep b u q no
    live := fun b q => by
      by_cases hb : b = a
      · subst hb
        rw [upd_same]
        exact fun z => nomatch z
      · rw [upd_ne hb]
        exact w.live b q
    unf := fun b q1 q2 => by
      have hb : b ≠ a := fun z => by
        subst z
        exact q1 h3
      rw [upd_ne hb]
      exact w.unf b q1 q2
    len := by simp [w.len]
    slots := fun j s q => by
      rcases get_set q with ⟨rfl, rfl, _⟩ | ⟨hj, q⟩
      · exact ⟨_, h1, .dl upd_same (hr.mono (same_new h2))⟩
      · have z := w.slots j s q
        cases s with
        | no => trivial
        | dat d =>
          obtain ⟨v, z1, z2⟩ := z
          exact ⟨v, z1, z2.mono (same_new h2)⟩
        | own n b x =>
          have hb : b ≠ a := w.sep j i n b x true a _ hj q h
          refine ⟨z.1, ?_, z.2.2.1, z.2.2.2.mono (same_new h2) fun y hy => ?_⟩
          · rw [upd_ne hb]
            exact z.2.1
          · rw [upd_ne hb]
            exact hy
    sep := fun j k n b x l c y hjk q1 q2 => by
      rcases get_set q1 with ⟨_, z, _⟩ | ⟨_, q1⟩
      · cases z
      rcases get_set q2 with ⟨_, z, _⟩ | ⟨_, q2⟩
      · cases z
      exact w.sep j k n b x l c y hjk q1 q2 }
section
variable {K : PySem.W.Frag} {S : List Sl} {R : Vx → List Sl → Prop} {RO : Own → List Sl → Prop} {RI : List PyData → List Sl → Prop} {ta tb te : TE} {P : Po}
theorem ss_lockF {t : TS} {i : Nat} {a : Addr} {es : List (Key × PyData)} (h : S[i]? = some (.own true a (.dct (dKs es)))) (q : SS K t (S.set i (.dat (lckK es))) P) : SS K (tLockF t) S P := fun e F H σ D w n r b c => by
  obtain ⟨h1, h2, h3, kvs, h4, h5⟩ := w.slots i _ h
  refine ⟨a, .dK kvs, h4, trivial, fun od => ?_⟩
  have w' := w.lockD h h4 h5 od
  have m : Same F (upd F a (.frz od (.dK kvs))) := same_new h2
  exact q e _ _ σ D w' (fun S' F' H' σ' w1 m1 z => n S' F' H' σ' w1 (m.trans m1) z) (fun v d S' F' H' σ' w1 m1 r1 z => r v d S' F' H' σ' w1 (m.trans m1) r1 z) (fun S' F' H' σ' w1 m1 z => b S' F' H' σ' w1 (m.trans m1) z) (fun S' F' H' σ' w1 m1 z => c S' F' H' σ' w1 (m.trans m1) z)
/-- locked data, read -/
theorem rep_lck {F : Hp} {v : V} {es : List (Key × PyData)} (r : Rep K F v (lckK es)) : ∃ a o kvs, v = .ref a ∧ F a = some (.frz o (.dK kvs)) ∧ RepE K F kvs es := by
  have r : Rep K F v (.dict ((.bool true, .none) :: dKs es)) := r
  generalize e0 : ((PyData.bool true, PyData.none) :: dKs es) = z at r
  cases r with
  | dk h1 r1 =>
    subst e0
    generalize e1 : (PyData.bool true, PyData.none) :: dKs es = z at r1
    cases r1 with
    | nil => cases e1
    | @cons k v vs d ds r t =>
      have e2 := congrArg Prod.fst (List.cons.inj e1).1
      cases k <;> cases e2
  | dt h1 r1 => cases e0
  | dl h1 r1 =>
    cases e0
    exact ⟨_, _, _, rfl, h1, repK_inv r1⟩
theorem RepE.at {κ : Type} [DecidableEq κ] {F : Hp} {kvs : List (κ × V)} {es : List (κ × PyData)} (r : RepE K F kvs es) : ∀ {i : Nat} {k : κ} {v : V}, kvs[i]? = some (k, v) → ∃ d, es[i]? = some (k, d) ∧ Rep K F v d := by
  induction r with
  | nil => intro i k v h; simp at h
  | cons h0 _ ih =>
    intro i k v h
    cases i with
    | zero =>
      have h : some _ = some (k, v) := h
      cases h
      exact ⟨_, rfl, h0⟩
    | succ i => exact ih (by simpa using h)
/-- for k in d -/
theorem ei_keys (h : EE K te S fun x S1 => ∃ es, x = .dat (lckK es) ∧ RI (es.map fun p => kD p.1) S1) : EI K (iKeys te) S RI := fun e F H σ w Q k => h e F H σ w _ fun v x S1 F1 H1 w1 m1 r1 ⟨es, e1, q⟩ => by
  subst e1
  obtain ⟨a, o, kvs, rfl, ha, r⟩ := rep_lck r1
  refine ⟨a, o, rfl, .inl ⟨kvs, w1.sub _ _ ha, k _ _ S1 F1 H1 w1 m1 ⟨fun i F H m1 m2 hi => ⟨m2 _ _ (m1 _ _ ha), by rw [r.length]; simpa using hi⟩, fun F H m1 m2 => ⟨m2 _ _ (m1 _ _ ha), by rw [r.length]; simp⟩, fun i F H x H' m1 m2 hi hy => ?_⟩ q⟩⟩
  obtain ⟨e2, kk, v, hk, rfl⟩ := hy
  obtain ⟨d, hd, rd⟩ := r.at hk
  refine ⟨kD kk, by rw [List.getElem?_map, hd]; rfl, .inl ⟨e2, ?_⟩⟩
  cases kk
  · exact .int _
  · exact .str _
/-- for k, v in d.items() -/
theorem ei_items (h : EE K te S fun x S1 => ∃ es, x = .dat (lckK es) ∧ RI (es.map fun p => .tuple [kD p.1, p.2]) S1) : EI K (iItems te) S RI := fun e F H σ w Q k => h e F H σ w _ fun v x S1 F1 H1 w1 m1 r1 ⟨es, e1, q⟩ => by
  subst e1
  obtain ⟨a, o, kvs, rfl, ha, r⟩ := rep_lck r1
  refine ⟨a, o, kvs, rfl, w1.sub _ _ ha, k _ _ S1 F1 H1 w1 m1 ⟨fun i F H m1 m2 hi => ⟨m2 _ _ (m1 _ _ ha), by rw [r.length]; simpa using hi⟩, fun F H m1 m2 => ⟨m2 _ _ (m1 _ _ ha), by rw [r.length]; simp⟩, fun i F H x H' m1 m2 hi hy => ?_⟩ q⟩
  obtain ⟨T, kk, v, hk, rfl, hT, rfl⟩ := hy
  obtain ⟨d, hd, rd⟩ := r.at hk
  have nf : F T = none := m2.free hT
  refine ⟨.tuple [kD kk, d], by rw [List.getElem?_map, hd]; rfl, .inr ⟨T, _, hT, rfl, .tup (.inl upd_same) (.cons ?_ (.cons (rd.mono (m1.trans (same_new nf))) .nil))⟩⟩
  cases kk
  · exact .int _
  · exact .str _
/-- d.get(k) -/
theorem ee_get1 (h : EE K ta S fun x S1 => ∃ es, DckAt S1 es x ∧ EE K tb S1 fun y S2 => ∃ k, y = .dat (kD k) ∧ DckAt S2 es x ∧ R (.dat ((getE es k).getD .none)) S2) : EE K (tDGet1 ta tb) S R := fun e F H σ w Q kk =>
  h e F H σ w _ fun v x S1 F1 H1 w1 m1 r1 ⟨es, hx, q1⟩ => by
    obtain ⟨a, kvs, rfl, ha, r⟩ := hx.get w1 r1
    refine ⟨a, rfl, .inl ⟨kvs, ha⟩, q1 e F1 H1 σ w1 _ fun u y S2 F2 H2 w2 m2 r2 ⟨k, e2, hx2, q⟩ => ?_⟩
    subst e2
    have e1 := rep_key r2
    subst e1
    have r1' : RepX K F2 σ (.ref a) x := by
      cases x with
      | dat d => exact Rep.mono m2 r1
      | ptr i => exact r1
    obtain ⟨a', kvs2, e3, ha2, r'⟩ := hx2.get w2 r1'
    cases e3
    obtain ⟨o, g, h1, h2⟩ := dk_get ha2 r' k
    refine ⟨o, g, ?_⟩
    cases hg : getE es k with
    | none =>
      rw [hg] at h1 q
      cases o with
      | some v => cases h1
      | none => exact kk _ (.dat .none) S2 F2 H2 w2 (m1.trans m2) .non q
    | some d =>
      rw [hg] at q
      obtain ⟨v, rfl, hv⟩ := h2 d hg
      exact kk _ (.dat d) S2 F2 H2 w2 (m1.trans m2) hv q
/-- d.setdefault(k, v), an owned dict -/
theorem ee_setdK {i : Nat} {ty tx : TE} {m0 : Bool} {a0 : Addr} {ds0 : List (PyData × PyData)} (g0 : S[i]? = some (.own m0 a0 (.dct ds0))) (h : EE K ty S fun y S1 => EE K tx S1 fun z S2 => ∃ (k : Key) (d : PyData) (m : Bool) (a : Addr) (es : List (Key × PyData)), y = .dat (kD k) ∧ z = .dat d ∧ S2[i]? = some (.own m a (.dct (dKs es))) ∧ es.length ≤ 1000000 ∧
    (∀ d', getE es k = some d' → R (.dat d') S2) ∧ (getE es k = none → R (.dat d) (S2.set i (.own m a (.dct (dKs (putE es k d))))))) : EE K (tDSetd (tVar i) ty tx) S R := fun e F H σ w Q kk => by
  obtain ⟨h1, _, _, kvs0, h3, _⟩ := w.slots i _ g0
  refine ⟨_, h1, a0, rfl, .inl ⟨kvs0, .inl h3⟩, h e F H σ w _ fun u y S1 F1 H1 w1 m1 r1 q1 => q1 e F1 H1 σ w1 _ fun u2 z S2 F2 H2 w2 m2 r2 ⟨k, d, m, a, es, e1, e2, g, hl, q3, q4⟩ => ?_⟩
  subst e1 e2
  have e1 := rep_key r1
  subst e1
  obtain ⟨g1, _, _, kvs, g3, g4⟩ := w2.slots i _ g
  have e3 : a0 = a := by
    rw [h1] at g1
    exact V.ref.inj (Option.some.inj (Option.some.inj g1))
  subst e3
  have g5 := repK_inv g4
  refine ⟨kvs, k, g3, rfl, by rw [g5.length, sizeLine_eq]; omega, fun v hv => ?_, fun hn => ?_⟩
  · rcases g5.get k with ⟨x1, x2⟩ | ⟨v', d', x1, x2, x3⟩
    · rw [x1] at hv; cases hv
    · rw [x1] at hv
      cases hv
      exact kk _ (.dat d') S2 F2 H2 w2 (m1.trans m2) x3 (q3 d' x2)
  · rcases g5.get k with ⟨x1, x2⟩ | ⟨v', d', x1, x2, x3⟩
    · exact kk _ (.dat d) _ F2 _ (w2.writeOwn (p := .dct _) g ⟨_, upd_same, (g5.put k r2).k⟩) (m1.trans m2) r2 (q4 x2)
    · rw [x1] at hn; cases hn
/-- a dict comprehension that changes nothing else -/
theorem n_dmap {g : TG} {wi : TI} {tk tv : TE} {vs : List Nat} (hg : GW g vs) (h : EI K wi S fun ds S1 => wipeS S1 vs = S1 ∧ ds.length ≤ 1000000 ∧ ∃ ps : List (Key × PyData), ps.length = ds.length ∧
    (∀ (i : Nat) (d : PyData) (p : Key × PyData), ds[i]? = some d → ps[i]? = some p → GG K g d S1 fun S3 => EE K tk S3 fun x S4 => x = .dat (kD p.1) ∧ EE K tv S4 fun y S5 => y = .dat p.2 ∧ wipeS S5 vs = S1) ∧
    RO (.dct (dKs (ps.foldl (fun es p => putE es p.1 p.2) []))) S1) : EN K (tDc wi g tYes tk tv vs) S RO := fun e F H σ w Q k =>
  h e F H σ w _ fun J ds S1 F1 H1 w1 m1 ⟨go, stop, yld⟩ ⟨hw, hn, ps, hps, step, fin⟩ => by
    intro D nD
    have n0 : e.H0 D = none := w1.n0 nD
    have f0 : e.F0 D = none := (w1.f0.trans w1.sub).free nD
    have hlen : ∀ (ps : List (Key × PyData)) (es : List (Key × PyData)), (ps.foldl (fun es p => putE es p.1 p.2) es).length ≤ es.length + ps.length := by
      intro ps
      induction ps with
      | nil => intro es; exact Nat.le_refl _
      | cons p ps ih =>
        intro es
        have h1 := ih (putE es p.1 p.2)
        have h2 : (putE es p.1 p.2).length ≤ es.length + 1 := by
          unfold putE
          split <;> simp
        rw [List.foldl_cons, List.length_cons]
        omega
    refine ⟨fun i m H => m = ds.length - i ∧ i ≤ ds.length ∧ ∃ F accV, Wd K e F H (wipe σ vs) S1 ∧ Same F1 F ∧ H D = some (.dK accV) ∧ RepE K F accV ((ps.take i).foldl (fun es p => putE es p.1 p.2) []) ∧ F D = none ∧ (∀ (i : Nat) n b p, S1[i]? = some (.own n b p) → b ≠ D),
      ⟨ds.length, by omega, by omega, F1, [], ?_, Same.refl _, upd_same, .nil, w1.sub.free nD, w1.no nD⟩, ?_⟩
    · have z := (w1.fresh (o := .dK []) nD).wipe vs
      rw [hw] at z
      exact z
    rintro i m H2 ⟨rfl, hi, F2, accV, w2, m2, hD, rA, nf, no⟩
    by_cases hlt : i < ds.length
    · refine .inr ⟨go i F2 H2 m2 w2.sub hlt, fun H => ∃ F accV, Wd K e F H (wipe σ vs) S1 ∧ Same F1 F ∧ H D = some (.dK accV) ∧ RepE K F accV ((ps.take (i + 1)).foldl (fun es p => putE es p.1 p.2) []) ∧ F D = none ∧ (∀ (i : Nat) n b p, S1[i]? = some (.own n b p) → b ≠ D),
        fun H' z => ⟨ds.length - (i + 1), by omega, rfl, hlt, z⟩, fun x H3 hy => ?_⟩
      obtain ⟨d, hd, hx⟩ := yld i F2 H2 x H3 m2 w2.sub hlt hy
      have hp : ps[i]? = some ps[i] := List.getElem?_eq_getElem (by omega)
      have main : ∀ F3, Wd K e F3 H3 (wipe σ vs) S1 → Same F2 F3 → H3 D = some (.dK accV) → F3 D = none → Rep K F3 x d → g x (wipe σ vs) H3 fun σ2 H2 => wipe σ2 vs = wipe σ vs ∧ tYes σ2 H2 fun b H3 => if b = true then tk σ2 H3 fun y H4 => tv σ2 H4 fun z H5 => ∃ kvs k, y = kV k ∧ H5 D = some (.dK kvs) ∧ kvs.length < sizeLine ∧
          (∃ F accV, Wd K e F (upd H5 D (.dK (putK kvs k z))) (wipe σ vs) S1 ∧ Same F1 F ∧ (upd H5 D (.dK (putK kvs k z))) D = some (.dK accV) ∧ RepE K F accV ((ps.take (i + 1)).foldl (fun es p => putE es p.1 p.2) []) ∧ F D = none ∧ (∀ (i : Nat) n b p, S1[i]? = some (.own n b p) → b ≠ D))
          else (∃ F accV, Wd K e F H3 (wipe σ vs) S1 ∧ Same F1 F ∧ H3 D = some (.dK accV) ∧ RepE K F accV ((ps.take (i + 1)).foldl (fun es p => putE es p.1 p.2) []) ∧ F D = none ∧ (∀ (i : Nat) n b p, S1[i]? = some (.own n b p) → b ≠ D)) := fun F3 w3 m3 hD3 nf3 r3 => by
        have ww := w3.with hD3 nf3 no
        have q0 := hg x (wipe σ vs) H3
        rw [wipe_wipe] at q0
        refine q0 _ (step i d ps[i] hd hp _ F3 H3 (wipe σ vs) x ww r3 _ fun S4 F4 H4 σ4 w4 m4 q4 hσ => ?_)
        unfold tYes
        refine iteT ?_
        refine q4 _ F4 H4 σ4 w4 _ fun y xx S5 F5 H5 w5 m5 r5 q5 => ?_
        obtain ⟨rfl, q5⟩ := q5
        refine q5 _ F5 H5 σ4 w5 _ fun z zz S6 F6 H6 w6 m6 r6 q6 => ?_
        obtain ⟨rfl, q6⟩ := q6
        have e1 := rep_key r5
        have w7 := w6.wipe vs
        rw [hσ, q6] at w7
        obtain ⟨w8, hD8, nf8, no8⟩ := w7.without n0 f0
        have mm : Same F2 F6 := ((m3.trans m4).trans m5).trans m6
        have hl2 := hlen (ps.take i) []
        rw [List.length_take, List.length_nil] at hl2
        refine ⟨accV, ps[i].1, e1, hD8, by rw [rA.length, sizeLine_eq]; omega, F6, _, w8.change n0 nf8 no8, m2.trans mm, upd_same, ?_, nf8, no8⟩
        rw [List.take_add_one, hp]
        show RepE K F6 _ ((ps.take i ++ [ps[i]]).foldl _ [])
        rw [List.foldl_append]
        exact (rA.mono mm).put _ r6
      rcases hx with ⟨rfl, hr⟩ | ⟨T, o, hT, rfl, hr⟩
      · exact main F2 w2 (Same.refl _) hD nf hr
      · have hTD : D ≠ T := ne_of_none hD hT
        refine main _ (w2.laid hT) (same_new (w2.sub.free hT)) ?_ ?_ hr
        · rw [upd_ne hTD]
          exact hD
        · rw [upd_ne hTD]
          exact nf
    · have e1 : i = ds.length := by omega
      subst e1
      rw [← hps, List.take_length] at rA
      exact .inl ⟨stop F2 H2 m2 w2.sub, k D (.dct _) S1 F2 H2 (w2.unwipe hw) (m1.trans m2) nf n0 ⟨accV, hD, rA.k⟩ no fin⟩
end
/-! ## sorted(d), any number of keys, all ints -/
def rSortedDU : List V → Hp → VK → Prop := fun xs H Q => ∃ (a : Addr) (kvs : List (Key × V)) (ks : List Int), xs = [.ref a] ∧ Rd H a (.dK kvs) ∧ kvs.map (·.1) = ks.map Sum.inl ∧ ks.length ≤ 1000000 ∧
    ∀ (ys : List Int) (p : Addr), ys.Perm ks → ys.Pairwise (· ≤ ·) → H p = none → Q (.ref p) (upd H p (.lst (ys.map V.int)))
theorem call_sortedDU {X : Cx} (hcalm : X.calm = true) : CallR X (.builtin "sorted") rSortedDU := by
  intro pins s σ H xs us Q I r q
  obtain ⟨a, kvs, ks, ex, hd, hks, h64, q⟩ := q
  subst ex
  obtain ⟨u, eu, rx⟩ := vals1 r
  subst eu
  cases rx
  obtain ⟨z, lo, vs, rel, dd⟩ := dk_rd I.hok hd
  obtain ⟨ep, hat⟩ := dd.dictAt
  have hkeys : vs.map (·.1) = ks.map Sum.inl := rel.keys.symm.trans hks
  have hl : vs.length = ks.length := by
    have e := congrArg List.length hkeys
    rw [List.length_map, List.length_map] at e
    exact e
  have h16 : vs.length ≤ sizeLine := by rw [hl, sizeLine_eq]; omega
  refine Calls.call_function_entry PyProof.Rows.kind_sorted PyProof.Rows.plain_sorted PyProof.Rows.entry_sorted (PyProof.Rows.args_sorted1 _) ?_
  unfold Builtin.«sorted»
  refine wpAny_bind (m := checkCount "sorted" 1 1 _) (wpAny_pure ?_)
  refine wpAny_bind (PySem.W.kdu_collect (A := X.A.in1) (PySem.W.kdl_dict (knd := mixKind X.prog X.w) (kvs := vs) (ep := ep) lo) (I.ok.hd hcalm) hat h16 fun h' tk acc hk hacc => ?_)
  have hal : acc.toList.length = ks.length := by rw [Array.length_toList, hacc.1, hl]
  have hS : IntsAre acc.toList ks := ints_each hal fun j v e => by
    obtain ⟨k, x, e1, e2⟩ := hacc.2 j v (by rw [← Array.getElem?_toList]; exact e)
    have e3 : (vs.map (·.1))[j]? = some k := by rw [List.getElem?_map, e1]; rfl
    rw [hkeys, List.getElem?_map] at e3
    cases e4 : ks[j]? with
    | none => rw [e4] at e3; cases e3
    | some y =>
      rw [e4] at e3
      have e5 : Sum.inl y = k := Option.some.inj e3
      subst e5
      rcases keyIs_shape (show keyIs (Sum.inl y) v = true from e2) with ⟨i, t, ek, ev⟩ | ⟨z, t, ek, ev⟩
      · cases ek
        exact ⟨y, t, rfl, ev⟩
      · cases ek
  have I1 : Inv X pins σ H { s with heap := h', toks := tk } := I.kept hk
  have hz : acc.toList.length ≤ sizeLine := by rw [hal, sizeLine_eq]; omega
  refine wpAny_bind (wpAny_newList ?_ hz)
  have hoL : (h'.push (seqObj "list" acc.toList.toArray 0)).get? h'.objs.size = some (seqObj "list" acc.toList.toArray 0) := Heap.get?_push_size _ rfl
  show wpAny _ _ _ _ _ { s with heap := h'.push (seqObj "list" acc.toList.toArray 0), toks := tk }
  refine wpAny_bind (wpAny_holding (wpAny_call_entry PyProof.Rows.slot_list_sort ⟨_, hoL, rfl⟩ PyProof.Rows.entry_list_sort
    (SrtO.list_sort_ord (s := { s with heap := h'.push (seqObj "list" acc.toList.toArray 0), toks := tk }) SrtO.swo_int hoL hz (fun h2 => SrtO.ints_sortable hS h2) fun out g1 g2 => ⟨_, rfl, ?_⟩) (PyProof.Rows.args_list_sort _)))
  obtain ⟨k1, k2, k3⟩ := SrtO.ints_out hS g1 g2
  obtain ⟨e', he'⟩ := PyProof.Rows.sortedHeap_at (vs := acc.toList) (out := out.toArray) hoL
  have hlen : ((out.map SrtO.iv).map V.int).length ≤ sizeLine := by
    rw [List.length_map, k2.length_eq, sizeLine_eq]
    omega
  refine wpAny_pure ⟨_, rfl, .ref h'.objs.size, upd H h'.objs.size (.lst ((out.map SrtO.iv).map V.int)), I1.laid (t' := tk) (fun b u e => ?_) (Nat.le_refl _)
    (show ObjOk X.prog X.w _ _ _ (.lst ((out.map SrtO.iv).map V.int)) from ⟨hlen, out, e', vals_of_ints k1, he'⟩), rfl, q _ _ k2 k3 (I1.hok.fresh (Nat.le_refl _))⟩
  have hb : b < h'.objs.size := Heap.lt_size e
  rw [PyProof.Rows.sortedHeap_old (Nat.ne_of_lt hb) (by rw [size_push']; exact Nat.lt_succ_of_lt hb)]
  exact Heap.get?_push_of_some _ e
/-! ## list(d.values()) -/
def valsObj (d : Addr) : Obj := { cls := .type "dict_values", data := .fields #[.ref d] }
def valsO (p d : Addr) : HO := .ext fun h => h.get? p = some (valsObj d)
theorem valsO_ok {P : Program} {w : World} {H : Hp} {h : Heap} {p d : Addr} (e : h.get? p = some (valsObj d)) : ObjOk P w H h p (valsO p d) := ⟨e, ⟨_, e⟩, fun h1 h2 q k => k _ q⟩
def tVals (td : TE) : TE := fun σ H Q => td σ H fun x H1 => ∃ a kvs, x = .ref a ∧ Rd H1 a (.dK kvs) ∧ ∀ p, H1 p = none → Q (.ref p) (upd H1 p (valsO p a))
theorem pe_vals {X : Cx} {e : Expr} {td : TE} {apos cpos : Pos} (he : PE X e td) (hbase : attributeBase e "values" X.env (eval e X.env) = eval e X.env := by rfl) (hline : (apos.endLine == cpos.line) = true := by rfl) : PE X (.Call (.Attribute e "values" apos) [] [] cpos) (tVals td) := by
  refine ⟨fun pins s σ H Q I h => ?_⟩
  refine wpAny_Call_method (T := "dict") (id := "dict.values") hbase rfl hline PySem.F.plainAttrs_dict PySem.F.slot_dict_values PySem.F.type_dict_values (thn (he.run pins s σ H _ I h) fun u s1 ⟨x, H1, I1, rx, d, kvs, ex, hd, q⟩ => ?_)
  subst ex
  obtain rfl : u = Value.ref d := rx
  obtain ⟨z, hs, vs, rel, dof⟩ := dk_rd I1.hok hd
  refine ⟨dof.typeIs, dof.mapOf.noDict, ?_⟩
  show wpAny _ _ (callWith cpos (.builtin "dict.values") [.ref d] [] []) _ X.xe s1
  refine method_meetsIn PySem.F.slot_dict_values PySem.F.entry_dict_values rfl (PySem.evalArgs_none ⟨rfl, dof.typeIs, PySem.F.args_dict_values_1 _, _, meets_dict_values (mixKind X.prog X.w) d hs, ⟨vs, dof⟩, ?_⟩)
  exact ⟨.ref s1.heap.objs.size, _, I1.laid (t' := s1.toks) (fun b o q => Heap.get?_push_of_some _ q) (Nat.le_refl _) (valsO_ok (Heap.get?_push_size _ rfl)), rfl, q _ (I1.hok.fresh (Nat.le_refl _))⟩
def rListVals : List V → Hp → VK → Prop := fun xs H Q => ∃ p a kvs, xs = [.ref p] ∧ H p = some (valsO p a) ∧ Rd H a (.dK kvs) ∧ ∀ q, H q = none → Q (.ref q) (upd H q (.lst (kvs.map (·.2))))
theorem call_list_vals {X : Cx} (hc : X.calm = true) : CallR X (.type "list") rListVals := by
  intro pins s σ H xs us Q I r h
  obtain ⟨p, a, kvs, e, hp, hk, q⟩ := h
  subst e
  obtain ⟨u, eu, rx⟩ := vals1 r
  subst eu
  obtain rfl : u = Value.ref p := rx
  obtain ⟨z, lo, vs, rk, hd⟩ := dk_rd I.hok hk
  obtain ⟨ep, hat⟩ := hd.dictAt
  have hl : kvs.length = vs.length := Paired.length rk
  have hv : s.heap.get? p = some (valsObj a) := (show ObjOk X.prog X.w H s.heap p (valsO p a) from I.hok p _ hp).1
  refine PySem.W.kdl_call (PySem.W.kdl_values (knd := mixKind X.prog X.w) (r := p) (kvs := vs) (ep := ep)) (I.ok.hd hc) ⟨⟨_, hv, rfl, rfl⟩, hat⟩ (by rw [← hl]; exact z) fun h' tk acc' c' hkeep hS hacc => ?_
  refine ⟨.ref s.heap.objs.size, upd H s.heap.objs.size (.lst (kvs.map (·.2))), I.laid hkeep (Nat.le_refl _) (show ObjOk X.prog X.w _ _ _ (.lst (kvs.map (·.2))) from ⟨?_, acc'.toList, c', ?_, ?_⟩), rfl, q _ (I.hok.fresh (Nat.le_refl _))⟩
  · rw [List.length_map]; exact z
  · have el : acc'.toList.length = acc'.size := by simp
    refine vals_of_at (by rw [List.length_map, el, hacc.1, hl]) fun j x w h1 h2 => ?_
    obtain ⟨k, hky⟩ := hacc.2 j w (by rw [← Array.getElem?_toList]; exact h2)
    obtain ⟨y, e1, e2⟩ := KV.at' rk hky
    rw [List.getElem?_map, e1] at h1
    cases h1
    exact e2
  · rw [Array.toArray_toList]
    exact hS
section
variable {K : PySem.W.Frag} {S : List Sl} {R : Vx → List Sl → Prop} {RO : Own → List Sl → Prop} {ta tb te : TE}
theorem RepE.vals {κ : Type} [DecidableEq κ] {F : Hp} {kvs : List (κ × V)} {es : List (κ × PyData)} (r : RepE K F kvs es) : Reps K F (kvs.map (·.2)) (es.map (·.2)) := by
  induction r with
  | nil => exact .nil
  | cons h _ ih => exact .cons h ih
theorem en_listVals (h : EE K te S fun x S1 => ∃ es, DckAt S1 es x ∧ RO (.lst (es.map (·.2))) S1) : EN K (tCB rListVals (tCons (tVals te) tNil)) S RO := fun e F H σ w Q k =>
  h e F H σ w _ fun v x S1 F1 H1 w1 m1 r1 ⟨es, hx, q⟩ => by
    obtain ⟨a, kvs, rfl, ha, r⟩ := hx.get w1 r1
    refine ⟨a, kvs, rfl, ha, fun p hp => ?_⟩
    have w2 := w1.fresh (o := valsO p a) hp
    have hap : a ≠ p := fun z => by
      subst z
      rcases ha with ha | ⟨o, ha⟩ <;> rw [hp] at ha <;> cases ha
    have ha2 : Rd (upd H1 p (valsO p a)) a (.dK kvs) := by
      unfold Rd
      rw [upd_ne hap]
      exact ha
    refine ⟨p, a, kvs, rfl, upd_same, ha2, fun q2 hq => ?_⟩
    exact k q2 (.lst _) S1 F1 _ (w2.fresh hq) m1 (w2.sub.free hq) (w2.n0 hq) ⟨_, upd_same, r.vals⟩ (w2.no hq) q
/-! sorted: a list of numbers, a dict -/
theorem RepE.keys {κ : Type} [DecidableEq κ] {F : Hp} {kvs : List (κ × V)} {es : List (κ × PyData)} (r : RepE K F kvs es) : kvs.map (·.1) = es.map (·.1) := by
  induction r with
  | nil => rfl
  | cons h _ ih => rw [List.map_cons, List.map_cons, ih]
theorem rbn_sortD {x : Vx} {es : List (Key × PyData)} {ks : List Int} (hx : DckAt S es x) (hk : es.map (·.1) = ks.map Sum.inl) (hn : ks.length ≤ 1000000) (q : ∀ ns' : List Int, ns'.Perm ks → ns'.Pairwise (· ≤ ·) → RO (.lst (ns'.map PyData.int)) S) : RBN K rSortedDU [x] S RO := fun e F H σ vs w rx Q k => by
  cases rx with
  | cons rx r0 =>
    cases r0
    obtain ⟨a, kvs, rfl, ha, r⟩ := hx.get w rx
    exact ⟨a, kvs, ks, rfl, ha, r.keys.trans hk, hn, fun ns' p h1 h2 hp => k p (.lst _) S F _ (w.fresh hp) (Same.refl _) (w.sub.free hp) (w.n0 hp) ⟨_, upd_same, Reps.ints ns'⟩ (w.no hp) (q ns' h1 h2)⟩
end
end DL
namespace DL
open PySem PySem.Spec PyProof.Rows L2
/-- what stands in a slot, walked -/
theorem ei_var {K : PySem.W.Frag} {S : List Sl} {RI : List PyData → List Sl → Prop} {i : Nat} {d : PyData} {ds : List PyData} (h : S[i]? = some (.dat d)) (hd : seqD d = some ds) (q : RI ds S) : EI K (iAny K (tVar i)) S RI := by
  cases d with
  | list xs =>
    cases hd
    exact ei_L (ee_var h ⟨_, rfl, q⟩)
  | tuple xs =>
    cases hd
    exact ei_T (ee_var h ⟨_, rfl, q⟩)
  | str z =>
    cases hd
    exact ei_S (ee_var h ⟨_, rfl, q⟩)
  | none => cases hd
  | bool _ => cases hd
  | int _ => cases hd
  | dict _ => cases hd
end DL

namespace MK
open PySem DL
/-! ## what an observer sees: as the program computes it -/
abbrev Lts := List (Nat × Nat)
def getN {α : Type} (es : List (Nat × α)) (i : Nat) : Option α := (es.find? fun p => decide (p.1 = i)).map (·.2)
def addC (st : Option Lts) (p : Option Nat × Nat) : Option Lts := st.bind fun es => match p.1 with
  | none => if p.2 = 42 then some es else none
  | some i => if p.2 = 42 then none else match getN es i with
    | none => some (es ++ [(i, p.2)])
    | some c => if c = p.2 then some es else none
def rowL (es : Lts) (a : List (Option Nat)) (o : List Nat) : Option Lts := (a.zip o).foldl addC (some es)
def addM (n : Nat) (st : Option Lts) (p : Mask × List Nat) : Option Lts := st.bind fun es => if (templ p.1 n).length = p.2.length then rowL es (templ p.1 n) p.2 else none
def shL (r : Rel) (outs : List (List Nat)) (n : Nat) : Option Lts := (r.zip outs).foldl (addM n) (some [])
def outsL (r : Rel) (s : List Nat) : List (List Nat) := r.map fun m => runT m s
def mostN (r : Rel) (n : Nat) : Nat := max (bnd r) n + bnd r
def fndL (r : Rel) (s : List Nat) : List (Nat × Lts) := (List.range (mostN r s.length + 1)).filterMap fun n => (shL r (outsL r s) n).map fun es => (n, es)
/-- as data -/
def kE (es : Lts) : List (L2.Key × PyData) := es.map fun p => (Sum.inl (p.1 : Int), .str (mkS [p.2]))
def fE (fs : List (Nat × Lts)) : List (L2.Key × PyData) := fs.map fun p => (Sum.inl (p.1 : Int), lckK (kE p.2))
theorem getN_cons {α : Type} (p : Nat × α) (es : List (Nat × α)) (i : Nat) : getN (p :: es) i = if p.1 = i then some p.2 else getN es i := by
  by_cases c : p.1 = i
  · simp [getN, List.find?_cons, c]
  · simp [getN, List.find?_cons, c]
theorem getE_map {α : Type} (φ : α → PyData) : ∀ (es : List (Nat × α)) (i : Nat), getE (es.map fun p => ((Sum.inl (p.1 : Int) : L2.Key), φ p.2)) (Sum.inl (i : Int)) = (getN es i).map φ
  | [], _ => rfl
  | p :: es, i => by
    rw [getN_cons]
    have ih := getE_map φ es i
    by_cases c : p.1 = i
    · rw [if_pos c]
      simp [getE, List.find?_cons, c]
    · rw [if_neg c, ← ih]
      have c2 : ¬ ((Sum.inl (p.1 : Int) : L2.Key) = Sum.inl (i : Int)) := fun z => c (by have := Sum.inl.inj z; omega)
      simp [getE, List.find?_cons, c2]
theorem getE_kE (es : Lts) (i : Nat) : getE (kE es) (Sum.inl (i : Int)) = (getN es i).map fun c => .str (mkS [c]) := getE_map (fun c => .str (mkS [c])) es i
theorem getE_fE (fs : List (Nat × Lts)) (i : Nat) : getE (fE fs) (Sum.inl (i : Int)) = (getN fs i).map fun es => lckK (kE es) := getE_map (fun es => lckK (kE es)) fs i
theorem getE_neg {α : Type} (φ : α → PyData) (es : List (Nat × α)) {i : Int} (h : i < 0) : getE (es.map fun p => ((Sum.inl (p.1 : Int) : L2.Key), φ p.2)) (Sum.inl i) = none := by
  unfold getE
  rw [Option.map_eq_none_iff, List.find?_eq_none]
  intro p hp
  obtain ⟨q, _, rfl⟩ := List.mem_map.mp hp
  have : ¬ ((Sum.inl (q.1 : Int) : L2.Key) = Sum.inl i) := fun z => by have := Sum.inl.inj z; omega
  simp [this]
theorem putE_new' {es : List (L2.Key × PyData)} {k : L2.Key} {d : PyData} (h : getE es k = none) : putE es k d = es ++ [(k, d)] := by
  unfold putE
  rw [if_neg]
  rw [List.any_eq_true]
  rintro ⟨p, hp, e⟩
  unfold getE at h
  rw [Option.map_eq_none_iff, List.find?_eq_none] at h
  exact h p hp e
theorem addC_none (xs : List (Option Nat × Nat)) : xs.foldl addC none = none := by
  induction xs with
  | nil => rfl
  | cons x xs ih => exact ih
theorem addM_none (n : Nat) (xs : List (Mask × List Nat)) : xs.foldl (addM n) none = none := by
  induction xs with
  | nil => rfl
  | cons x xs ih => exact ih
theorem foldl_take {α β : Type} (f : β → α → β) (b : β) {xs : List α} {i : Nat} {x : α} (h : xs[i]? = some x) : (xs.take (i + 1)).foldl f b = f ((xs.take i).foldl f b) x := by
  rw [List.take_add_one, h, List.foldl_append]
  rfl
theorem addC_len {st : Option Lts} {es es' : Lts} {p : Option Nat × Nat} (h0 : st = some es) (h : addC st p = some es') : es'.length ≤ es.length + 1 := by
  subst h0
  unfold addC at h
  simp only [Option.bind_some] at h
  cases hp : p.1 with
  | none =>
    rw [hp] at h
    simp only at h
    split at h
    · cases h; omega
    · cases h
  | some i =>
    rw [hp] at h
    simp only at h
    split at h
    · cases h
    · cases hg : getN es i with
      | none =>
        rw [hg] at h
        cases h
        simp
      | some c =>
        rw [hg] at h
        simp only at h
        split at h
        · cases h; omega
        · cases h
/-- from some place on downwards -/
def downN (p : Nat → Bool) : Nat → Nat
  | 0 => 0
  | n + 1 => if p n = true then downN p n else n + 1
def hasN {α : Type} (fs : List (Nat × α)) (n : Nat) : Bool := (getN fs n).isSome
def keysN {α : Type} (fs : List (Nat × α)) : List Nat := fs.map (·.1)
/-- what lengths gives -/
def lenL (r : Rel) (s : List Nat) : List Nat × Option Nat :=
  if hasN (fndL r s) (mostN r s.length) = true then ((keysN (fndL r s)).filter fun n => decide (n < downN (hasN (fndL r s)) (mostN r s.length)), some (downN (hasN (fndL r s)) (mostN r s.length))) else (keysN (fndL r s), none)
/-- sorted, without repetition -/
def srtN (ks : List Nat) : List Nat := (List.range (ks.foldr max 0 + 1)).filter fun i => decide (i ∈ ks)
def comL : List Lts → Lts
  | [] => []
  | first :: rest => ((srtN (keysN first)).filter fun i => rest.all fun row => decide (getN row i = getN first i)).map fun i => (i, (getN first i).getD 0)
def knoL (r : Rel) (s : List Nat) : Lts := comL ((fndL r s).map (·.2))
def endE (n : Nat) (es : Lts) : Lts := es.map fun p => (n - 1 - p.1, p.2)
def kfeL (r : Rel) (s : List Nat) : Lts := comL ((fndL r s).map fun p => endE p.1 p.2)
def dPs (ps : Lts) : List PyData := ps.map fun p => .tuple [.int (p.1 : Nat), .str (mkS [p.2])]
theorem places {α β γ : Type} {φ : α → β} {ψ : α → γ} {xs : List α} {i : Nat} {d : β} {e : γ} (h1 : (xs.map φ)[i]? = some d) (h2 : (xs.map ψ)[i]? = some e) : ∃ x, x ∈ xs ∧ xs[i]? = some x ∧ d = φ x ∧ e = ψ x := by
  rw [List.getElem?_map] at h1 h2
  cases h : xs[i]? with
  | none => rw [h] at h1; cases h1
  | some x =>
    rw [h] at h1 h2
    exact ⟨x, List.mem_of_getElem? h, rfl, (Option.some.inj h1).symm, (Option.some.inj h2).symm⟩
theorem place {α β : Type} {φ : α → β} {xs : List α} {i : Nat} {d : β} (h1 : (xs.map φ)[i]? = some d) : ∃ x, x ∈ xs ∧ xs[i]? = some x ∧ d = φ x := by
  obtain ⟨x, a, b, c, _⟩ := places (ψ := φ) h1 h1
  exact ⟨x, a, b, c⟩
theorem rng_at {k i : Nat} {d : PyData} (h : ((List.range k).map fun (i : Nat) => PyData.int (i : Nat))[i]? = some d) : i < k ∧ d = .int (i : Nat) := by
  rw [List.getElem?_map] at h
  have hi : i < k := by
    cases q : (List.range k)[i]? with
    | none => rw [q] at h; cases h
    | some j => simpa using (List.getElem?_eq_some_iff.mp q).1
  rw [List.getElem?_range hi] at h
  exact ⟨hi, (Option.some.inj h).symm⟩
/-! ## sorted keys -/
theorem le_foldr_max {ks : List Nat} {i : Nat} (h : i ∈ ks) : i ≤ ks.foldr max 0 := by
  induction ks with
  | nil => cases h
  | cons k ks ih =>
    rw [List.foldr_cons]
    rcases List.mem_cons.mp h with e | e
    · rw [e]; exact Nat.le_max_left _ _
    · exact Nat.le_trans (ih e) (Nat.le_max_right _ _)
theorem srtN_mem {ks : List Nat} {i : Nat} : i ∈ srtN ks ↔ i ∈ ks := by
  unfold srtN
  rw [List.mem_filter, List.mem_range, decide_eq_true_iff]
  exact ⟨fun h => h.2, fun h => ⟨Nat.lt_succ_of_le (le_foldr_max h), h⟩⟩
theorem range_sorted (n : Nat) : (List.range n).Pairwise (· < ·) := List.pairwise_lt_range
theorem srtN_sorted (ks : List Nat) : (srtN ks).Pairwise (· < ·) := (range_sorted _).filter _
theorem lt_nodup {l : List Nat} (h : l.Pairwise (· < ·)) : l.Nodup := h.imp fun {a b} z => Nat.ne_of_lt z
theorem nodup_perm {l m : List Nat} (h1 : l.Nodup) (h2 : m.Nodup) (h : ∀ i, i ∈ l ↔ i ∈ m) : l.Perm m := by
  induction l generalizing m with
  | nil =>
    cases m with
    | nil => exact .nil
    | cons x m => exact absurd ((h x).mpr List.mem_cons_self) (by simp)
  | cons x l ih =>
    have hd := List.nodup_cons.mp h1
    have hx := (h x).mp List.mem_cons_self
    have p := ih (m := m.erase x) hd.2 (h2.erase x) fun i => by
      rw [h2.mem_erase_iff]
      constructor
      · intro hi
        exact ⟨fun e => hd.1 (e ▸ hi), (h i).mp (List.mem_cons_of_mem _ hi)⟩
      · rintro ⟨a, b⟩
        rcases List.mem_cons.mp ((h i).mpr b) with e | e
        · exact absurd e a
        · exact e
    exact (p.cons x).trans (List.perm_cons_erase hx).symm
theorem srt_unique {ks : List Nat} (hd : ks.Nodup) {ys : List Int} (hp : ys.Perm (ks.map fun (i : Nat) => (i : Int))) (hs : ys.Pairwise (· ≤ ·)) : ys = (srtN ks).map fun (i : Nat) => (i : Int) := by
  refine sorted_one (hp.trans ?_) hs ?_
  · exact (nodup_perm hd (lt_nodup (srtN_sorted ks)) fun i => srtN_mem.symm).map _
  · rw [List.pairwise_map]
    exact (srtN_sorted ks).imp fun {a b} h => by omega
theorem srt_self {ks : List Nat} (hs : ks.Pairwise (· < ·)) {ys : List Int} (hp : ys.Perm (ks.map fun (i : Nat) => (i : Int))) (h : ys.Pairwise (· ≤ ·)) : ys = ks.map fun (i : Nat) => (i : Int) := by
  refine sorted_one hp h ?_
  rw [List.pairwise_map]
  exact hs.imp fun {a b} h => by omega
theorem fnd_keys (r : Rel) (s : List Nat) : (keysN (fndL r s)).Pairwise (· < ·) := by
  have e : keysN (fndL r s) = (List.range (mostN r s.length + 1)).filterMap fun n => (shL r (outsL r s) n).map fun _ => n := by
    unfold keysN fndL
    rw [List.map_filterMap]
    congr 1
    funext n
    cases shL r (outsL r s) n <;> rfl
  rw [e, List.pairwise_filterMap]
  refine (range_sorted _).imp fun {a b} h x hx y hy => ?_
  cases h1 : shL r (outsL r s) a with
  | none => rw [h1] at hx; cases hx
  | some es =>
    rw [h1] at hx
    cases h2 : shL r (outsL r s) b with
    | none => rw [h2] at hy; cases hy
    | some es' =>
      rw [h2] at hy
      cases hx
      cases hy
      exact h
theorem fnd_mem {r : Rel} {s : List Nat} {n : Nat} {es : Lts} : (n, es) ∈ fndL r s ↔ n ≤ mostN r s.length ∧ shL r (outsL r s) n = some es := by
  unfold fndL
  rw [List.mem_filterMap]
  constructor
  · rintro ⟨k, hk, e⟩
    obtain ⟨es', h1, h2⟩ := Option.map_eq_some_iff.mp e
    cases h2
    exact ⟨Nat.le_of_lt_succ (List.mem_range.mp hk), h1⟩
  · rintro ⟨h1, h2⟩
    exact ⟨n, List.mem_range.mpr (Nat.lt_succ_of_le h1), by rw [h2]; rfl⟩
theorem getN_mem {α : Type} {es : List (Nat × α)} {i : Nat} {c : α} (h : getN es i = some c) : (i, c) ∈ es := by
  unfold getN at h
  obtain ⟨p, hp, e⟩ := Option.map_eq_some_iff.mp h
  have h1 := List.mem_of_find?_eq_some hp
  have h2 := List.find?_some hp
  have h2 : p.1 = i := of_decide_eq_true h2
  subst e h2
  exact h1
theorem getN_none {α : Type} {es : List (Nat × α)} {i : Nat} : getN es i = none ↔ i ∉ keysN es := by
  unfold getN keysN
  rw [Option.map_eq_none_iff, List.find?_eq_none]
  constructor
  · intro h hm
    obtain ⟨p, hp, e⟩ := List.mem_map.mp hm
    exact h p hp (decide_eq_true e)
  · intro h p hp e
    exact h (List.mem_map.mpr ⟨p, hp, of_decide_eq_true e⟩)
theorem getN_of {α : Type} {es : List (Nat × α)} {i : Nat} {c : α} (hd : (keysN es).Nodup) (h : (i, c) ∈ es) : getN es i = some c := by
  induction es with
  | nil => cases h
  | cons p es ih =>
    rw [getN_cons]
    have hd := List.nodup_cons.mp hd
    rcases List.mem_cons.mp h with e | e
    · rw [← e, if_pos rfl]
    · rw [if_neg, ih hd.2 e]
      intro z
      exact hd.1 (List.mem_map.mpr ⟨(i, c), e, z.symm⟩)
theorem hasN_iff {α : Type} {es : List (Nat × α)} {i : Nat} : hasN es i = true ↔ i ∈ keysN es := by
  unfold hasN
  rw [Option.isSome_iff_ne_none, ne_eq, getN_none]
  exact Decidable.not_not
end MK

namespace MK
open PySem DL
/-! ## what the program computes is what is possible -/
def agr (es : Lts) (φ : Nat → Nat) : Prop := ∀ p ∈ es, φ p.1 = p.2
theorem agr_snoc {es : Lts} {i c : Nat} {φ : Nat → Nat} : agr (es ++ [(i, c)]) φ ↔ agr es φ ∧ φ i = c := by
  unfold agr
  constructor
  · intro h
    exact ⟨fun p hp => h p (List.mem_append_left _ hp), h (i, c) (by simp)⟩
  · rintro ⟨h1, h2⟩ p hp
    rcases List.mem_append.mp hp with h | h
    · exact h1 p h
    · rw [List.mem_singleton.mp h]; exact h2
def tells (st : Option Lts) (A : Prop) (φ : Nat → Nat) : Prop := match st with
  | some es => agr es φ ↔ A
  | none => ¬ A
theorem addC_tells {φ : Nat → Nat} (hφ : ∀ i, φ i ≠ 42) (es : Lts) (x : Option Nat) (c : Nat) : tells (addC (some es) (x, c)) (agr es φ ∧ cell φ x = c) φ := by
  cases x with
  | none =>
    show tells (if c = 42 then _ else _) _ φ
    by_cases hc : c = 42
    · rw [if_pos hc]
      exact ⟨fun h => ⟨h, hc.symm⟩, fun h => h.1⟩
    · rw [if_neg hc]
      exact fun h => hc h.2.symm
  | some i =>
    show tells (if c = 42 then _ else _) _ φ
    by_cases hc : c = 42
    · rw [if_pos hc]
      exact fun h => hφ i (h.2.trans hc)
    · rw [if_neg hc]
      dsimp only
      cases hg : getN es i with
      | none => exact agr_snoc
      | some d =>
        have hm := getN_mem hg
        show tells (if d = c then _ else _) _ φ
        by_cases hd : d = c
        · rw [if_pos hd]
          exact ⟨fun h => ⟨h, (h _ hm).trans hd⟩, fun h => h.1⟩
        · rw [if_neg hd]
          exact fun h => hd ((h.1 _ hm).symm.trans h.2)
theorem row_tells {φ : Nat → Nat} (hφ : ∀ i, φ i ≠ 42) : ∀ (xs : List (Option Nat × Nat)) (es : Lts), tells (xs.foldl addC (some es)) (agr es φ ∧ ∀ p ∈ xs, cell φ p.1 = p.2) φ
  | [], es => ⟨fun h => ⟨h, fun p hp => by cases hp⟩, fun h => h.1⟩
  | (x, c) :: xs, es => by
    have h1 := addC_tells hφ es x c
    rw [List.foldl_cons]
    cases h : addC (some es) (x, c) with
    | none =>
      rw [addC_none]
      rw [h] at h1
      exact fun z => h1 ⟨z.1, z.2 (x, c) List.mem_cons_self⟩
    | some es' =>
      rw [h] at h1
      have h2 := row_tells hφ xs es'
      have e : (agr es φ ∧ ∀ p ∈ (x, c) :: xs, cell φ p.1 = p.2) ↔ (agr es' φ ∧ ∀ p ∈ xs, cell φ p.1 = p.2) := by
        have h1 : agr es' φ ↔ agr es φ ∧ cell φ x = c := h1
        rw [h1]
        constructor
        · rintro ⟨a, b⟩
          exact ⟨⟨a, b (x, c) List.mem_cons_self⟩, fun p hp => b p (List.mem_cons_of_mem _ hp)⟩
        · rintro ⟨⟨a, b⟩, d⟩
          refine ⟨a, fun p hp => ?_⟩
          rcases List.mem_cons.mp hp with e | e
          · rw [e]; exact b
          · exact d p e
      cases h3 : xs.foldl addC (some es') with
      | none =>
        rw [h3] at h2
        exact fun z => h2 (e.mp z)
      | some es2 =>
        rw [h3] at h2
        have h2 : agr es2 φ ↔ _ := h2
        exact h2.trans e.symm
theorem zip_cells {φ : Nat → Nat} : ∀ (a : List (Option Nat)) (o : List Nat), a.length = o.length → ((∀ p ∈ a.zip o, cell φ p.1 = p.2) ↔ a.map (cell φ) = o)
  | [], [], _ => by simp
  | [], _ :: _, h => by cases h
  | _ :: _, [], h => by cases h
  | x :: a, c :: o, h => by
    have ih := zip_cells (φ := φ) a o (Nat.succ.inj h)
    rw [List.zip_cons_cons, List.map_cons, List.cons.injEq, ← ih]
    constructor
    · intro z
      exact ⟨z (x, c) List.mem_cons_self, fun p hp => z p (List.mem_cons_of_mem _ hp)⟩
    · rintro ⟨h1, h2⟩ p hp
      rcases List.mem_cons.mp hp with e | e
      · rw [e]; exact h1
      · exact h2 p e
theorem addM_tells {φ : Nat → Nat} (hφ : ∀ i, φ i ≠ 42) (n : Nat) (es : Lts) (m : Mask) (o : List Nat) : tells (addM n (some es) (m, o)) (agr es φ ∧ (templ m n).map (cell φ) = o) φ := by
  show tells (if (templ m n).length = o.length then _ else _) _ φ
  by_cases hl : (templ m n).length = o.length
  · rw [if_pos hl]
    have h := row_tells hφ ((templ m n).zip o) es
    rw [zip_cells _ _ hl] at h
    exact h
  · rw [if_neg hl]
    exact fun z => hl (by rw [← z.2, List.length_map])
theorem sh_tells {φ : Nat → Nat} (hφ : ∀ i, φ i ≠ 42) (n : Nat) : ∀ (xs : List (Mask × List Nat)) (es : Lts), tells (xs.foldl (addM n) (some es)) (agr es φ ∧ ∀ p ∈ xs, (templ p.1 n).map (cell φ) = p.2) φ
  | [], es => ⟨fun h => ⟨h, fun p hp => by cases hp⟩, fun h => h.1⟩
  | (m, o) :: xs, es => by
    have h1 := addM_tells hφ n es m o
    rw [List.foldl_cons]
    cases h : addM n (some es) (m, o) with
    | none =>
      rw [addM_none]
      rw [h] at h1
      exact fun z => h1 ⟨z.1, z.2 (m, o) List.mem_cons_self⟩
    | some es' =>
      rw [h] at h1
      have h2 := sh_tells hφ n xs es'
      have e : (agr es φ ∧ ∀ p ∈ (m, o) :: xs, (templ p.1 n).map (cell φ) = p.2) ↔ (agr es' φ ∧ ∀ p ∈ xs, (templ p.1 n).map (cell φ) = p.2) := by
        have h1 : agr es' φ ↔ agr es φ ∧ (templ m n).map (cell φ) = o := h1
        rw [h1]
        constructor
        · rintro ⟨a, b⟩
          exact ⟨⟨a, b (m, o) List.mem_cons_self⟩, fun p hp => b p (List.mem_cons_of_mem _ hp)⟩
        · rintro ⟨⟨a, b⟩, d⟩
          refine ⟨a, fun p hp => ?_⟩
          rcases List.mem_cons.mp hp with e | e
          · rw [e]; exact b
          · exact d p e
      cases h3 : xs.foldl (addM n) (some es') with
      | none =>
        rw [h3] at h2
        exact fun z => h2 (e.mp z)
      | some es2 =>
        rw [h3] at h2
        have h2 : agr es2 φ ↔ _ := h2
        exact h2.trans e.symm
theorem zip_outs (r : Rel) (s : List Nat) : r.zip (outsL r s) = r.map fun m => (m, runT m s) := by
  unfold outsL
  induction r with
  | nil => rfl
  | cons m r ih => rw [List.map_cons, List.zip_cons_cons, ih, List.map_cons]
/-- the strings of a length that are confused with s -/
theorem sh_conf {r : Rel} {s t : List Nat} (ht : okT t) : tells (shL r (outsL r s) t.length) (conf r s t) fun i => t.getD i 97 := by
  have h := sh_tells (okT_get ht) t.length (r.zip (outsL r s)) []
  have e : (agr [] (fun i => t.getD i 97) ∧ ∀ p ∈ r.zip (outsL r s), (templ p.1 t.length).map (cell fun i => t.getD i 97) = p.2) ↔ conf r s t := by
    rw [zip_outs]
    constructor
    · rintro ⟨_, h⟩ m hm
      have := h (m, runT m s) (List.mem_map.mpr ⟨m, hm, rfl⟩)
      rw [run_text ht]
      exact this.symm
    · intro h
      refine ⟨(fun p hp => by cases hp), fun p hp => ?_⟩
      obtain ⟨m, hm, rfl⟩ := List.mem_map.mp hp
      have := h m hm
      rw [run_text ht] at this
      exact this.symm
  unfold shL
  cases h3 : (r.zip (outsL r s)).foldl (addM t.length) (some []) with
  | none =>
    rw [h3] at h
    exact fun z => h (e.mpr z)
  | some es =>
    rw [h3] at h
    have h : agr es _ ↔ _ := h
    exact h.trans e
/-! keys -/
theorem addC_keys {es es' : Lts} {x : Option Nat} {c : Nat} (h : addC (some es) (x, c) = some es') : es' = es ∨ ∃ i, x = some i ∧ c ≠ 42 ∧ i ∉ keysN es ∧ es' = es ++ [(i, c)] := by
  cases x with
  | none =>
    have h : (if c = 42 then some es else none) = some es' := h
    split at h
    · cases h; exact .inl rfl
    · cases h
  | some i =>
    have h : (if c = 42 then none else match getN es i with
      | none => some (es ++ [(i, c)])
      | some d => if d = c then some es else none) = some es' := h
    split at h
    · cases h
    · rename_i hc
      cases hg : getN es i with
      | none =>
        rw [hg] at h
        cases h
        exact .inr ⟨i, rfl, hc, getN_none.mp hg, rfl⟩
      | some d =>
        rw [hg] at h
        have h : (if d = c then some es else none) = some es' := h
        split at h
        · cases h; exact .inl rfl
        · cases h
def goodE (n : Nat) (C : Nat → Prop) (es : Lts) : Prop := (keysN es).Nodup ∧ ∀ p ∈ es, p.1 < n ∧ C p.2
theorem row_good {n : Nat} {C : Nat → Prop} : ∀ (xs : List (Option Nat × Nat)) (es es' : Lts), (∀ i c, (some i, c) ∈ xs → i < n ∧ (c ≠ 42 → C c)) → goodE n C es → xs.foldl addC (some es) = some es' → goodE n C es'
  | [], es, es', _, g, h => by cases h; exact g
  | (x, c) :: xs, es, es', hx, g, h => by
    rw [List.foldl_cons] at h
    cases h1 : addC (some es) (x, c) with
    | none => rw [h1, addC_none] at h; cases h
    | some es1 =>
      rw [h1] at h
      refine row_good xs es1 es' (fun i c hm => hx i c (List.mem_cons_of_mem _ hm)) ?_ h
      rcases addC_keys h1 with rfl | ⟨i, rfl, hc, hi, rfl⟩
      · exact g
      · obtain ⟨a, b⟩ := hx i c List.mem_cons_self
        refine ⟨?_, fun p hp => ?_⟩
        · unfold keysN at hi ⊢
          rw [List.map_append]
          refine List.nodup_append.mpr ⟨g.1, by simp, fun y hy z hz => ?_⟩
          have hz : z = i := by simpa using hz
          rw [hz]
          exact fun e => hi (e ▸ hy)
        · rcases List.mem_append.mp hp with hp | hp
          · exact g.2 p hp
          · rw [List.mem_singleton.mp hp]
            exact ⟨a, b hc⟩
theorem sh_good {r : Rel} {s : List Nat} (hs : okT s) {n : Nat} {es : Lts} (h : shL r (outsL r s) n = some es) : goodE n (fun c => c ∈ s) es := by
  have key : ∀ (xs : List Mask) (es es' : Lts), goodE n (fun c => c ∈ s) es → (xs.map fun m => (m, runT m s)).foldl (addM n) (some es) = some es' → goodE n (fun c => c ∈ s) es' := by
    intro xs
    induction xs with
    | nil => intro es es' g h; cases h; exact g
    | cons m xs ih =>
      intro es es' g h
      rw [List.map_cons, List.foldl_cons] at h
      cases h1 : addM n (some es) (m, runT m s) with
      | none => rw [h1, addM_none] at h; cases h
      | some es1 =>
        rw [h1] at h
        refine ih es1 es' ?_ h
        have h1 : (if (templ m n).length = (runT m s).length then rowL es (templ m n) (runT m s) else none) = some es1 := h1
        split at h1
        · refine row_good _ es es1 (fun i c hm => ?_) g h1
          have hz := List.of_mem_zip hm
          refine ⟨templ_lt hz.1, fun hc => ?_⟩
          rcases runG_mem m s hz.2 with e | e
          · exact absurd e hc
          · exact e
        · cases h1
  unfold shL at h
  rw [zip_outs] at h
  exact key r [] es ⟨List.nodup_nil, fun p hp => by cases hp⟩ h
/-- a possible string, the free letters chosen at will -/
def fillL (es : Lts) (χ : Nat → Nat) (n : Nat) : List Nat := (List.range n).map fun i => (getN es i).getD (χ i)
theorem fillL_len (es : Lts) (χ : Nat → Nat) (n : Nat) : (fillL es χ n).length = n := by simp [fillL]
theorem fillL_get {es : Lts} {χ : Nat → Nat} {n i : Nat} (h : i < n) : (fillL es χ n).getD i 97 = (getN es i).getD (χ i) := by
  unfold fillL
  rw [List.getD_eq_getElem?_getD, List.getElem?_map, List.getElem?_range h]
  rfl
theorem fillL_ok {r : Rel} {s : List Nat} (hs : okT s) {n : Nat} {es : Lts} (h : shL r (outsL r s) n = some es) {χ : Nat → Nat} (hχ : ∀ i, 97 ≤ χ i ∧ χ i ≤ 122) : okT (fillL es χ n) ∧ conf r s (fillL es χ n) := by
  have g := sh_good hs h
  have hT : okT (fillL es χ n) := fun c hc => by
    unfold fillL at hc
    obtain ⟨i, _, rfl⟩ := List.mem_map.mp hc
    cases hg : getN es i with
    | none => exact hχ i
    | some c => exact hs c (g.2 _ (getN_mem hg)).2
  refine ⟨hT, ?_⟩
  have t := sh_conf (r := r) (s := s) hT
  rw [fillL_len, h] at t
  refine (show agr es _ ↔ _ from t).mp fun p hp => ?_
  show (fillL es χ n).getD p.1 97 = p.2
  rw [fillL_get (g.2 p hp).1, getN_of g.1 hp]
  rfl
def poss (r : Rel) (s : List Nat) (n : Nat) : Prop := ∃ t, okT t ∧ t.length = n ∧ conf r s t
theorem sh_iff {r : Rel} {s : List Nat} (hs : okT s) {n : Nat} : (shL r (outsL r s) n).isSome = true ↔ poss r s n := by
  constructor
  · intro h
    obtain ⟨es, he⟩ := Option.isSome_iff_exists.mp h
    obtain ⟨a, b⟩ := fillL_ok hs he (χ := fun _ => 97) (fun _ => by omega)
    exact ⟨_, a, fillL_len _ _ _, b⟩
  · rintro ⟨t, a, rfl, b⟩
    have t' := sh_conf (r := r) (s := s) a
    cases h : shL r (outsL r s) t.length with
    | none => rw [h] at t'; exact absurd b t'
    | some es => rfl
theorem poss_self {r : Rel} {s : List Nat} (hs : okT s) : poss r s s.length := ⟨s, hs, rfl, fun _ _ => rfl⟩
theorem has_iff {r : Rel} {s : List Nat} (hs : okT s) {n : Nat} : hasN (fndL r s) n = true ↔ n ≤ mostN r s.length ∧ poss r s n := by
  rw [hasN_iff, ← sh_iff hs]
  unfold keysN
  rw [List.mem_map]
  constructor
  · rintro ⟨⟨k, es⟩, h1, rfl⟩
    obtain ⟨a, b⟩ := fnd_mem.mp h1
    exact ⟨a, by rw [b]; rfl⟩
  · rintro ⟨a, b⟩
    obtain ⟨es, he⟩ := Option.isSome_iff_exists.mp b
    exact ⟨(n, es), fnd_mem.mpr ⟨a, he⟩, rfl⟩
theorem self_most (r : Rel) (n : Nat) : n ≤ mostN r n := by
  unfold mostN
  omega
theorem fnd_ne {r : Rel} {s : List Nat} (hs : okT s) : fndL r s ≠ [] := fun e => by
  have := (has_iff hs).mpr ⟨self_most r s.length, poss_self hs⟩
  rw [e] at this
  cases this
theorem nodup_len {es : Lts} {n : Nat} {C : Nat → Prop} (g : goodE n C es) : es.length ≤ n := by
  have := nodup_lt n (keysN es) g.1 fun i hi => by
    obtain ⟨p, hp, rfl⟩ := List.mem_map.mp hi
    exact (g.2 p hp).1
  unfold keysN at this
  rw [List.length_map] at this
  exact this
end MK

namespace MK
open PySem DL
/-! ## lengths -/
/-- a long possible string has a middle that may be anything -/
theorem long_split {r : Rel} {s t : List Nat} (hs : okT s) (ht : okT t) (hc : conf r s t) (hl : max s.length (sumS r) < t.length) : ∃ u z v, t = u ++ z ++ v ∧ u.length + v.length ≤ sumS r ∧ z ≠ [] ∧ (okT u ∧ okT z ∧ okT v) ∧ (u.length = sumA r ∧ v.length = sumB r) ∧ ∀ z', okT z' → z' ≠ [] → conf r s (u ++ z' ++ v) := by
  have hAB := sumAB r
  have hC : ∀ f ∈ r, (gF f (sumA r) (sumB r)).isC = true := fun f hf => by
    cases e : (gF f (sumA r) (sumB r)).isC with
    | true => rfl
    | false =>
      have h1 := tie (needs_of hf) e hs ht (by omega) (hc f hf)
      have h2 := le_sum (φ := sumM) hf
      have h3 : sumM f ≤ sumS r := h2
      omega
  obtain ⟨u, z, v, rfl, hu, hv, hz⟩ := split3 (t := t) (A := sumA r) (B := sumB r) (by omega)
  obtain ⟨ou, oz, ov⟩ := okT_3 ht
  refine ⟨u, z, v, rfl, by omega, hz, ⟨ou, oz, ov⟩, ⟨hu, hv⟩, fun z' oz' hz' f hf => ?_⟩
  have n1 : (need f).1 ≤ u.length := by rw [hu]; exact (needs_of hf).1
  have n2 : (need f).2 ≤ v.length := by rw [hv]; exact (needs_of hf).2
  rw [hc f hf, kind_run ou ov oz n1 n2 hz, kind_run ou ov oz' n1 n2 hz']
  exact Sh.row_C (by rw [Sh.map_isC, hu, hv]; exact hC f hf) _ _
theorem poss_long {r : Rel} {s : List Nat} (hs : okT s) {n n' : Nat} (h : poss r s n) (hn : max s.length (sumS r) < n) (hn' : sumS r < n') : poss r s n' := by
  obtain ⟨t, ht, rfl, hc⟩ := h
  obtain ⟨u, z, v, rfl, h1, h2, ⟨ou, oz, ov⟩, _, h3⟩ := long_split hs ht hc hn
  refine ⟨u ++ List.replicate (n' - u.length - v.length) 97 ++ v, okT_of3 ou (okT_repl _) ov, ?_, h3 _ (okT_repl _) fun e => ?_⟩
  · simp only [List.length_append, List.length_replicate]
    omega
  · have := congrArg List.length e
    rw [List.length_replicate, List.length_nil] at this
    omega
theorem most_gt (r : Rel) (n : Nat) : max n (sumS r) < mostN r n := by
  unfold mostN
  rw [bnd_S]
  omega
theorem down_le (p : Nat → Bool) : ∀ n, downN p n ≤ n
  | 0 => Nat.le_refl _
  | n + 1 => by
    rw [downN]
    split
    · exact Nat.le_succ_of_le (down_le p n)
    · exact Nat.le_refl _
theorem down_all (p : Nat → Bool) : ∀ n k, downN p n ≤ k → k < n → p k = true
  | 0, k, _, h => absurd h (Nat.not_lt_zero _)
  | n + 1, k, h1, h2 => by
    rw [downN] at h1
    split at h1
    · rename_i c
      rcases Nat.lt_or_ge k n with q | q
      · exact down_all p n k h1 q
      · have : k = n := by omega
        rw [this]
        exact c
    · omega
theorem down_end (p : Nat → Bool) : ∀ n, 0 < downN p n → p (downN p n - 1) = false
  | 0, h => absurd h (Nat.lt_irrefl _)
  | n + 1, h => by
    rw [downN] at h ⊢
    split
    · rename_i c
      rw [if_pos c] at h
      exact down_end p n h
    · rename_i c
      rw [Nat.add_sub_cancel]
      simpa using c
def inL (n : Nat) (l : List Nat × Option Nat) : Prop := n ∈ l.1 ∨ ∃ k, l.2 = some k ∧ k ≤ n
/-- lengths says exactly which lengths are possible -/
theorem len_iff {r : Rel} {s : List Nat} (hs : okT s) (n : Nat) : inL n (lenL r s) ↔ poss r s n := by
  have hM := most_gt r s.length
  unfold inL lenL
  cases hh : hasN (fndL r s) (mostN r s.length) with
  | false =>
    rw [if_neg (by simp)]
    constructor
    · rintro (h | ⟨k, h, _⟩)
      · exact ((has_iff hs).mp (hasN_iff.mpr h)).2
      · cases h
    · intro h
      rcases Nat.lt_or_ge (mostN r s.length) n with q | q
      · have := poss_long hs h (n' := mostN r s.length) (by omega) (by omega)
        rw [(has_iff hs).mpr ⟨Nat.le_refl _, this⟩] at hh
        cases hh
      · exact .inl (hasN_iff.mp ((has_iff hs).mpr ⟨q, h⟩))
  | true =>
    rw [if_pos rfl]
    have hp := ((has_iff hs).mp hh).2
    have hd := down_le (hasN (fndL r s)) (mostN r s.length)
    constructor
    · rintro (h | ⟨k, h, hk⟩)
      · exact ((has_iff hs).mp (hasN_iff.mpr (List.mem_filter.mp h).1)).2
      · cases h
        rcases Nat.lt_or_ge n (mostN r s.length) with q | q
        · exact ((has_iff hs).mp (down_all _ _ n hk q)).2
        · exact poss_long hs hp (by omega) (by omega)
    · intro h
      rcases Nat.lt_or_ge n (downN (hasN (fndL r s)) (mostN r s.length)) with q | q
      · exact .inl (List.mem_filter.mpr ⟨hasN_iff.mp ((has_iff hs).mpr ⟨by omega, h⟩), decide_eq_true q⟩)
      · exact .inr ⟨_, rfl, q⟩
theorem len_sorted (r : Rel) (s : List Nat) : (lenL r s).1.Pairwise (· < ·) := by
  unfold lenL
  split
  · exact (fnd_keys r s).filter _
  · exact fnd_keys r s
theorem len_start {r : Rel} {s : List Nat} {k : Nat} (h : (lenL r s).2 = some k) : (∀ n ∈ (lenL r s).1, n < k) ∧ (0 < k → k - 1 ∉ (lenL r s).1) ∧ k ≤ mostN r s.length := by
  unfold lenL at h ⊢
  split
  · rename_i hh
    rw [if_pos hh] at h
    cases h
    refine ⟨fun n hn => of_decide_eq_true (List.mem_filter.mp hn).2, fun h0 hm => ?_, down_le _ _⟩
    have h1 := down_end _ _ h0
    have h2 := hasN_iff.mpr (List.mem_filter.mp hm).1
    rw [h1] at h2
    cases h2
  · rename_i hh
    rw [if_neg hh] at h
    cases h
theorem len_bound {r : Rel} {s : List Nat} {n : Nat} (h : n ∈ (lenL r s).1) : n ≤ mostN r s.length := by
  have key : ∀ n, n ∈ keysN (fndL r s) → n ≤ mostN r s.length := fun n hn => by
    obtain ⟨⟨k, es⟩, hp, rfl⟩ := List.mem_map.mp hn
    exact (fnd_mem.mp hp).1
  unfold lenL at h
  split at h
  · exact key n (List.mem_filter.mp h).1
  · exact key n h
/-- strictly rising lists with the same members are the same -/
theorem rising_ext {α : Type} {f : α → Nat} : ∀ {xs ys : List α}, xs.Pairwise (fun a b => f a < f b) → ys.Pairwise (fun a b => f a < f b) → (∀ x, x ∈ xs ↔ x ∈ ys) → xs = ys
  | [], [], _, _, _ => rfl
  | [], y :: ys, _, _, h => absurd ((h y).mpr List.mem_cons_self) (by simp)
  | x :: xs, [], _, _, h => absurd ((h x).mp List.mem_cons_self) (by simp)
  | x :: xs, y :: ys, h1, h2, h => by
    have a := List.pairwise_cons.mp h1
    have b := List.pairwise_cons.mp h2
    have e : x = y := by
      rcases List.mem_cons.mp ((h x).mp List.mem_cons_self) with q | q
      · exact q
      · rcases List.mem_cons.mp ((h y).mpr List.mem_cons_self) with q2 | q2
        · exact q2.symm
        · have := a.1 y q2
          have := b.1 x q
          omega
    subst e
    have irr : ∀ {z : List α}, (∀ w ∈ z, f x < f w) → x ∉ z := fun hz hm => Nat.lt_irrefl _ (hz x hm)
    rw [rising_ext a.2 b.2 fun w => ?_]
    constructor
    · intro hw
      rcases List.mem_cons.mp ((h w).mp (List.mem_cons_of_mem _ hw)) with q | q
      · exact absurd (q ▸ hw) (irr a.1)
      · exact q
    · intro hw
      rcases List.mem_cons.mp ((h w).mpr (List.mem_cons_of_mem _ hw)) with q | q
      · exact absurd (q ▸ hw) (irr b.1)
      · exact q
/-- the answer is the only one of its kind -/
theorem len_unique {r : Rel} {s : List Nat} (hs : okT s) {l : List Nat} {o : Option Nat} (h1 : l.Pairwise (· < ·)) (h2 : ∀ n, inL n (l, o) ↔ poss r s n) (h3 : ∀ k, o = some k → (∀ n ∈ l, n < k) ∧ (0 < k → k - 1 ∉ l)) : lenL r s = (l, o) := by
  have key : ∀ n, inL n (lenL r s) ↔ inL n (l, o) := fun n => (len_iff hs n).trans (h2 n).symm
  have big : ∀ l : List Nat, ∃ N, ∀ n ∈ l, n < N := fun l => ⟨l.foldr max 0 + 1, fun n hn => Nat.lt_succ_of_le (le_foldr_max hn)⟩
  have e2 : (lenL r s).2 = o := by
    cases ha : (lenL r s).2 with
    | none =>
      cases o with
      | none => rfl
      | some k =>
        obtain ⟨N, hN⟩ := big (lenL r s).1
        rcases (key (max N k)).mpr (.inr ⟨k, rfl, by omega⟩) with q | ⟨j, q, _⟩
        · have := hN _ q
          omega
        · rw [ha] at q; cases q
    | some k =>
      obtain ⟨a1, a2, _⟩ := len_start ha
      cases o with
      | none =>
        obtain ⟨N, hN⟩ := big l
        rcases (key (max N k)).mp (.inr ⟨k, ha, by omega⟩) with q | ⟨j, q, _⟩
        · have := hN _ q
          omega
        · cases q
      | some j =>
        obtain ⟨b1, b2⟩ := h3 j rfl
        rcases Nat.lt_trichotomy k j with q | q | q
        · rcases (key (j - 1)).mp (.inr ⟨k, ha, by omega⟩) with z | ⟨i, z, hz⟩
          · exact absurd z (b2 (by omega))
          · cases z; omega
        · rw [q]
        · rcases (key (k - 1)).mpr (.inr ⟨j, rfl, by omega⟩) with z | ⟨i, z, hz⟩
          · exact absurd z (a2 (by omega))
          · rw [ha] at z; cases z; omega
  refine Prod.ext (rising_ext (f := id) (len_sorted r s) h1 fun n => ?_) e2
  constructor
  · intro hn
    rcases (key n).mp (.inl hn) with q | ⟨k, q, hk⟩
    · exact q
    · have := (len_start (e2.trans q)).1 n hn
      omega
  · intro hn
    rcases (key n).mpr (.inl hn) with q | ⟨k, q, hk⟩
    · exact q
    · have := (h3 k (e2.symm.trans q)).1 n hn
      omega
/-! ## known letters -/
theorem com_mem {rows : List Lts} (hne : rows ≠ []) (hnd : ∀ es ∈ rows, (keysN es).Nodup) {i c : Nat} : (i, c) ∈ comL rows ↔ ∀ es ∈ rows, getN es i = some c := by
  cases rows with
  | nil => exact absurd rfl hne
  | cons first rest =>
    unfold comL
    rw [List.mem_map]
    constructor
    · rintro ⟨j, hj, e⟩
      obtain ⟨h1, h2⟩ := List.mem_filter.mp hj
      have hin := srtN_mem.mp h1
      cases e
      obtain ⟨d, hd⟩ : ∃ d, getN first i = some d := by
        cases h : getN first i with
        | none => exact absurd hin (getN_none.mp h)
        | some d => exact ⟨d, rfl⟩
      intro es hes
      rw [hd]
      rcases List.mem_cons.mp hes with q | q
      · rw [q]; exact hd
      · have := of_decide_eq_true (List.all_eq_true.mp h2 es q)
        rw [this]; exact hd
    · intro h
      have h0 := h first List.mem_cons_self
      refine ⟨i, List.mem_filter.mpr ⟨srtN_mem.mpr ?_, List.all_eq_true.mpr fun es hes => ?_⟩, by rw [h0]; rfl⟩
      · have := getN_mem h0
        exact List.mem_map.mpr ⟨(i, c), this, rfl⟩
      · rw [decide_eq_true_iff, h es (List.mem_cons_of_mem _ hes), h0]
theorem com_rising (rows : List Lts) : (comL rows).Pairwise fun a b => a.1 < b.1 := by
  cases rows with
  | nil => exact .nil
  | cons first rest =>
    unfold comL
    rw [List.pairwise_map]
    exact (srtN_sorted _).filter _
theorem getD_some {t : List Nat} {i : Nat} (h : i < t.length) : t[i]? = some (t.getD i 97) := by
  rw [List.getD_eq_getElem?_getD, List.getElem?_eq_getElem h]
  rfl
/-- what the rows of all lengths up to the bound force, is forced -/
theorem rows_force {r : Rel} {s : List Nat} (hs : okT s) {i c : Nat} : (∀ p ∈ fndL r s, getN p.2 i = some c) ↔ ∀ t, okT t → conf r s t → t.length ≤ mostN r s.length → t[i]? = some c := by
  constructor
  · intro h t ht hc hl
    have t' := sh_conf (r := r) (s := s) ht
    cases he : shL r (outsL r s) t.length with
    | none => rw [he] at t'; exact absurd hc t'
    | some es =>
      rw [he] at t'
      have hg := h (t.length, es) (fnd_mem.mpr ⟨hl, he⟩)
      have hm := getN_mem hg
      have hlt := (sh_good hs he).2 _ hm
      have := (show agr es _ ↔ _ from t').mpr hc _ hm
      rw [getD_some hlt.1]
      exact congrArg some this
  · rintro h ⟨n, es⟩ hp
    obtain ⟨hn, he⟩ := fnd_mem.mp hp
    have fill : ∀ χ : Nat → Nat, (∀ i, 97 ≤ χ i ∧ χ i ≤ 122) → (fillL es χ n)[i]? = some c := fun χ hχ => by
      obtain ⟨a, b⟩ := fillL_ok hs he hχ
      exact h _ a b (by rw [fillL_len]; exact hn)
    have h1 := fill (fun _ => 97) (fun _ => by omega)
    have h2 := fill (fun _ => 98) (fun _ => by omega)
    have hi : i < n := by
      have := (List.getElem?_eq_some_iff.mp h1).1
      rw [fillL_len] at this
      exact this
    rw [getD_some (by rw [fillL_len]; exact hi), fillL_get hi] at h1 h2
    cases hg : getN es i with
    | none =>
      rw [hg] at h1 h2
      have e1 : 97 = c := Option.some.inj h1
      have e2 : 98 = c := Option.some.inj h2
      omega
    | some d =>
      rw [hg] at h1
      exact congrArg some (Option.some.inj h1)
theorem kno_iff {r : Rel} {s : List Nat} (hs : okT s) {i c : Nat} : (i, c) ∈ knoL r s ↔ ∀ t, okT t → conf r s t → t[i]? = some c := by
  unfold knoL
  rw [com_mem (fun e => fnd_ne hs (List.map_eq_nil_iff.mp e)) fun es hes => by
    obtain ⟨⟨n, es⟩, hp, rfl⟩ := List.mem_map.mp hes
    exact (sh_good hs (fnd_mem.mp hp).2).1]
  have e : (∀ es ∈ (fndL r s).map (·.2), getN es i = some c) ↔ ∀ p ∈ fndL r s, getN p.2 i = some c := by
    constructor
    · intro h p hp
      exact h p.2 (List.mem_map.mpr ⟨p, hp, rfl⟩)
    · intro h es hes
      obtain ⟨p, hp, rfl⟩ := List.mem_map.mp hes
      exact h p hp
  rw [e, rows_force hs]
  constructor
  · intro h t ht hc
    rcases Nat.lt_or_ge (mostN r s.length) t.length with q | q
    · have hM := most_gt r s.length
      obtain ⟨u, z, v, rfl, h1, h2, ⟨ou, oz, ov⟩, _, h3⟩ := long_split hs ht hc (by omega)
      have hsi : i < s.length := (List.getElem?_eq_some_iff.mp (h s hs (fun _ _ => rfl) (self_most r s.length))).1
      simp only [List.length_append] at q
      have hMM : s.length + 2 + sumS r ≤ mostN r s.length := by unfold mostN; rw [bnd_S]; omega
      have oz' : okT (z.take (mostN r s.length - u.length - v.length)) := fun c hc => oz c (List.mem_of_mem_take hc)
      have lz' : (z.take (mostN r s.length - u.length - v.length)).length = mostN r s.length - u.length - v.length := by rw [List.length_take]; omega
      have t1 := h _ (okT_of3 ou oz' ov) (h3 _ oz' fun e => by rw [e] at lz'; simp at lz'; omega) (by simp only [List.length_append, lz']; omega)
      rw [List.getElem?_append_left (by rw [List.length_append, lz']; omega)] at t1
      rw [List.getElem?_append_left (by rw [List.length_append]; omega)]
      rw [List.getElem?_append] at t1 ⊢
      split
      · rename_i hu
        rw [if_pos hu] at t1
        exact t1
      · rename_i hu
        rw [if_neg hu, List.getElem?_take_of_lt (by omega)] at t1
        exact t1
    · exact h t ht hc q
  · exact fun h t ht hc _ => h t ht hc
theorem endE_get {n : Nat} {es : Lts} (hl : ∀ q ∈ es, q.1 < n) {j : Nat} : getN (endE n es) j = if j < n then getN es (n - 1 - j) else none := by
  unfold endE
  induction es with
  | nil => show none = if j < n then none else none; split <;> rfl
  | cons p es ih =>
    have h0 := hl p List.mem_cons_self
    rw [List.map_cons, getN_cons, ih fun q hq => hl q (List.mem_cons_of_mem _ hq), getN_cons]
    by_cases hj : j < n
    · rw [if_pos hj, if_pos hj]
      by_cases e : p.1 = n - 1 - j
      · rw [if_pos e, if_pos (by show n - 1 - p.1 = j; omega)]
      · rw [if_neg e, if_neg (by show ¬ n - 1 - p.1 = j; omega)]
    · rw [if_neg hj, if_neg hj, if_neg (by show ¬ n - 1 - p.1 = j; omega)]
theorem kfe_iff {r : Rel} {s : List Nat} (hs : okT s) {j c : Nat} : (j, c) ∈ kfeL r s ↔ ∀ t, okT t → conf r s t → t.reverse[j]? = some c := by
  unfold kfeL
  have good : ∀ p ∈ fndL r s, goodE p.1 (fun c => c ∈ s) p.2 := fun p hp => sh_good hs (fnd_mem.mp (show (p.1, p.2) ∈ fndL r s from hp)).2
  have e0 : (j, c) ∈ comL ((fndL r s).map fun p => endE p.1 p.2) ↔ ∀ p ∈ fndL r s, getN (endE p.1 p.2) j = some c := by
    rw [com_mem (fun e => fnd_ne hs (List.map_eq_nil_iff.mp e)) fun es hes => ?_]
    · constructor
      · intro h p hp
        exact h _ (List.mem_map.mpr ⟨p, hp, rfl⟩)
      · intro h es hes
        obtain ⟨p, hp, rfl⟩ := List.mem_map.mp hes
        exact h p hp
    · obtain ⟨p, hp, rfl⟩ := List.mem_map.mp hes
      have g := good p hp
      unfold keysN endE at *
      have g1 := g.1
      have g2 := g.2
      revert g1 g2
      generalize p.2 = es
      generalize p.1 = n
      intro g1 g2
      rw [List.map_map]
      clear hes hp g
      induction es with
      | nil => exact List.nodup_nil
      | cons q es ih =>
        have hd := List.nodup_cons.mp g1
        rw [List.map_cons]
        refine List.nodup_cons.mpr ⟨fun hm => ?_, ih hd.2 fun q hq => g2 q (List.mem_cons_of_mem _ hq)⟩
        obtain ⟨q', hq, e⟩ := List.mem_map.mp hm
        have h1 := (g2 q' (List.mem_cons_of_mem _ hq)).1
        have h2 := (g2 q List.mem_cons_self).1
        have e : n - 1 - q'.1 = n - 1 - q.1 := e
        have e2 : q'.1 = q.1 := by omega
        exact hd.1 (List.mem_map.mpr ⟨q', hq, e2⟩)
  rw [e0]
  have short : (∀ p ∈ fndL r s, getN (endE p.1 p.2) j = some c) ↔ ∀ t, okT t → conf r s t → t.length ≤ mostN r s.length → t.reverse[j]? = some c := by
    constructor
    · intro h t ht hc hl
      have t' := sh_conf (r := r) (s := s) ht
      cases he : shL r (outsL r s) t.length with
      | none => rw [he] at t'; exact absurd hc t'
      | some es =>
        rw [he] at t'
        have hg := h (t.length, es) (fnd_mem.mpr ⟨hl, he⟩)
        have g := sh_good hs he
        rw [endE_get fun q hq => (g.2 q hq).1] at hg
        split at hg
        · rename_i hj
          have hm := getN_mem hg
          have := (show agr es _ ↔ _ from t').mpr hc _ hm
          rw [List.getElem?_reverse hj, getD_some (by omega)]
          exact congrArg some this
        · cases hg
    · rintro h ⟨n, es⟩ hp
      obtain ⟨hn, he⟩ := fnd_mem.mp hp
      have g := sh_good hs he
      have fill : ∀ χ : Nat → Nat, (∀ i, 97 ≤ χ i ∧ χ i ≤ 122) → (fillL es χ n).reverse[j]? = some c := fun χ hχ => by
        obtain ⟨a, b⟩ := fillL_ok hs he hχ
        exact h _ a b (by rw [fillL_len]; exact hn)
      have h1 := fill (fun _ => 97) (fun _ => by omega)
      have h2 := fill (fun _ => 98) (fun _ => by omega)
      have hj : j < n := by
        have := (List.getElem?_eq_some_iff.mp h1).1
        rw [List.length_reverse, fillL_len] at this
        exact this
      rw [List.getElem?_reverse (by rw [fillL_len]; exact hj), fillL_len, getD_some (by rw [fillL_len]; omega), fillL_get (by omega)] at h1 h2
      rw [endE_get fun q hq => (g.2 q hq).1, if_pos hj]
      cases hg : getN es (n - 1 - j) with
      | none =>
        rw [hg] at h1 h2
        have e1 : 97 = c := Option.some.inj h1
        have e2 : 98 = c := Option.some.inj h2
        omega
      | some d =>
        rw [hg] at h1
        exact congrArg some (Option.some.inj h1)
  rw [short]
  constructor
  · intro h t ht hc
    rcases Nat.lt_or_ge (mostN r s.length) t.length with q | q
    · have hM := most_gt r s.length
      obtain ⟨u, z, v, rfl, h1, h2, ⟨ou, oz, ov⟩, _, h3⟩ := long_split hs ht hc (by omega)
      have hsi : j < s.length := by
        have := (List.getElem?_eq_some_iff.mp (h s hs (fun _ _ => rfl) (self_most r s.length))).1
        rw [List.length_reverse] at this
        exact this
      simp only [List.length_append] at q
      have hMM : s.length + 2 + sumS r ≤ mostN r s.length := by unfold mostN; rw [bnd_S]; omega
      have oz' : okT (z.reverse.take (mostN r s.length - u.length - v.length)).reverse := fun c hc => oz c (List.mem_reverse.mp (List.mem_of_mem_take (List.mem_reverse.mp hc)))
      have lz' : (z.reverse.take (mostN r s.length - u.length - v.length)).length = mostN r s.length - u.length - v.length := by rw [List.length_take, List.length_reverse]; omega
      have t1 := h _ (okT_of3 ou oz' ov) (h3 _ oz' fun e => by
        have e := congrArg List.length e
        rw [List.length_reverse, lz'] at e
        simp at e
        omega) (by simp only [List.length_append, List.length_reverse, lz']; omega)
      rw [List.reverse_append, List.reverse_append, List.reverse_reverse, ← List.append_assoc, List.getElem?_append_left (by rw [List.length_append, lz', List.length_reverse]; omega)] at t1
      rw [List.reverse_append, List.reverse_append, ← List.append_assoc, List.getElem?_append_left (by rw [List.length_append, List.length_reverse, List.length_reverse]; omega)]
      rw [List.getElem?_append] at t1 ⊢
      split
      · rename_i hu
        rw [if_pos hu] at t1
        exact t1
      · rename_i hu
        rw [if_neg hu, List.getElem?_take_of_lt (by rw [List.length_reverse] at hu ⊢; omega)] at t1
        exact t1
    · exact h t ht hc q
  · exact fun h t ht hc _ => h t ht hc
end MK

namespace MK
open PySem DL
/-! ## answers as data -/
def dPr (p : Nat × Nat) : PyData := .tuple [.int (p.1 : Nat), .str (mkS [p.2])]
theorem dPs_map (ps : Lts) : dPs ps = ps.map dPr := rfl
def smallL (ps : Lts) : Prop := ∀ p ∈ ps, p.2 < 128
theorem dPr_okN {p : Nat × Nat} (h : p.2 < 128) : okN 1 (dPr p) = true := okN_tup fun d hd => by
  simp at hd
  rcases hd with rfl | rfl
  · rfl
  · exact strOk_mk fun c hc => by rw [List.mem_singleton.mp hc]; exact h
theorem dPr_okD {p : Nat × Nat} (h : p.2 < 128) : okD (dPr p) = true := okD_of (dPr_okN h) (by decide)
theorem dPs_okN {ps : Lts} (h : smallL ps) : okN 2 (.list (dPs ps)) = true := okN_lst fun d hd => by
  obtain ⟨p, hp, rfl⟩ := List.mem_map.mp hd
  exact dPr_okN (h p hp)
theorem dPs_okD {ps : Lts} (h : smallL ps) : okD (.list (dPs ps)) = true := okD_of (dPs_okN h) (by decide)
theorem eqv_pr (p q : Nat × Nat) : PyData.eqv (dPr p) (dPr q) = decide (p = q) := by
  obtain ⟨a, b⟩ := p
  obtain ⟨c, d⟩ := q
  simp only [dPr, PyData.eqv, PyData.eqvAll]
  rw [Bool.eq_iff_iff]
  simp only [Bool.and_eq_true, decide_eq_true_eq, Bool.and_true, Prod.mk.injEq, beq_iff_eq]
  constructor
  · rintro ⟨h1, h2⟩
    have h2 := mkS_inj h2
    injection h2 with h2
    exact ⟨Int.ofNat_inj.mp h1, h2⟩
  · rintro ⟨h1, h2⟩
    rw [h1, h2]
    exact ⟨rfl, rfl⟩
theorem dPs_any (ps : Lts) (p : Nat × Nat) : ((dPs ps).any fun z => PyData.eqv z (dPr p)) = decide (p ∈ ps) := by
  rw [dPs_map, List.any_map, Bool.eq_iff_iff, List.any_eq_true, decide_eq_true_iff]
  constructor
  · rintro ⟨q, h1, h2⟩
    have h2 : PyData.eqv (dPr q) (dPr p) = true := h2
    rw [eqv_pr, decide_eq_true_iff] at h2
    exact h2 ▸ h1
  · intro h
    refine ⟨p, h, ?_⟩
    show PyData.eqv (dPr p) (dPr p) = true
    rw [eqv_pr, decide_eq_true_iff]
theorem eqvAll_pr : ∀ ps qs : Lts, PyData.eqvAll (dPs ps) (dPs qs) = decide (ps = qs)
  | [], [] => by simp [dPs, PyData.eqvAll]
  | [], _ :: _ => by simp [dPs, PyData.eqvAll]
  | _ :: _, [] => by simp [dPs, PyData.eqvAll]
  | p :: ps, q :: qs => by
    show PyData.eqvAll (dPr p :: dPs ps) (dPr q :: dPs qs) = _
    rw [PyData.eqvAll, eqvAll_pr ps qs, eqv_pr, Bool.eq_iff_iff]
    simp
theorem eqv_prs (ps qs : Lts) : PyData.eqv (.list (dPs ps)) (.list (dPs qs)) = decide (ps = qs) := by
  rw [PyData.eqv]
  exact eqvAll_pr ps qs
def dNn (ns : List Nat) : List PyData := ns.map fun (i : Nat) => PyData.int (i : Nat)
theorem eqvAll_nn : ∀ ps qs : List Nat, PyData.eqvAll (dNn ps) (dNn qs) = decide (ps = qs)
  | [], [] => by simp [dNn, PyData.eqvAll]
  | [], _ :: _ => by simp [dNn, PyData.eqvAll]
  | _ :: _, [] => by simp [dNn, PyData.eqvAll]
  | p :: ps, q :: qs => by
    show PyData.eqvAll (.int (p : Nat) :: dNn ps) (.int (q : Nat) :: dNn qs) = _
    rw [PyData.eqvAll, eqvAll_nn ps qs, Bool.eq_iff_iff]
    simp [PyData.eqv]
    exact fun _ => Int.ofNat_inj
theorem dNn_okN (ns : List Nat) : okN 1 (.list (dNn ns)) = true := okN_lst fun d hd => by
  obtain ⟨i, _, rfl⟩ := List.mem_map.mp hd
  rfl
theorem dNn_okD (ns : List Nat) : okD (.list (dNn ns)) = true := okD_of (dNn_okN ns) (by decide)
theorem dNn_any (ns : List Nat) (i : Nat) : ((dNn ns).any fun z => PyData.eqv z (.int (i : Nat))) = decide (i ∈ ns) := by
  unfold dNn
  rw [List.any_map, Bool.eq_iff_iff, List.any_eq_true, decide_eq_true_iff]
  constructor
  · rintro ⟨j, h1, h2⟩
    have h2 : (j : Int) = (i : Int) := by simpa [PyData.eqv] using h2
    have : j = i := by omega
    exact this ▸ h1
  · intro h
    exact ⟨i, h, by simp [PyData.eqv]⟩
def dON : Option Nat → PyData
  | none => .none
  | some n => .int (n : Nat)
/-- what lengths gives -/
def dLen (l : List Nat × Option Nat) : PyData := .tuple [.list (dNn l.1), dON l.2]
theorem dON_okN (o : Option Nat) : okN 0 (dON o) = true := by cases o <;> rfl
theorem dLen_okD (l : List Nat × Option Nat) : okD (dLen l) = true := okD_of (n := 2) (okN_tup fun d hd => by
  simp at hd
  rcases hd with rfl | rfl
  · exact dNn_okN _
  · exact okN_mono (dON_okN _) (by decide)) (by decide)
theorem eqv_ON (x y : Option Nat) : PyData.eqv (dON x) (dON y) = decide (x = y) := by
  cases x <;> cases y <;> simp [dON, PyData.eqv]
  rw [Bool.eq_iff_iff]
  simp
  exact Int.ofNat_inj
theorem eqv_len (l m : List Nat × Option Nat) : PyData.eqv (dLen l) (dLen m) = decide (l = m) := by
  obtain ⟨a, b⟩ := l
  obtain ⟨c, d⟩ := m
  simp only [dLen, PyData.eqv, PyData.eqvAll, eqvAll_nn, eqv_ON]
  rw [Bool.eq_iff_iff]
  simp
/-! letters -/
theorem kno_at {r : Rel} {s : List Nat} (hs : okT s) {i c : Nat} (h : (i, c) ∈ knoL r s) : s[i]? = some c := (kno_iff hs).mp h s hs fun _ _ => rfl
theorem kfe_at {r : Rel} {s : List Nat} (hs : okT s) {i c : Nat} (h : (i, c) ∈ kfeL r s) : s.reverse[i]? = some c := (kfe_iff hs).mp h s hs fun _ _ => rfl
theorem kno_small {r : Rel} {s : List Nat} (hs : okT s) : smallL (knoL r s) := fun p hp => by
  have := hs _ (List.mem_of_getElem? (kno_at (i := p.1) (c := p.2) hs hp))
  omega
theorem kfe_small {r : Rel} {s : List Nat} (hs : okT s) : smallL (kfeL r s) := fun p hp => by
  have := hs _ (List.mem_reverse.mp (List.mem_of_getElem? (kfe_at (i := p.1) (c := p.2) hs hp)))
  omega
theorem kno_len {r : Rel} {s : List Nat} (hs : okT s) : (knoL r s).length ≤ s.length := by
  have h := com_rising ((fndL r s).map (·.2))
  have hd : ((knoL r s).map (·.1)).Nodup := by
    unfold List.Nodup
    rw [List.pairwise_map]
    exact h.imp fun {a b} z => Nat.ne_of_lt z
  have := nodup_lt s.length _ hd fun i hi => by
    obtain ⟨p, hp, rfl⟩ := List.mem_map.mp hi
    exact (List.getElem?_eq_some_iff.mp (kno_at (i := p.1) (c := p.2) hs hp)).1
  rw [List.length_map] at this
  exact this
theorem kfe_len {r : Rel} {s : List Nat} (hs : okT s) : (kfeL r s).length ≤ s.length := by
  have h := com_rising ((fndL r s).map fun p => endE p.1 p.2)
  have hd : ((kfeL r s).map (·.1)).Nodup := by
    unfold List.Nodup
    rw [List.pairwise_map]
    exact h.imp fun {a b} z => Nat.ne_of_lt z
  have := nodup_lt s.length _ hd fun i hi => by
    obtain ⟨p, hp, rfl⟩ := List.mem_map.mp hi
    have := (List.getElem?_eq_some_iff.mp (kfe_at (i := p.1) (c := p.2) hs hp)).1
    rw [List.length_reverse] at this
    exact this
  rw [List.length_map] at this
  exact this
theorem conf_sub {r q : Rel} {s t : List Nat} (h : ∀ f ∈ q, f ∈ r) (hc : conf r s t) : conf q s t := fun f hf => hc f (h f hf)
def inB (n : Nat) (l : List Nat × Option Nat) : Bool := decide (n ∈ l.1) || (match l.2 with | none => false | some k => decide (k ≤ n))
theorem inB_iff {n : Nat} {l : List Nat × Option Nat} : inB n l = true ↔ inL n l := by
  unfold inB inL
  rw [Bool.or_eq_true, decide_eq_true_iff]
  cases l.2 with
  | none => simp
  | some k => simp
theorem grp_mono {r q : Rel} {n l : Nat} (h : ∀ f ∈ r, f ∈ q) (hl : 1 ≤ l) : grpN q n l ≤ grpN r n l := by
  unfold grpN
  refine Nat.pow_le_pow_right hl ?_
  have := nodup_sub (once_nodup (shownL r n)) (m := once (shownL q n)) fun x hx => by
    rw [once_mem] at hx ⊢
    unfold shownL at hx ⊢
    obtain ⟨m, hm, h2⟩ := List.mem_flatMap.mp hx
    exact List.mem_flatMap.mpr ⟨m, h m hm, h2⟩
  omega
end MK

namespace MK
open PySem DL
/-! ## mirrored masks -/
def mirN : Nm → Nm
  | .kf => .kl
  | .kl => .kf
  | .hf => .hl
  | .hl => .hf
  | .cf => .cl
  | .cl => .cf
  | .sq => .sq
  | .sh => .sh
def mirS : Stp → Stp
  | .cnt k n => .cnt (mirN k) n
  | .rev => .rev
def mirM (m : Mask) : Mask := m.map mirS
section
variable {β : Type} {star : β} {isS : β → Bool}
def headS (isS : β → Bool) (r : List β) : Bool := match r.head? with | some y => isS y | none => false
theorem sq_true_false (n : Nat) (r : List β) : sqG star isS n false r = (if headS isS r = true then rep star n else []) ++ sqG star isS n true r := by
  cases r with
  | nil => rfl
  | cons y r =>
    show (if isS y = true then (if false = true then [] else rep star n) ++ sqG star isS n true r else y :: sqG star isS n false r) = (if isS y = true then _ else _) ++ (if isS y = true then (if true = true then [] else rep star n) ++ sqG star isS n true r else y :: sqG star isS n false r)
    cases isS y <;> simp
theorem sq_cons (n : Nat) (x : β) (r : List β) : sqG star isS n false (x :: r) = (if isS x = true then (if headS isS r = true then [] else rep star n) else [x]) ++ sqG star isS n false r := by
  show (if isS x = true then (if false = true then [] else rep star n) ++ sqG star isS n true r else x :: sqG star isS n false r) = _
  cases hx : isS x with
  | false => simp
  | true =>
    rw [if_pos rfl, if_pos rfl, sq_true_false n r]
    cases headS isS r <;> simp
theorem sq_reverse (n : Nat) : ∀ r : List β, sqG star isS n false r.reverse = (sqG star isS n false r).reverse
  | [] => rfl
  | x :: r => by
    rw [List.reverse_cons, sqG_app, sq_reverse n r, sq_cons, List.reverse_append]
    congr 1
    rw [List.getLast?_reverse]
    unfold headS
    cases isS x with
    | false => rfl
    | true =>
      cases r with
      | nil => simp
      | cons y r => cases hy : isS y <;> simp [hy]
theorem step_mir (s : Stp) (r : List β) : stepG star isS (mirS s) r.reverse = (stepG star isS s r).reverse := by
  cases s with
  | rev => rfl
  | cnt k n =>
    cases k with
    | kf =>
      show stepG star isS (.cnt .kl n) r.reverse = _
      rw [kl_rev, List.reverse_reverse]
    | kl =>
      show stepG star isS (.cnt .kf n) r.reverse = _
      rw [kl_rev, List.reverse_reverse]
    | hf =>
      show stepG star isS (.cnt .hl n) r.reverse = _
      rw [hl_rev, List.reverse_reverse]
    | hl =>
      show stepG star isS (.cnt .hf n) r.reverse = _
      rw [hl_rev, List.reverse_reverse]
    | cf =>
      show stepG star isS (.cnt .cl n) r.reverse = _
      rw [cl_rev, List.reverse_reverse]
    | cl =>
      show stepG star isS (.cnt .cf n) r.reverse = _
      rw [cl_rev, List.reverse_reverse]
    | sq => exact sq_reverse n r
    | sh =>
      show (if r.reverse.length < n then List.replicate r.reverse.length star else r.reverse) = (if r.length < n then List.replicate r.length star else r).reverse
      rw [List.length_reverse]
      split
      · rw [List.reverse_replicate]
      · rfl
theorem run_mir : ∀ (m : Mask) (r : List β), runG star isS (mirM m) r.reverse = (runG star isS m r).reverse
  | [], _ => rfl
  | s :: m, r => by
    show runG star isS (mirM m) (stepG star isS (mirS s) r.reverse) = (runG star isS m (stepG star isS s r)).reverse
    rw [step_mir, run_mir m]
end
theorem run_mirT (m : Mask) (s : List Nat) : runT (mirM m) s.reverse = (runT m s).reverse := run_mir m s
theorem mir_mir (m : Mask) : mirM (mirM m) = m := by
  unfold mirM
  rw [List.map_map]
  have e : mirS ∘ mirS = id := by
    funext s
    cases s with
    | rev => rfl
    | cnt k n => cases k <;> rfl
  rw [e, List.map_id]
theorem mir_ok {k b : Nat} {m : Mask} (h : okM k b m) : okM k b (mirM m) := ⟨by unfold mirM; rw [List.length_map]; exact h.1, fun s hs => by
  obtain ⟨t, ht, rfl⟩ := List.mem_map.mp hs
  have := h.2 t ht
  cases t with
  | rev => trivial
  | cnt k n => exact this⟩
theorem mir_sum (m : Mask) : sumM (mirM m) = sumM m := by
  unfold sumM mirM
  rw [List.map_map]
  congr 1
  refine List.map_congr_left fun s _ => ?_
  cases s <;> rfl
def mirR (r : Rel) : Rel := r.map mirM
theorem mirR_mirR (r : Rel) : mirR (mirR r) = r := by
  unfold mirR
  rw [List.map_map]
  have e : mirM ∘ mirM = id := funext mir_mir
  rw [e, List.map_id]
theorem mirR_ok {r : Rel} (h : okR r) : okR (mirR r) := ⟨by unfold mirR; rw [List.length_map]; exact h.1, fun m hm => by
  obtain ⟨f, hf, rfl⟩ := List.mem_map.mp hm
  exact mir_ok (h.2 f hf)⟩
theorem okT_rev {s : List Nat} (h : okT s) : okT s.reverse := fun c hc => h c (List.mem_reverse.mp hc)
theorem conf_mir {r : Rel} {s t : List Nat} (h : conf r s t) : conf (mirR r) s.reverse t.reverse := fun m hm => by
  obtain ⟨f, hf, rfl⟩ := List.mem_map.mp hm
  rw [run_mirT, run_mirT, h f hf]
theorem conf_mir' {r : Rel} {s t : List Nat} (h : conf (mirR r) s.reverse t) : conf r s t.reverse := by
  have := conf_mir h
  rw [mirR_mirR, List.reverse_reverse] at this
  exact this
/-- what is known from the front of the one, is known from the end of the other -/
theorem kno_mir {r : Rel} {s : List Nat} (hs : okT s) : knoL (mirR r) s.reverse = kfeL r s := by
  refine rising_ext (f := fun p => p.1) (com_rising _) (com_rising _) fun ⟨i, c⟩ => ?_
  show (i, c) ∈ knoL (mirR r) s.reverse ↔ (i, c) ∈ kfeL r s
  rw [kno_iff (okT_rev hs), kfe_iff hs]
  constructor
  · intro h t ht hc
    exact h t.reverse (okT_rev ht) (conf_mir hc)
  · intro h t ht hc
    have := h t.reverse (okT_rev ht) (conf_mir' hc)
    rw [List.reverse_reverse] at this
    exact this
theorem kfe_mir {r : Rel} {s : List Nat} (hs : okT s) : kfeL (mirR r) s.reverse = knoL r s := by
  have := kno_mir (r := mirR r) (okT_rev hs)
  rw [mirR_mirR, List.reverse_reverse] at this
  exact this.symm
theorem poss_mir {r : Rel} {s : List Nat} (n : Nat) : poss (mirR r) s.reverse n ↔ poss r s n := by
  constructor
  · rintro ⟨t, a, b, c⟩
    exact ⟨t.reverse, okT_rev a, by rw [List.length_reverse]; exact b, conf_mir' c⟩
  · rintro ⟨t, a, b, c⟩
    exact ⟨t.reverse, okT_rev a, by rw [List.length_reverse]; exact b, conf_mir c⟩
theorem len_congr {r q : Rel} {s t : List Nat} (hs : okT s) (ht : okT t) (h : ∀ n, poss r s n ↔ poss q t n) : lenL r s = lenL q t := by
  have := len_unique (r := r) hs (l := (lenL q t).1) (o := (lenL q t).2) (len_sorted q t) (fun n => (len_iff ht n).trans (h n).symm) fun k hk => ⟨(len_start hk).1, (len_start hk).2.1⟩
  exact this
theorem len_mir {r : Rel} {s : List Nat} (hs : okT s) : lenL (mirR r) s.reverse = lenL r s := len_congr (okT_rev hs) hs poss_mir
theorem range_rev (n : Nat) : ((List.range n).map some).reverse = (List.range n).map fun i => some (n - 1 - i) := by
  apply List.ext_getElem
  · simp
  · intro i h1 h2
    simp at h1 h2 ⊢
theorem templ_mir (m : Mask) (n : Nat) : templ (mirM m) n = ((templ m n).map (Option.map fun i => n - 1 - i)).reverse := by
  have e := run_names (fun i => n - 1 - i) (mirM m) n
  have e2 : runR (mirM m) ((List.range n).map fun i => some (n - 1 - i)) = (templ m n).reverse := by
    rw [← range_rev]
    exact run_mir m _
  have e3 : (templ (mirM m) n).map (Option.map fun i => n - 1 - i) = (templ m n).reverse := e.trans e2
  have e4 : ((templ (mirM m) n).map (Option.map fun i => n - 1 - i)).map (Option.map fun i => n - 1 - i) = templ (mirM m) n := by
    rw [List.map_map]
    conv => rhs; rw [← List.map_id (templ (mirM m) n)]
    refine List.map_congr_left fun c hc => ?_
    cases c with
    | none => rfl
    | some i =>
      have := templ_lt hc
      show some (n - 1 - (n - 1 - i)) = some i
      congr 1
      omega
  rw [← e4, e3, List.map_reverse]
theorem shown_mir {r : Rel} {n i : Nat} (hi : i < n) : i ∈ shownL (mirR r) n ↔ n - 1 - i ∈ shownL r n := by
  have key : ∀ (r : Rel) (i : Nat), i < n → n - 1 - i ∈ shownL r n → i ∈ shownL (mirR r) n := fun r i hi h => by
    unfold shownL at h ⊢
    obtain ⟨m, hm, h2⟩ := List.mem_flatMap.mp h
    refine List.mem_flatMap.mpr ⟨mirM m, List.mem_map.mpr ⟨m, hm, rfl⟩, ?_⟩
    obtain ⟨c, hc, e⟩ := List.mem_filterMap.mp h2
    have e : c = some (n - 1 - i) := e
    subst e
    refine List.mem_filterMap.mpr ⟨some i, ?_, rfl⟩
    rw [templ_mir, List.mem_reverse, List.mem_map]
    refine ⟨_, hc, ?_⟩
    show some (n - 1 - (n - 1 - i)) = some i
    congr 1
    omega
  constructor
  · intro h
    have := key (mirR r) (n - 1 - i) (by omega) (by rw [show n - 1 - (n - 1 - i) = i by omega]; exact h)
    rw [mirR_mirR] at this
    exact this
  · exact key r i hi
theorem grp_mir (r : Rel) (n l : Nat) : grpN (mirR r) n l = grpN r n l := by
  have key : ∀ r : Rel, (once (shownL (mirR r) n)).length ≤ (once (shownL r n)).length := fun r => by
    have h := nodup_sub (l := (once (shownL (mirR r) n)).map fun i => n - 1 - i) (m := once (shownL r n)) ?_ ?_
    · rw [List.length_map] at h
      exact h
    · unfold List.Nodup
      rw [List.pairwise_map]
      refine (once_nodup _).imp_of_mem fun {a b} ha hb hne e => hne ?_
      have h1 := shownL_lt ((once_mem _ _).mp ha)
      have h2 := shownL_lt ((once_mem _ _).mp hb)
      omega
    · intro x hx
      obtain ⟨i, hi, rfl⟩ := List.mem_map.mp hx
      have hi := (once_mem _ _).mp hi
      exact (once_mem _ _).mpr ((shown_mir (shownL_lt hi)).mp hi)
  unfold grpN
  have h1 := key r
  have h2 := key (mirR r)
  rw [mirR_mirR] at h2
  rw [Nat.le_antisymm h1 h2]
theorem det_mir (r : Rel) (g : Mask) : det (mirR r) (mirM g) = det r g := by
  rw [Bool.eq_iff_iff, det_iff, det_iff]
  constructor
  · intro h s t hs ht hc
    have := h s.reverse t.reverse (okT_rev hs) (okT_rev ht) (conf_mir hc)
    rw [run_mirT, run_mirT] at this
    exact List.reverse_inj.mp this
  · intro h s t hs ht hc
    have h1 : conf r s.reverse t.reverse := conf_mir' (by rw [List.reverse_reverse]; exact hc)
    have := h s.reverse t.reverse (okT_rev hs) (okT_rev ht) h1
    have e : ∀ s : List Nat, runT (mirM g) s = (runT g s.reverse).reverse := fun s => by
      have := run_mir (star := 42) (isS := fun c => decide (c = 42)) g s.reverse
      rw [List.reverse_reverse] at this
      exact this
    rw [e, e, this]
theorem long_mir {f g : Mask} (hf : okM 4 5 f) (hg : okM 4 5 g) : longL (mirM f) (mirM g) = longL f g := by
  have key : ∀ n, templ (mirM f) n = templ (mirM g) n ↔ templ f n = templ g n := fun n => by
    have inj : ∀ f g : Mask, templ f n = templ g n → templ (mirM f) n = templ (mirM g) n := fun f g h => by
      rw [templ_mir, templ_mir, h]
    constructor
    · intro h
      have := inj _ _ h
      rw [mir_mir, mir_mir] at this
      exact this
    · exact inj f g
  have a := long_le hf hg
  have b := long_le (mir_ok hf) (mir_ok hg)
  rcases Nat.lt_trichotomy (longL (mirM f) (mirM g)) (longL f g) with h | h | h
  · exact absurd ((key _).mpr (long_lt h)) (long_at (by omega))
  · exact h
  · exact absurd ((key _).mp (long_lt h)) (long_at (by omega))
theorem scex_total {r q : Rel} {g h : Mask} (φ : List Nat → List Nat) (hφ : ∀ s, okT s → okT (φ s) ∧ (φ s).length = s.length)
    (hc : ∀ s t, okT s → okT t → conf r s t → runT g s ≠ runT g t → conf q (φ s) (φ t) ∧ runT h (φ s) ≠ runT h (φ t)) {s t : List Nat} (he : scex r g = some (s, t)) : ∃ s' t', scex q h = some (s', t') ∧ s'.length + t'.length ≤ s.length + t.length := by
  obtain ⟨⟨a, b⟩, c, d, _⟩ := scex_some he
  have oa := ab_okT a
  have ob := ab_okT b
  obtain ⟨c2, d2⟩ := hc s t oa ob c d
  cases e : scex q h with
  | none => exact absurd (scex_none e (hφ s oa).1 (hφ t ob).1 c2) d2
  | some p =>
    obtain ⟨s', t'⟩ := p
    have := (scex_some e).2.2.2 (φ s) (φ t) (hφ s oa).1 (hφ t ob).1 c2 d2
    rw [(hφ s oa).2, (hφ t ob).2] at this
    exact ⟨s', t', rfl, this⟩
theorem scex_mir (r : Rel) (g : Mask) : (scex (mirR r) (mirM g)).map (fun p => p.1.length + p.2.length) = (scex r g).map fun p => p.1.length + p.2.length := by
  have key : ∀ (r : Rel) (g : Mask) {s t : List Nat}, scex r g = some (s, t) → ∃ s' t', scex (mirR r) (mirM g) = some (s', t') ∧ s'.length + t'.length ≤ s.length + t.length := fun r g s t h =>
    scex_total List.reverse (fun s hs => ⟨okT_rev hs, List.length_reverse⟩) (fun s t _ _ hc hd => ⟨conf_mir hc, fun e => hd (by rw [run_mirT, run_mirT] at e; exact List.reverse_inj.mp e)⟩) h
  cases h : scex r g with
  | none =>
    cases h2 : scex (mirR r) (mirM g) with
    | none => rfl
    | some p =>
      obtain ⟨s, t⟩ := p
      obtain ⟨s', t', e, _⟩ := key _ _ h2
      rw [mirR_mirR, mir_mir, h] at e
      cases e
  | some p =>
    obtain ⟨s, t⟩ := p
    obtain ⟨s', t', e, l1⟩ := key _ _ h
    obtain ⟨s2, t2, e2, l2⟩ := key _ _ e
    rw [mirR_mirR, mir_mir, h] at e2
    cases e2
    rw [e]
    show some (s'.length + t'.length) = some (s.length + t.length)
    congr 1
    omega
end MK

namespace DL
open PySem PySem.Spec PyProof.Rows L2
/-! ## methods of texts -/
def rPart : V → List V → Hp → VK → Prop := fun x xs H Q => ∃ a b, x = .str a ∧ xs = [.str b] ∧ (b.length == 0) = false ∧ a.length ≤ sizeLine ∧
    ∀ p, H p = none → Q (.ref p) (upd H p (.tup [.str (Txt.partition a b).1, .str (Txt.partition a b).2.1, .str (Txt.partition a b).2.2]))
def rEnds : V → List V → Hp → VK → Prop := fun x xs H Q => ∃ a b, x = .str a ∧ xs = [.str b] ∧ Q (.bl (Txt.endswith a b)) H
def rSplt : V → List V → Hp → VK → Prop := fun x xs H Q => ∃ a b, x = .str a ∧ xs = [.str b] ∧ (b.length == 0) = false ∧ a.length + 2 ≤ sizeLine ∧ rNewStrs (Txt.split a b) H Q
section
variable {X : Cx} {o e : Expr} {to te : TE} {apos pos : Pos}
theorem pPart (ho : PE X o to) (he : PE X e te) (hs : starEach [e] X.env = [(false, eval e X.env)] := by rfl) (hbase : attributeBase o "partition" X.env (eval o X.env) = eval o X.env := by rfl) (hline : (apos.endLine == pos.line) = true := by rfl) :
    PE X (.Call (.Attribute o "partition" apos) [e] [] pos) (tM1 rPart to te) := pe_m1 PySem.F.slot_str_partition PySem.F.type_str_partition mt_partition ho he hs hbase hline
theorem pEnds (ho : PE X o to) (he : PE X e te) (hs : starEach [e] X.env = [(false, eval e X.env)] := by rfl) (hbase : attributeBase o "endswith" X.env (eval o X.env) = eval o X.env := by rfl) (hline : (apos.endLine == pos.line) = true := by rfl) :
    PE X (.Call (.Attribute o "endswith" apos) [e] [] pos) (tM1 rEnds to te) := pe_m1 PySem.F.slot_str_endswith PySem.F.type_str_endswith mt_endswith ho he hs hbase hline
theorem pSplt (ho : PE X o to) (he : PE X e te) (hs : starEach [e] X.env = [(false, eval e X.env)] := by rfl) (hbase : attributeBase o "split" X.env (eval o X.env) = eval o X.env := by rfl) (hline : (apos.endLine == pos.line) = true := by rfl) :
    PE X (.Call (.Attribute o "split" apos) [e] [] pos) (tM1 rSplt to te) := pe_m1 PySem.F.slot_str_split PySem.F.type_str_split mt_split ho he hs hbase hline
end
section
variable {K : PySem.W.Frag} {S : List Sl} {R : Vx → List Sl → Prop} {RO : Own → List Sl → Prop} {te to : TE}
theorem ee_part (h : EE K to S fun x S1 => ∃ a, x = .dat (.str a) ∧ EE K te S1 fun y S2 => ∃ b, y = .dat (.str b) ∧ (b.length == 0) = false ∧ a.length ≤ 1000000 ∧ R (.dat (.tuple [.str (Txt.partition a b).1, .str (Txt.partition a b).2.1, .str (Txt.partition a b).2.2])) S2) : EE K (tM1 rPart to te) S R := fun e F H σ w Q k =>
  h e F H σ w _ fun v x S1 F1 H1 w1 m1 r1 ⟨a, e1, q1⟩ => by
    subst e1
    cases r1
    refine ⟨⟨a, rfl⟩, q1 e F1 H1 σ w1 _ fun u y S2 F2 H2 w2 m2 r2 ⟨b, e2, hb, hl, q⟩ => ?_⟩
    subst e2
    cases r2
    refine ⟨a, b, rfl, rfl, hb, by rw [sizeLine_eq]; omega, fun p hp => ?_⟩
    have nf : F2 p = none := w2.sub.free hp
    exact k _ (.dat (.tuple _)) S2 _ _ (w2.laid (o := .tup _) hp) ((m1.trans m2).trans (same_new nf)) (.tup (.inl upd_same) (.cons (.str _) (.cons (.str _) (.cons (.str _) .nil)))) q
theorem ee_ends (h : EE K to S fun x S1 => ∃ a, x = .dat (.str a) ∧ EE K te S1 fun y S2 => ∃ b, y = .dat (.str b) ∧ R (.dat (.bool (Txt.endswith a b))) S2) : EE K (tM1 rEnds to te) S R := fun e F H σ w Q k =>
  h e F H σ w _ fun v x S1 F1 H1 w1 m1 r1 ⟨a, e1, q1⟩ => by
    subst e1
    cases r1
    refine ⟨⟨a, rfl⟩, q1 e F1 H1 σ w1 _ fun u y S2 F2 H2 w2 m2 r2 ⟨b, e2, q⟩ => ?_⟩
    subst e2
    cases r2
    exact ⟨a, b, rfl, rfl, k _ (.dat (.bool _)) S2 F2 H2 w2 (m1.trans m2) (.bl _) q⟩
theorem en_split (h : EE K to S fun x S1 => ∃ a, x = .dat (.str a) ∧ EE K te S1 fun y S2 => ∃ b, y = .dat (.str b) ∧ (b.length == 0) = false ∧ a.length ≤ 1000000 ∧ RO (.lst ((Txt.split a b).map PyData.str)) S2) : EN K (tM1 rSplt to te) S RO := fun e F H σ w Q k =>
  h e F H σ w _ fun v x S1 F1 H1 w1 m1 r1 ⟨a, e1, q1⟩ => by
    subst e1
    cases r1
    refine ⟨⟨a, rfl⟩, q1 e F1 H1 σ w1 _ fun u y S2 F2 H2 w2 m2 r2 ⟨b, e2, hb, hl, q⟩ => ?_⟩
    subst e2
    cases r2
    exact ⟨a, b, rfl, rfl, hb, by rw [sizeLine_eq]; omega, fun p hp => k p (.lst _) S2 F2 _ (w2.fresh hp) (m1.trans m2) (w2.sub.free hp) (w2.n0 hp) ⟨_, upd_same, Reps.strs _⟩ (w2.no hp) q⟩
end
end DL


namespace Mk
open PySem PySem.Spec PyProof.Rows L2 RZ DL MK
abbrev FnP (K : PySem.W.Frag) (x : Str) (st : Stmt) (f : Addr) (fd : FuncData) : Prop := FunD K x x (defArgs st) (defBody st) (defScope st) [] [] f fd
structure Bl (mg : Str → Option Value) : Prop where
  len : mg "len" = none
  range : mg "range" = none
  isinstance : mg "isinstance" = none
  enumerate : mg "enumerate" = none
  zip : mg "zip" = none
  all : mg "all" = none
  any : mg "any" = none
  sum : mg "sum" = none
  max : mg "max" = none
  min : mg "min" = none
  list : mg "list" = none
  tuple : mg "tuple" = none
  int : mg "int" = none
  str : mg "str" = none
  bool : mg "bool" = none
  sorted : mg "sorted" = none
  set : mg "set" = none
  dict : mg "dict" = none
structure Cs (K : PySem.W.Frag) (mg : Str → Option Value) : Prop where
  LETTERS : ∃ u, mg "LETTERS" = some u ∧ RelV (.str "abcdefghijklmnopqrstuvwxyz") u
  LONGEST : ∃ u, mg "LONGEST" = some u ∧ RelV (.int 40) u
  STEPS : ∃ u, mg "STEPS" = some u ∧ RelV (.int 4) u
  NUMBER : ∃ u, mg "NUMBER" = some u ∧ RelV (.int 5) u
  NAMES : ∃ u, (mg "NAMES" = some (.ref u) ∧ RelV (.ref u) (.ref u)) ∧ ∀ F, SqT K F u ((["keep_first", "keep_last", "hide_first", "hide_last", "cut_first", "cut_last", "squeeze", "short"] : List Str).map V.str)
  MASKS : ∃ u, mg "MASKS" = some u ∧ RelV (.int 3) u
def Fp (K : PySem.W.Frag) (mg : Str → Option Value) (x : Str) (st : Stmt) : Prop := ∃ f fd, FnP K x st f fd ∧ mg x = some (.ref f)
def Dx (P : Program) (w : World) (K : PySem.W.Frag) (mg : Str → Option Value) (base : Heap) (x : Str) (k : Nat) (ps : List Str) (C : Ct) : Prop := ∃ f fd, Df P w K mg base x k ps C f fd
local macro_rules | `(tactic| walk_at "fin") => `(tactic| first
  | with_reducible refine retP_i ?_
  | with_reducible refine boolP_i ?_
  | with_reducible refine intP_i ?_
  | with_reducible refine frzP_l ?_
  | with_reducible refine datsP_c ?_
  | with_reducible refine datsP_n ?_
  | ((with_reducible refine ble_i ?_ ?_); · exact rfl)
  | ((with_reducible refine pairP_i ?_ ?_ ?_); (focus exact rfl); (focus exact rfl))
  | ((with_reducible refine letP_i ?_ ?_); · exact rfl)
  | ((with_reducible refine ownP_i ?_ ?_); · exact rfl))
local macro_rules | `(tactic| walk_at "op") => `(tactic| first
  | with_reducible refine rr_addI ?_
  | with_reducible refine rr_sub ?_
  | with_reducible refine rr_lt ?_
  | with_reducible refine rr_le ?_
  | with_reducible refine rr_gt ?_
  | with_reducible refine rr_ge ?_
  | ((with_reducible refine rr_mod ?_ ?_); · omega)
  | ((with_reducible refine rr_fdiv ?_ ?_); · omega)
  | ((with_reducible refine rr_eqS ?_ ?_); · exact rfl)
  | ((with_reducible refine rr_neS ?_ ?_); · exact rfl)
  | with_reducible refine rr_isN ?_
  | with_reducible refine rr_notN ?_
  | with_reducible refine rr_isB ?_
  | with_reducible refine rr_notB ?_
  | ((with_reducible refine rr_ixT (d := ?d) ?h ?_); (case h => first | exact atI_0 | exact atI_1 | exact atI_2 | exact rfl))
  | ((with_reducible refine rr_ixL (xs := ?xs) (d := ?d) ?h ?g ?_); (case h => exact rfl); (case g => first | exact atI_0 | exact atI_1 | exact atI_2 | exact rfl))
  | with_reducible refine rb_max2 ?_
  | with_reducible refine rb_neg ?_
  | with_reducible refine rb_min2 ?_
  | with_reducible refine rb_lenT ?_
  | ((with_reducible refine rb_lenL (xs := ?xs) ?h ?_); (case h => exact rfl))
  | with_reducible refine rb_all ?_
  | with_reducible refine rb_any ?_
  | with_reducible refine rb_sum ?_
  | with_reducible refine rb_tupleT ?_
  | ((with_reducible refine rb_tupleL (xs := ?xs) ?h ?_); (case h => exact rfl))
  | with_reducible refine rs_T ?_
  | ((with_reducible refine rs_L (xs := ?xs) ?h ?_); (case h => exact rfl)))
local macro_rules | `(tactic| walk_at "ev1") => `(tactic| first
  | with_reducible refine ss_seq ?_
  | with_reducible refine s_ret ?_
  | with_reducible refine ss_if ?_
  | with_reducible refine ss_next ?_
  | with_reducible refine ss_drop ?_
  | with_reducible refine s_par ?_
  | with_reducible refine s_par3 ?_
  | with_reducible refine s_pair ?_
  | with_reducible refine s_let (te := tOp _ _ _) ?_
  | with_reducible refine s_let (te := tCB _ _) ?_
  | with_reducible refine s_let (te := tVar _) ?_
  | with_reducible refine s_let (te := tC _) ?_
  | with_reducible refine s_let (te := tIf _ _ _) ?_
  | with_reducible refine s_let (te := tCall _ _ _ _) ?_
  | with_reducible refine s_let (te := tSl _ _ _ _) ?_
  | with_reducible refine s_let (te := tTup _) ?_
  | with_reducible refine t_test ?_
  | with_reducible refine t_B ?_
  | with_reducible refine t_tru ?_
  | with_reducible refine et_and ?_
  | with_reducible refine et_or ?_
  | with_reducible refine et_not ?_
  | ((with_reducible refine ee_var (d := ?d) ?h ?_); (case h => exact rfl))
  | ((with_reducible refine ee_ptr (m := ?m) (a := ?a) (o := ?o) ?h ?_); (case h => exact rfl))
  | with_reducible refine ee_int ?_
  | with_reducible refine ee_str ?_
  | with_reducible refine ee_bl ?_
  | with_reducible refine ee_non ?_
  | with_reducible refine e_isI ?_
  | with_reducible refine e_isB ?_
  | with_reducible refine e_isS ?_
  | with_reducible refine e_isT ?_
  | with_reducible refine e_chain ?_
  | with_reducible refine ee_op ?_
  | with_reducible refine ee_un ?_
  | with_reducible refine ee_cb ?_
  | with_reducible refine ea_cons ?_
  | with_reducible refine ea_nil ?_
  | with_reducible refine ee_sl ?_
  | with_reducible refine eo_none ?_
  | with_reducible refine o_some ?_
  | with_reducible refine e_andV ?_
  | with_reducible refine e_orV ?_
  | with_reducible refine e_notV ?_
  | with_reducible refine ee_if ?_
  | with_reducible refine e_tup ?_
  | with_reducible refine e_lst ?_
  | with_reducible refine iteF ?_
  | with_reducible refine iteT ?_
  | walk_at "fin"
  | walk_at "op")
local macro_rules | `(tactic| walk_at "ev") => `(tactic| repeat walk_at "ev1")

section
variable {P : Program} {w : World} {K : PySem.W.Frag} {mg : Str → Option Value} {base : Heap}
/-! is_count -/
def C_is_count : Cp := fun ds R => ∃ (d : PyData) (a b : Int), ds = [d, .int a, .int b] ∧ True ∧ R (.bool (isCountD d a b))
theorem sc_is_count : FnScope ["value", "least", "most"] ["value", "least", "most"] (defScope s_is_count) := ⟨rfl, rfl, rfl, by decide +kernel, rfl, by decide +kernel, by decide +kernel⟩
theorem dx_is_count (B : Bl mg) (Cc : Cs K mg) (Fx : Fp K mg "is_count" s_is_count) : Dx P w K mg base "is_count" 1 ["value", "least", "most"] (pureC C_is_count) := by
  obtain ⟨f, fd, F, gl⟩ := Fx
  refine ⟨f, fd, ?_, gl, F.kp, F.bindsN fun _ _ _ _ _ _ us hl => match us, hl with | [_, _, _], _ => rfl⟩
  refine fn_pure F sc_is_count (fun ds R h => by
    obtain ⟨_, _, _, rfl, _⟩ := h
    rfl) (fun cdv A outer s H E hr => ⟨_, (pss_one (ps_ret (pe_and (pe_callB (kIsi K) (by rfl) B.isinstance (by decide +kernel) (pa_cons (pv 0) (pa_cons (pe_bltn (v := .ty "int") (by rfl) B.int (by decide +kernel) rfl) pa_nil))) (pe_and (pe_not (pe_callB (kIsi K) (by rfl) B.isinstance (by decide +kernel) (pa_cons (pv 0) (pa_cons (pe_bltn (v := .ty "bool") (by rfl) B.bool (by decide +kernel) rfl) pa_nil)))) (pe_one (pe_chain op_le op_le (pv 1) (pv 0) (pv 2))))))), ?_⟩)
  rintro ds R ⟨d, a, b, rfl, _, q⟩
  dsimp only [cxOf, Cx.nox, Cx.wish, DL.fill, List.map, List.length_cons, List.length_nil, List.length, Nat.reduceAdd, Nat.reduceSub, List.replicate, List.cons_append, List.nil_append]
  walk_at "ev"
  cases d with
  | int i =>
    refine if_T rfl ?_
    walk_at "ev"
    refine if_T rfl ?_
    walk_at "ev"
    refine if_D (fun h1 => ?_) (fun h1 => ?_)
    · walk_at "ev"
      have e : isCountD (.int i) a b = decide (i ≤ b) := by simp [isCountD, h1]
      rw [e] at q
      exact q
    · walk_at "ev"
      have e : isCountD (.int i) a b = false := by simp [isCountD, h1]
      rw [e] at q
      exact q
  | bool i =>
    refine if_T rfl ?_
    walk_at "ev"
    refine if_F rfl ?_
    walk_at "ev"
    exact q
  | _ =>
    refine if_F rfl ?_
    walk_at "ev"
    exact q
/-! is_step -/
def C_is_step : Cp := fun ds R => ∃ d : PyData, ds = [d] ∧ okN 50 d = true ∧ R (.bool (isStepD d))
theorem sc_is_step : FnScope ["value"] ["value"] (defScope s_is_step) := ⟨rfl, rfl, rfl, by decide +kernel, rfl, by decide +kernel, by decide +kernel⟩
theorem dx_is_step (B : Bl mg) (Cc : Cs K mg) (d_is_count : Dx P w K mg base "is_count" 1 ["value", "least", "most"] (pureC C_is_count)) (Fx : Fp K mg "is_step" s_is_step) : Dx P w K mg base "is_step" 2 ["value"] (pureC C_is_step) := by
  obtain ⟨f_is_count, fd_is_count, d_is_count⟩ := d_is_count
  obtain ⟨u_NUMBER, c_NUMBER⟩ := Cc.NUMBER
  obtain ⟨u_NAMES, c_NAMES, k_NAMES⟩ := Cc.NAMES
  obtain ⟨f, fd, F, gl⟩ := Fx
  refine ⟨f, fd, ?_, gl, F.kp, F.bindsN fun _ _ _ _ _ _ us hl => match us, hl with | [_], _ => rfl⟩
  refine fn_pure F sc_is_step (fun ds R h => by
    obtain ⟨_, rfl, _⟩ := h
    rfl) (fun cdv A outer s H E hr => ⟨_, (pss_cons (ps_if (PW.pt (pw_or (pt_not (kTru K (pe_callB (kIsi K) (by rfl) B.isinstance (by decide +kernel) (pa_cons (pv 0) (pa_cons (pe_bltn (v := .ty "tuple") (by rfl) B.tuple (by decide +kernel) rfl) pa_nil))))) (pw_or (pt_cmpR (kEq K hr.units) (pv 0) (pe_tup pa_nil) (nomark _)) (pw_or1 (pt_not (kTru K (pe_callB (kIsi K) (by rfl) B.isinstance (by decide +kernel) (pa_cons (pe_ix (kIx K) (pv 0) pe_int (fun _ _ => rfl)) (pa_cons (pe_bltn (v := .ty "str") (by rfl) B.str (by decide +kernel) rfl) pa_nil)))))))))
  (pss_one (ps_ret pe_bl))
  pss_nil)
  (pss_cons (ps_if (pt_cmpR (kEq K hr.units) (pe_ix (kIx K) (pv 0) pe_int (fun _ _ => rfl)) pe_str (nomark _))
  (pss_one (ps_ret (pe_cmpR (kEq K hr.units) (pe_callB (kLen K) (by rfl) B.len PySem.boot_len (pa_cons (pv 0) pa_nil)) pe_int (nomark _))))
  pss_nil)
  (pss_one (ps_ret (pe_and (pe_cmpR (kEq K hr.units) (pe_callB (kLen K) (by rfl) B.len PySem.boot_len (pa_cons (pv 0) pa_nil)) pe_int (nomark _)) (pe_and (pe_cmpR (kIn K hr hr.units) (pe_ix (kIx K) (pv 0) pe_int (fun _ _ => rfl)) (pe_glob rfl c_NAMES.1 c_NAMES.2) (by rfl)) (pe_one (kCall K d_is_count hr (by decide) (by rfl) (pa_cons (pe_ix (kIx K) (pv 0) pe_int (fun _ _ => rfl)) (pa_cons pe_int (pa_cons (pe_glob rfl c_NUMBER.1 c_NUMBER.2) pa_nil))))))))))), ?_⟩)
  rintro ds R ⟨d, rfl, ho, q⟩
  dsimp only [cxOf, Cx.nox, Cx.wish, DL.fill, List.map, List.length_cons, List.length_nil, List.length, Nat.reduceAdd, Nat.reduceSub, List.replicate, List.cons_append, List.nil_append]
  walk_at "ev"
  cases d with
  | tuple xs =>
    refine if_F rfl ?_
    walk_at "ev"
    refine rr_eqD (okD_of ho (by decide)) rfl ?_
    cases xs with
    | nil =>
      walk_at "ev"
      refine if_T (by simp [PyData.eqv, PyData.eqvAll]) ?_
      walk_at "ev"
      exact q
    | cons x rest =>
      walk_at "ev"
      refine if_F (by simp [PyData.eqv, PyData.eqvAll]) ?_
      walk_at "ev"
      cases x with
      | str z =>
        refine if_F rfl ?_
        walk_at "ev"
        by_cases hz : z = "reverse"
        · subst hz
          refine if_eqS (fun _ => ?_) (fun z => absurd rfl z)
          walk_at "ev"
          have e : isStepD (.tuple (.str "reverse" :: rest)) = eqS (.int ((PyData.str "reverse" :: rest).length : Nat)) (.int 1) := by
            have e0 : isStepD (.tuple (.str "reverse" :: rest)) = decide (rest.length = 0) := by
              unfold isStepD
              exact if_pos rfl
            rw [e0]
            show decide (rest.length = 0) = decide (((PyData.str "reverse" :: rest).length : Int) = 1)
            apply decide_iff
            rw [List.length_cons]
            omega
          rw [e] at q
          exact q
        · refine if_eqS (fun z => absurd z hz) (fun _ => ?_)
          walk_at "ev"
          have e : isStepD (.tuple (.str z :: rest)) = isRestD z rest := if_neg hz
          rw [e] at q
          cases rest with
          | nil =>
            refine if_F rfl ?_
            walk_at "ev"
            exact q
          | cons y rest2 =>
            cases rest2 with
            | nil =>
              refine if_T rfl (e_andV (ee_inC (xs := names) k_NAMES ?_))
              walk_at "ev"
              refine ⟨z, rfl, ?_⟩
              walk_at "ev"
              by_cases hn : z ∈ names
              · refine if_T (decide_eq_true hn) ?_
                refine e_callP ?_
                walk_at "ev"
                refine ⟨y, 0, 5, rfl, trivial, ?_⟩
                walk_at "ev"
                have e2 : isRestD z [y] = isCountD y 0 5 := by
                  show (decide (z ∈ names) && isCountD y 0 5) = _
                  rw [decide_eq_true hn, Bool.true_and]
                rw [e2] at q
                exact q
              · refine if_F (decide_eq_false hn) ?_
                walk_at "ev"
                have e2 : isRestD z [y] = false := by
                  show (decide (z ∈ names) && isCountD y 0 5) = _
                  rw [decide_eq_false hn, Bool.false_and]
                rw [e2] at q
                exact q
            | cons y2 rest3 =>
              refine if_F ?_ ?_
              · show decide (((PyData.str z :: y :: y2 :: rest3).length : Int) = 2) = false
                refine decide_eq_false ?_
                simp only [List.length_cons]
                omega
              walk_at "ev"
              exact q
      | _ =>
        refine if_T rfl ?_
        walk_at "ev"
        exact q
  | _ =>
    refine if_T rfl ?_
    walk_at "ev"
    exact q
/-! is_mask -/
def C_is_mask : Cp := fun ds R => ∃ d : PyData, ds = [d] ∧ (okN 51 d = true ∧ ∀ xs, d = .tuple xs → xs.length ≤ 1000) ∧ R (.bool (isMaskD d))
theorem sc_is_mask : FnScope ["value", "step"] ["value"] (defScope s_is_mask) := ⟨rfl, rfl, rfl, by decide +kernel, rfl, by decide +kernel, by decide +kernel⟩
theorem dx_is_mask (B : Bl mg) (Cc : Cs K mg) (d_is_step : Dx P w K mg base "is_step" 2 ["value"] (pureC C_is_step)) (Fx : Fp K mg "is_mask" s_is_mask) : Dx P w K mg base "is_mask" 3 ["value"] (pureC C_is_mask) := by
  obtain ⟨f_is_step, fd_is_step, d_is_step⟩ := d_is_step
  obtain ⟨u_STEPS, c_STEPS⟩ := Cc.STEPS
  obtain ⟨f, fd, F, gl⟩ := Fx
  refine ⟨f, fd, ?_, gl, F.kp, F.bindsN fun _ _ _ _ _ _ us hl => match us, hl with | [_], _ => rfl⟩
  refine fn_pure F sc_is_mask (fun ds R h => by
    obtain ⟨_, rfl, _⟩ := h
    rfl) (fun cdv A outer s H E hr => ⟨_, (pss_one (ps_ret (pe_and (pe_callB (kIsi K) (by rfl) B.isinstance (by decide +kernel) (pa_cons (pv 0) (pa_cons (pe_bltn (v := .ty "tuple") (by rfl) B.tuple (by decide +kernel) rfl) pa_nil))) (pe_and (pe_cmpR op_le (pe_callB (kLen K) (by rfl) B.len PySem.boot_len (pa_cons (pv 0) pa_nil)) (pe_glob rfl c_STEPS.1 c_STEPS.2) (nomark _)) (pe_one (pe_callB (kAll K rfl) (by rfl) B.all (by decide +kernel) (pa_cons (pe_lc (own := [("step", 1)]) (g := gName 1) (tt := tYes) rfl sc_is_mask.nd  (kAny K (pv 0)) (blkOk_by (by kernel_rfl)) (fun _ _ _ _ _ => (pg_name (i := 1) sc_is_mask.nd rfl (Or.inl rfl))) (fun _ _ _ _ _ => pts_nil) (fun _ _ _ _ _ => (kCall K d_is_step hr (by decide) (by rfl) (pa_cons (pv 1) pa_nil)))) pa_nil))))))), ?_⟩)
  rintro ds R ⟨d, rfl, ⟨ho, hx⟩, q⟩
  dsimp only [cxOf, Cx.nox, Cx.wish, DL.fill, List.map, List.length_cons, List.length_nil, List.length, Nat.reduceAdd, Nat.reduceSub, List.replicate, List.cons_append, List.nil_append]
  walk_at "ev"
  cases d with
  | tuple xs =>
    refine if_T rfl ?_
    walk_at "ev"
    refine if_D (fun h => ?_) (fun h => ?_)
    · walk_at "ev"
      refine e_new (n_map (gw_name (by simp)) (ei_T ?_))
      walk_at "ev"
      refine ⟨xs, rfl, rfl, Nat.le_trans (hx xs rfl) (by decide), fun d => .bool (isStepD d), fun d hd => g_name ⟨rfl, ?_⟩, ?_⟩
      · refine e_callP ?_
        walk_at "ev"
        exact ⟨d, rfl, okN_mem ho hd, rfl, rfl⟩
      · walk_at "ev"
        have e : xs.map (fun d => PyData.bool (isStepD d)) = (xs.map isStepD).map PyData.bool := by rw [List.map_map]; rfl
        rw [e]
        walk_at "ev"
        have e2 : isMaskD (.tuple xs) = (xs.map isStepD).all id := by
          show (decide (xs.length ≤ 4) && xs.all isStepD) = _
          rw [decide_eq_true (by omega), Bool.true_and, List.all_map]
          rfl
        rw [e2] at q
        exact q
    · walk_at "ev"
      have e2 : isMaskD (.tuple xs) = false := by
        show (decide (xs.length ≤ 4) && xs.all isStepD) = _
        rw [decide_eq_false (by omega), Bool.false_and]
      rw [e2] at q
      exact q
  | _ =>
    refine if_F rfl ?_
    walk_at "ev"
    exact q
/-! is_string -/
def C_is_string : Cp := fun ds R => ∃ d : PyData, ds = [d] ∧ (∀ z, d = .str z → z.length ≤ 100000) ∧ R (.bool (isStringD d))
theorem sc_is_string : FnScope ["value", "char"] ["value"] (defScope s_is_string) := ⟨rfl, rfl, rfl, by decide +kernel, rfl, by decide +kernel, by decide +kernel⟩
theorem dx_is_string (B : Bl mg) (Cc : Cs K mg) (Fx : Fp K mg "is_string" s_is_string) : Dx P w K mg base "is_string" 1 ["value"] (pureC C_is_string) := by
  obtain ⟨u_LETTERS, c_LETTERS⟩ := Cc.LETTERS
  obtain ⟨u_LONGEST, c_LONGEST⟩ := Cc.LONGEST
  obtain ⟨f, fd, F, gl⟩ := Fx
  refine ⟨f, fd, ?_, gl, F.kp, F.bindsN fun _ _ _ _ _ _ us hl => match us, hl with | [_], _ => rfl⟩
  refine fn_pure F sc_is_string (fun ds R h => by
    obtain ⟨_, rfl, _⟩ := h
    rfl) (fun cdv A outer s H E hr => ⟨_, (pss_one (ps_ret (pe_and (pe_callB (kIsi K) (by rfl) B.isinstance (by decide +kernel) (pa_cons (pv 0) (pa_cons (pe_bltn (v := .ty "str") (by rfl) B.str (by decide +kernel) rfl) pa_nil))) (pe_and (pe_cmpR op_le (pe_callB (kLen K) (by rfl) B.len PySem.boot_len (pa_cons (pv 0) pa_nil)) (pe_glob rfl c_LONGEST.1 c_LONGEST.2) (nomark _)) (pe_one (pe_callB (kAll K rfl) (by rfl) B.all (by decide +kernel) (pa_cons (pe_lc (own := [("char", 1)]) (g := gName 1) (tt := tYes) rfl sc_is_string.nd  (kAny K (pv 0)) (blkOk_by (by kernel_rfl)) (fun _ _ _ _ _ => (pg_name (i := 1) sc_is_string.nd rfl (Or.inl rfl))) (fun _ _ _ _ _ => pts_nil) (fun _ _ _ _ _ => (pe_cmpR (kIn K hr hr.units) (pv 1) (pe_glob rfl c_LETTERS.1 c_LETTERS.2) (by rfl)))) pa_nil))))))), ?_⟩)
  rintro ds R ⟨d, rfl, hx, q⟩
  dsimp only [cxOf, Cx.nox, Cx.wish, DL.fill, List.map, List.length_cons, List.length_nil, List.length, Nat.reduceAdd, Nat.reduceSub, List.replicate, List.cons_append, List.nil_append]
  walk_at "ev"
  cases d with
  | str z =>
    have hz := hx z rfl
    refine if_T rfl ?_
    walk_at "ev"
    refine rb_lenS (by omega) ?_
    walk_at "ev"
    refine if_D (fun h => ?_) (fun h => ?_)
    · walk_at "ev"
      refine e_new (n_map (gw_name (by simp)) (ei_S ?_))
      walk_at "ev"
      have hl : (DL.signs z).length = z.length := by simp [DL.signs, Str.length]
      refine ⟨z, rfl, rfl, by omega, fun d => .bool (match d with | .str y => decide (y.cps.toList.headD 0 ∈ letters.cps.toList) | _ => false), fun d hd => g_name ⟨rfl, ?_⟩, ?_⟩
      · unfold DL.signs at hd
        obtain ⟨c, _, rfl⟩ := List.mem_map.mp hd
        walk_at "ev"
        refine rr_inSign ⟨rfl, rfl⟩
      · walk_at "ev"
        have e : (DL.signs z).map (fun d => PyData.bool (match d with | .str y => decide (y.cps.toList.headD 0 ∈ letters.cps.toList) | _ => false)) = (z.cps.toList.map fun c => decide (c ∈ letters.cps.toList)).map PyData.bool := by
          unfold DL.signs
          rw [List.map_map, List.map_map]
          rfl
        rw [e]
        walk_at "ev"
        have e2 : isStringD (.str z) = (z.cps.toList.map fun c => decide (c ∈ letters.cps.toList)).all id := by
          show (decide (z.length ≤ 40) && z.cps.toList.all fun c => decide (c ∈ letters.cps.toList)) = _
          rw [decide_eq_true (by omega), Bool.true_and, List.all_map]
          rfl
        rw [e2] at q
        exact q
    · walk_at "ev"
      have e2 : isStringD (.str z) = false := by
        show (decide (z.length ≤ 40) && z.cps.toList.all fun c => decide (c ∈ letters.cps.toList)) = _
        rw [decide_eq_false (by omega), Bool.false_and]
      rw [e2] at q
      exact q
  | _ =>
    refine if_F rfl ?_
    walk_at "ev"
    exact q
/-! need_mask -/
def C_need_mask : Cp := fun ds R => ∃ m : Mask, ds = [dMask m] ∧ okM 4 5 m ∧ R .none
theorem sc_need_mask : FnScope ["value"] ["value"] (defScope s_need_mask) := ⟨rfl, rfl, rfl, by decide +kernel, rfl, by decide +kernel, by decide +kernel⟩
theorem dx_need_mask (B : Bl mg) (Cc : Cs K mg) (d_is_mask : Dx P w K mg base "is_mask" 3 ["value"] (pureC C_is_mask)) (Fx : Fp K mg "need_mask" s_need_mask) : Dx P w K mg base "need_mask" 4 ["value"] (pureC C_need_mask) := by
  obtain ⟨f_is_mask, fd_is_mask, d_is_mask⟩ := d_is_mask
  obtain ⟨f, fd, F, gl⟩ := Fx
  refine ⟨f, fd, ?_, gl, F.kp, F.bindsN fun _ _ _ _ _ _ us hl => match us, hl with | [_], _ => rfl⟩
  refine fn_pure F sc_need_mask (fun ds R h => by
    obtain ⟨_, rfl, _⟩ := h
    rfl) (fun cdv A outer s H E hr => ⟨_, (pss_one (ps_if (pt_not (kTru K (kCall K d_is_mask hr (by decide) (by rfl) (pa_cons (pv 0) pa_nil))))
  (pss_one ps_never)
  pss_nil)), ?_⟩)
  rintro ds R ⟨m, rfl, hm, q⟩
  dsimp only [cxOf, Cx.nox, Cx.wish, DL.fill, List.map, List.length_cons, List.length_nil, List.length, Nat.reduceAdd, Nat.reduceSub, List.replicate, List.cons_append, List.nil_append]
  walk_at "ev"
  refine e_callP ?_
  walk_at "ev"
  refine ⟨dMask m, rfl, ⟨okN_mono (dMask_ok m) (by decide), fun xs h => ?_⟩, ?_⟩
  · cases h
    rw [List.length_map]
    exact Nat.le_trans hm.1 (by decide)
  · rw [mask_is hm]
    walk_at "ev"
    refine if_F rfl ?_
    walk_at "ev"
    exact q
/-! need_string -/
def C_need_string : Cp := fun ds R => ∃ l : List Nat, ds = [.str (mkS l)] ∧ (okT l ∧ l.length ≤ 40) ∧ R .none
theorem sc_need_string : FnScope ["value"] ["value"] (defScope s_need_string) := ⟨rfl, rfl, rfl, by decide +kernel, rfl, by decide +kernel, by decide +kernel⟩
theorem dx_need_string (B : Bl mg) (Cc : Cs K mg) (d_is_string : Dx P w K mg base "is_string" 1 ["value"] (pureC C_is_string)) (Fx : Fp K mg "need_string" s_need_string) : Dx P w K mg base "need_string" 2 ["value"] (pureC C_need_string) := by
  obtain ⟨f_is_string, fd_is_string, d_is_string⟩ := d_is_string
  obtain ⟨f, fd, F, gl⟩ := Fx
  refine ⟨f, fd, ?_, gl, F.kp, F.bindsN fun _ _ _ _ _ _ us hl => match us, hl with | [_], _ => rfl⟩
  refine fn_pure F sc_need_string (fun ds R h => by
    obtain ⟨_, rfl, _⟩ := h
    rfl) (fun cdv A outer s H E hr => ⟨_, (pss_one (ps_if (pt_not (kTru K (kCall K d_is_string hr (by decide) (by rfl) (pa_cons (pv 0) pa_nil))))
  (pss_one ps_never)
  pss_nil)), ?_⟩)
  rintro ds R ⟨l, rfl, ⟨hl, hn⟩, q⟩
  dsimp only [cxOf, Cx.nox, Cx.wish, DL.fill, List.map, List.length_cons, List.length_nil, List.length, Nat.reduceAdd, Nat.reduceSub, List.replicate, List.cons_append, List.nil_append]
  walk_at "ev"
  refine e_callP ?_
  walk_at "ev"
  refine ⟨_, rfl, fun z h => ?_, ?_⟩
  · cases h
    rw [mkS_len]
    omega
  · rw [string_is hl hn]
    walk_at "ev"
    refine if_F rfl ?_
    walk_at "ev"
    exact q
/-! squeezed -/
def C_squeezed : Cp := fun ds R => ∃ (r : List (Option Nat)) (n : Nat), ds = [.list (dRow r), .int n] ∧ (n ≤ 5 ∧ r.length ≤ 100000) ∧ R (.list (dRow (stepR (.cnt .sq n) r)))
theorem sc_squeezed : FnScope ["row", "count", "result", "at", "one"] ["row", "count"] (defScope s_squeezed) := ⟨rfl, rfl, rfl, by decide +kernel, rfl, by decide +kernel, by decide +kernel⟩
theorem dx_squeezed (B : Bl mg) (Cc : Cs K mg) (Fx : Fp K mg "squeezed" s_squeezed) : Dx P w K mg base "squeezed" 1 ["row", "count"] (pureC C_squeezed) := by
  obtain ⟨f, fd, F, gl⟩ := Fx
  refine ⟨f, fd, ?_, gl, F.kp, F.bindsN fun _ _ _ _ _ _ us hl => match us, hl with | [_, _], _ => rfl⟩
  refine fn_pure F sc_squeezed (fun ds R h => by
    obtain ⟨_, _, rfl, _⟩ := h
    rfl) (fun cdv A outer s H E hr => ⟨_, (pss_cons (ps_set (i := 2) sc_squeezed.nd rfl (.inl rfl) (pe_lst pa_nil))
  (pss_cons (ps_for PassesOwn.never rfl (kEnum K (by rfl) B.enumerate (pa_cons (pv 0) pa_nil)) (kTup K (n := 2) rfl (pgs_cons (pg_name (i := 3) sc_squeezed.nd rfl (.inl rfl)) (pgs_cons (pg_name (i := 4) sc_squeezed.nd rfl (.inl rfl)) pgs_nil)))
  (pss_one (ps_if (pt_cmpR uIsNot (pv 4) pe_non (nomark _))
  (pss_one (ps_expr (kBm K PySem.F.plainAttrs_list PySem.F.slot_list_append PySem.F.type_list_append mt_append (pv 2) (pa_cons (pv 4) pa_nil))))
  (pss_one (ps_if (PW.pt (pw_or (pt_cmpR (kEq K hr.units) (pv 3) pe_int (nomark _)) (pw_or1 (pt_cmpR uIsNot (pe_ix (kIx K) (pv 0) (pe_op op_sub (pv 3) pe_int) (fun _ _ => rfl)) pe_non (nomark _)))))
  (pss_one (ps_expr (kBm K PySem.F.plainAttrs_list PySem.F.slot_list_extend PySem.F.type_list_extend mt_extend (pv 2) (pa_cons (pe_op (kMul K) (pe_lst (pa_cons pe_non pa_nil)) (pv 1)) pa_nil))))
  pss_nil)))))
  (pss_one (ps_ret (pv 2))))), ?_⟩)
  rintro ds R ⟨r, n, rfl, ⟨hn, hl⟩, q⟩
  dsimp only [cxOf, Cx.nox, Cx.wish, DL.fill, List.map, List.length_cons, List.length_nil, List.length, Nat.reduceAdd, Nat.reduceSub, List.replicate, List.cons_append, List.nil_append]
  refine ss_seq (s_own (n_lst ?_))
  walk_at "ev"
  intro a
  refine ss_seq (ss_for (ei_enum ?_))
  walk_at "ev"
  refine ⟨dRow r, rfl, fun i S => ∃ x y, S = [.dat (.list (dRow r)), .dat (.int n), .own true a (.lst (dRow (sqG none isN n false (r.take i)))), x, y], ⟨_, _, rfl⟩, ?_, ?_⟩
  · rintro i d S hd ⟨x, y, rfl⟩
    obtain ⟨c, hc, rfl⟩ := enum_row hd
    have hb := sq_take_len n r i hn
    refine g_two ⟨rfl, rfl, ?_⟩
    walk_at "ev"
    cases c with
    | some v =>
      refine if_T rfl ?_
      walk_at "ev"
      refine ee_append rfl ?_
      walk_at "ev"
      dsimp only
      rw [sq_some hc, dRow_app]
      exact ⟨_, _, rfl, rfl, by rw [dRow_len]; omega, _, _, rfl⟩
    | none =>
      refine if_F rfl ?_
      walk_at "ev"
      have ext : ∀ (S2 : List Sl) (hS : S2 = [.dat (.list (dRow r)), .dat (.int n), .own true a (.lst (dRow (sqG none isN n false (r.take i)))), .dat (.int i), .dat .none]), (sqG none isN n false (r.take (i + 1)) = sqG none isN n false (r.take i) ++ List.replicate n none) →
          EE K (tBM K "list" rExtend (tVar 2) (tCons (tOp (uMulR K) (tLst (tCons (tC .non) tNil)) (tVar 1)) tNil)) S2 fun _ S1 => ∃ x y, S1 = [.dat (.list (dRow r)), .dat (.int n), .own true a (.lst (dRow (sqG none isN n false (r.take (i + 1))))), x, y] := fun S2 hS hq => by
        subst hS
        refine ee_extend rfl ?_
        refine ea_cons (ee_opN ?_)
        refine e_lst ?_
        walk_at "ev"
        refine rn_rep rfl (by omega) (by omega) ?_ ⟨rfl, ?_⟩
        · rw [Int.toNat_natCast]
          simp
          omega
        walk_at "ev"
        rw [hq, dRow_app, ← rep_none]
        refine ⟨_, _, _, rfl, rfl, rfl, ?_, _, _, rfl⟩
        rw [Int.toNat_natCast, rep_none, dRow_len, dRow_len, List.length_replicate]
        omega
      by_cases hi : i = 0
      · subst hi
        refine if_eqI (fun _ => ?_) (fun z => absurd rfl z)
        walk_at "ev"
        exact ext _ rfl (sq_none0 hc)
      · refine if_eqI (fun z => absurd z (by omega)) (fun _ => ?_)
        obtain ⟨p, hp, _⟩ := last_take hc (by omega)
        walk_at "ev"
        refine rr_ixL rfl (at_prev (by omega) hp) ?_
        walk_at "ev"
        rw [isNone_cell]
        cases p with
        | none =>
          refine if_F rfl ?_
          walk_at "ev"
          dsimp only
          rw [sq_none hc (by omega) hp]
          show ∃ x y, _ = [_, _, Sl.own true a (.lst (dRow (sqG none isN n false (r.take i) ++ []))), x, y]
          rw [List.append_nil]
          exact ⟨_, _, rfl⟩
        | some v =>
          refine if_T rfl ?_
          walk_at "ev"
          exact ext _ rfl (by rw [sq_none hc (by omega) hp]; rfl)
  · rintro S ⟨x, y, rfl⟩
    refine ss_freeze (i := 2) rfl rfl ?_
    walk_at "ev"
    rw [enumD_len, dRow_len, List.take_length]
    exact q
/-! hidden -/
def C_hidden : Cp := fun ds R => ∃ (r : List PyData) (a b : Int), ds = [.list r, .int a, .int b] ∧ r.length ≤ 1000000 ∧ R (.list (hidD r a b))
theorem sc_hidden : FnScope ["row", "start", "stop", "at", "one"] ["row", "start", "stop"] (defScope s_hidden) := ⟨rfl, rfl, rfl, by decide +kernel, rfl, by decide +kernel, by decide +kernel⟩
theorem dx_hidden (B : Bl mg) (Cc : Cs K mg) (Fx : Fp K mg "hidden" s_hidden) : Dx P w K mg base "hidden" 1 ["row", "start", "stop"] (pureC C_hidden) := by
  obtain ⟨f, fd, F, gl⟩ := Fx
  refine ⟨f, fd, ?_, gl, F.kp, F.bindsN fun _ _ _ _ _ _ us hl => match us, hl with | [_, _, _], _ => rfl⟩
  refine fn_pure F sc_hidden (fun ds R h => by
    obtain ⟨_, _, _, rfl, _⟩ := h
    rfl) (fun cdv A outer s H E hr => ⟨_, (pss_one (ps_ret (pe_lc (own := [("at", 3), ("one", 4)]) (g := gTup K 2 (gCons (gName 3) (gCons (gName 4) gNil))) (tt := tYes) rfl sc_hidden.nd  (kEnum K (by rfl) B.enumerate (pa_cons (pv 0) pa_nil)) (blkOk_by (by kernel_rfl)) (fun _ _ _ _ _ => (kTup K (n := 2) rfl (pgs_cons (pg_name (i := 3) sc_hidden.nd rfl (Or.inl rfl)) (pgs_cons (pg_name (i := 4) sc_hidden.nd rfl (Or.inl rfl)) pgs_nil)))) (fun _ _ _ _ _ => pts_nil) (fun _ _ _ _ _ => (pe_ifExp (pt_chain op_le op_lt (pv 1) (pv 3) (pv 2)) pe_non (pv 4)))))), ?_⟩)
  rintro ds R ⟨r, a, b, rfl, hl, q⟩
  dsimp only [cxOf, Cx.nox, Cx.wish, DL.fill, List.map, List.length_cons, List.length_nil, List.length, Nat.reduceAdd, Nat.reduceSub, List.replicate, List.cons_append, List.nil_append]
  walk_at "ev"
  refine e_new (n_map (gw_two (by simp) (by simp)) (ei_enum ?_))
  walk_at "ev"
  refine ⟨r, rfl, rfl, by simpa [enumD] using hl, hidF a b, fun d hd => ?_, q⟩
  obtain ⟨i, x, rfl, _⟩ := mem_enumD hd
  refine g_two ⟨rfl, rfl, ?_⟩
  walk_at "ev"
  refine if_D (fun h1 => ?_) (fun h1 => ?_)
  · walk_at "ev"
    refine if_D (fun h2 => ?_) (fun h2 => ?_)
    · walk_at "ev"
      exact ⟨by rw [hidF, if_pos ⟨h1, h2⟩], rfl⟩
    · walk_at "ev"
      exact ⟨by rw [hidF, if_neg fun z => h2 z.2], rfl⟩
  · walk_at "ev"
    exact ⟨by rw [hidF, if_neg fun z => h1 z.1], rfl⟩
/-! stepped -/
def C_stepped : Cp := fun ds R => ∃ (s : Stp) (r : List (Option Nat)), ds = [dStep s, .list (dRow r)] ∧ (okS 5 s ∧ r.length ≤ 100000) ∧ R (.list (dRow (stepR s r)))
theorem sc_stepped : FnScope ["step", "row", "name", "many", "count"] ["step", "row"] (defScope s_stepped) := ⟨rfl, rfl, rfl, by decide +kernel, rfl, by decide +kernel, by decide +kernel⟩
theorem dx_stepped (B : Bl mg) (Cc : Cs K mg) (d_hidden : Dx P w K mg base "hidden" 1 ["row", "start", "stop"] (pureC C_hidden)) (d_squeezed : Dx P w K mg base "squeezed" 1 ["row", "count"] (pureC C_squeezed)) (Fx : Fp K mg "stepped" s_stepped) : Dx P w K mg base "stepped" 2 ["step", "row"] (pureC C_stepped) := by
  obtain ⟨f_hidden, fd_hidden, d_hidden⟩ := d_hidden
  obtain ⟨f_squeezed, fd_squeezed, d_squeezed⟩ := d_squeezed
  obtain ⟨f, fd, F, gl⟩ := Fx
  refine ⟨f, fd, ?_, gl, F.kp, F.bindsN fun _ _ _ _ _ _ us hl => match us, hl with | [_, _], _ => rfl⟩
  refine fn_pure F sc_stepped (fun ds R h => by
    obtain ⟨_, _, rfl, _⟩ := h
    rfl) (fun cdv A outer s H E hr => ⟨_, (pss_cons (ps_par (i := 2) (j := 3) rfl sc_stepped.nd rfl rfl (by decide) rfl rfl (pa_cons (pe_ix (kIx K) (pv 0) pe_int (fun _ _ => rfl)) (pa_cons (pe_callB (kLen K) (by rfl) B.len PySem.boot_len (pa_cons (pv 1) pa_nil)) pa_nil)) (by rfl))
  (pss_cons (ps_if (pt_cmpR (kEq K hr.units) (pv 2) pe_str (nomark _))
  (pss_one (ps_ret (kRev K (pv 1))))
  pss_nil)
  (pss_cons (ps_set (i := 4) sc_stepped.nd rfl (.inl rfl) (pe_ix (kIx K) (pv 0) pe_int (fun _ _ => rfl)))
  (pss_cons (ps_if (pt_cmpR (kEq K hr.units) (pv 2) pe_str (nomark _))
  (pss_one (ps_ret (kCall K d_hidden hr (by decide) (by rfl) (pa_cons (pv 1) (pa_cons (pv 4) (pa_cons (pv 3) pa_nil))))))
  pss_nil)
  (pss_cons (ps_if (pt_cmpR (kEq K hr.units) (pv 2) pe_str (nomark _))
  (pss_one (ps_ret (kCall K d_hidden hr (by decide) (by rfl) (pa_cons (pv 1) (pa_cons pe_int (pa_cons (pe_op op_sub (pv 3) (pv 4)) pa_nil))))))
  pss_nil)
  (pss_cons (ps_if (pt_cmpR (kEq K hr.units) (pv 2) pe_str (nomark _))
  (pss_one (ps_ret (kCall K d_hidden hr (by decide) (by rfl) (pa_cons (pv 1) (pa_cons pe_int (pa_cons (pv 4) pa_nil))))))
  pss_nil)
  (pss_cons (ps_if (pt_cmpR (kEq K hr.units) (pv 2) pe_str (nomark _))
  (pss_one (ps_ret (kCall K d_hidden hr (by decide) (by rfl) (pa_cons (pv 1) (pa_cons (pe_op op_sub (pv 3) (pv 4)) (pa_cons (pv 3) pa_nil))))))
  pss_nil)
  (pss_cons (ps_if (pt_cmpR (kEq K hr.units) (pv 2) pe_str (nomark _))
  (pss_one (ps_ret (pe_slice (kSl K) (pv 1) (po_some (pv 4)) po_none)))
  pss_nil)
  (pss_cons (ps_if (pt_cmpR (kEq K hr.units) (pv 2) pe_str (nomark _))
  (pss_one (ps_ret (pe_slice (kSl K) (pv 1) po_none (po_some (pe_callB (call_max2 rfl) (by rfl) B.max (by decide +kernel) (pa_cons (pe_op op_sub (pv 3) (pv 4)) (pa_cons pe_int pa_nil)))))))
  pss_nil)
  (pss_cons (ps_if (pt_cmpR (kEq K hr.units) (pv 2) pe_str (nomark _))
  (pss_one (ps_ret (kCall K d_squeezed hr (by decide) (by rfl) (pa_cons (pv 1) (pa_cons (pv 4) pa_nil)))))
  pss_nil)
  (pss_one (ps_ret (pe_ifExp (pt_cmpR op_lt (pv 3) (pv 4) (nomark _)) (pe_op (kMul K) (pe_lst (pa_cons pe_non pa_nil)) (pv 3)) (pv 1)))))))))))))), ?_⟩)
  rintro ds R ⟨s, r, rfl, ⟨hs, hl⟩, q⟩
  dsimp only [cxOf, Cx.nox, Cx.wish, DL.fill, List.map, List.length_cons, List.length_nil, List.length, Nat.reduceAdd, Nat.reduceSub, List.replicate, List.cons_append, List.nil_append]
  cases s with
  | rev =>
    unfold dStep
    walk_at "ev"
    refine ⟨_, _, rfl, rfl, rfl, ?_⟩
    walk_at "ev"
    refine if_eqS (fun _ => ?_) (fun z => absurd rfl z)
    walk_at "ev"
    refine ee_revL ?_
    walk_at "ev"
    refine ⟨_, rfl, ?_⟩
    walk_at "ev"
    unfold dRow
    rw [← List.map_reverse]
    exact q
  | cnt k n =>
    have hn : n ≤ 5 := hs
    unfold dStep
    walk_at "ev"
    refine ⟨_, _, rfl, rfl, rfl, ?_⟩
    walk_at "ev"
    cases k <;> (simp only [Nm.s]; repeat (first | (refine if_eqS (fun z => absurd z (by decide +kernel)) (fun _ => ?_); walk_at "ev") | (refine if_eqS (fun _ => ?_) (fun z => absurd rfl z))))
    · walk_at "ev"
      refine e_callP ?_
      walk_at "ev"
      refine ⟨_, _, _, rfl, by rw [dRow_len]; omega, ?_⟩
      rw [dRow_len, hid_kf]
      exact q
    · walk_at "ev"
      refine e_callP ?_
      walk_at "ev"
      refine ⟨_, _, _, rfl, by rw [dRow_len]; omega, ?_⟩
      rw [dRow_len, hid_kl]
      exact q
    · walk_at "ev"
      refine e_callP ?_
      walk_at "ev"
      refine ⟨_, _, _, rfl, by rw [dRow_len]; omega, ?_⟩
      rw [hid_hf]
      exact q
    · walk_at "ev"
      refine e_callP ?_
      walk_at "ev"
      refine ⟨_, _, _, rfl, by rw [dRow_len]; omega, ?_⟩
      rw [dRow_len, hid_hl]
      exact q
    · walk_at "ev"
      rw [cut_from]
      have e : (dRow r).drop n = dRow (stepR (.cnt .cf n) r) := (List.map_drop).symm
      rw [e]
      exact q
    · walk_at "ev"
      rw [dRow_len, max0, cut_to]
      have e : (dRow r).take (r.length - n) = dRow (stepR (.cnt .cl n) r) := (List.map_take).symm
      rw [e]
      exact q
    · walk_at "ev"
      refine e_callP ?_
      walk_at "ev"
      exact ⟨r, n, rfl, ⟨hn, hl⟩, q⟩
    · walk_at "ev"
      rw [dRow_len]
      refine if_D (fun h => ?_) (fun h => ?_)
      · refine ee_opN (e_lst ?_)
        walk_at "ev"
        refine rn_rep rfl (by omega) (by omega) ?_ ⟨rfl, ?_⟩
        · rw [Int.toNat_natCast]
          simp
          omega
        walk_at "ev"
        rw [Int.toNat_natCast]
        show R (.list (List.replicate r.length [PyData.none]).flatten)
        rw [rep_none]
        have e : stepR (.cnt .sh n) r = List.replicate r.length none := if_pos (by omega)
        rw [e] at q
        exact q
      · walk_at "ev"
        have e : stepR (.cnt .sh n) r = r := if_neg (by omega)
        rw [e] at q
        exact q
/-! template_of -/
def C_template_of : Cp := fun ds R => ∃ (m : Mask) (n : Nat), ds = [dMask m, .int n] ∧ (okM 4 5 m ∧ n ≤ 150) ∧ R (.tuple (dRow (templ m n)))
theorem sc_template_of : FnScope ["mask", "length", "row", "step"] ["mask", "length"] (defScope s_template_of) := ⟨rfl, rfl, rfl, by decide +kernel, rfl, by decide +kernel, by decide +kernel⟩
theorem dx_template_of (B : Bl mg) (Cc : Cs K mg) (d_stepped : Dx P w K mg base "stepped" 2 ["step", "row"] (pureC C_stepped)) (Fx : Fp K mg "template_of" s_template_of) : Dx P w K mg base "template_of" 3 ["mask", "length"] (pureC C_template_of) := by
  obtain ⟨f_stepped, fd_stepped, d_stepped⟩ := d_stepped
  obtain ⟨f, fd, F, gl⟩ := Fx
  refine ⟨f, fd, ?_, gl, F.kp, F.bindsN fun _ _ _ _ _ _ us hl => match us, hl with | [_, _], _ => rfl⟩
  refine fn_pure F sc_template_of (fun ds R h => by
    obtain ⟨_, _, rfl, _⟩ := h
    rfl) (fun cdv A outer s H E hr => ⟨_, (pss_cons (ps_set (i := 2) sc_template_of.nd rfl (.inl rfl) (pe_listRg rfl (by rfl) B.list (prg_1 (by rfl) B.range (pv 1))))
  (pss_cons (ps_for PassesOwn.never rfl (kAny K (pv 0)) (pg_name (i := 3) sc_template_of.nd rfl (.inl rfl))
  (pss_one (ps_set (i := 2) sc_template_of.nd rfl (.inl rfl) (kCall K d_stepped hr (by decide) (by rfl) (pa_cons (pv 3) (pa_cons (pv 2) pa_nil))))))
  (pss_one (ps_ret (pe_callTy (kTuple K) (by rfl) B.tuple (by decide +kernel) (pa_cons (pv 2) pa_nil)))))), ?_⟩)
  rintro ds R ⟨m, n, rfl, ⟨hm, hn⟩, q⟩
  dsimp only [cxOf, Cx.nox, Cx.wish, DL.fill, List.map, List.length_cons, List.length_nil, List.length, Nat.reduceAdd, Nat.reduceSub, List.replicate, List.cons_append, List.nil_append]
  refine ss_seq (s_let (e_new (en_listRg1 ?_)))
  walk_at "ev"
  refine ⟨n, rfl, by omega, ?_⟩
  walk_at "ev"
  have e0 : ((List.range n).map fun i => PyData.int (i : Nat)) = dRow ((List.range n).map some) := by
    unfold dRow
    rw [List.map_map]
    rfl
  rw [e0]
  refine ss_for (ei_T ?_)
  walk_at "ev"
  refine ⟨_, rfl, fun i S => ∃ x, S = [.dat (dMask m), .dat (.int n), .dat (.list (dRow (runR (m.take i) ((List.range n).map some)))), x], ⟨_, rfl⟩, ?_, ?_⟩
  · rintro i d S hd ⟨x, rfl⟩
    rw [List.getElem?_map] at hd
    obtain ⟨s, hs, rfl⟩ : ∃ s, m[i]? = some s ∧ d = dStep s := by
      cases h : m[i]? with
      | none => rw [h] at hd; cases hd
      | some s => rw [h] at hd; exact ⟨s, rfl, (Option.some.inj hd).symm⟩
    refine g_name ⟨rfl, ?_⟩
    refine s_let (e_callP ?_)
    walk_at "ev"
    have hb : (runR (m.take i) ((List.range n).map some)).length ≤ 625 * n := templ_len (m := m.take i) ⟨by rw [List.length_take]; have := hm.1; omega, fun s hs => hm.2 s (List.mem_of_mem_take hs)⟩ n
    refine ⟨s, _, rfl, ⟨hm.2 s (List.mem_of_getElem? hs), by omega⟩, ?_⟩
    walk_at "ev"
    have e1 : runR (m.take (i + 1)) ((List.range n).map some) = stepR s (runR (m.take i) ((List.range n).map some)) := by
      rw [take_next hs]
      exact List.foldl_append
    dsimp only
    rw [e1]
    exact ⟨_, rfl⟩
  · rintro S ⟨x, rfl⟩
    walk_at "ev"
    rw [List.length_map, List.take_length]
    exact q
/-! output_of -/
def C_output_of : Cp := fun ds R => ∃ (m : Mask) (l : List Nat), ds = [dMask m, .str (mkS l)] ∧ (okM 4 5 m ∧ okT l ∧ l.length ≤ 40) ∧ R (.str (mkS (runT m l)))
theorem sc_output_of : FnScope ["mask", "string", "at"] ["mask", "string"] (defScope s_output_of) := ⟨rfl, rfl, rfl, by decide +kernel, rfl, by decide +kernel, by decide +kernel⟩
theorem dx_output_of (B : Bl mg) (Cc : Cs K mg) (d_template_of : Dx P w K mg base "template_of" 3 ["mask", "length"] (pureC C_template_of)) (Fx : Fp K mg "output_of" s_output_of) : Dx P w K mg base "output_of" 4 ["mask", "string"] (pureC C_output_of) := by
  obtain ⟨f_template_of, fd_template_of, d_template_of⟩ := d_template_of
  obtain ⟨f, fd, F, gl⟩ := Fx
  refine ⟨f, fd, ?_, gl, F.kp, F.bindsN fun _ _ _ _ _ _ us hl => match us, hl with | [_, _], _ => rfl⟩
  refine fn_pure F sc_output_of (fun ds R h => by
    obtain ⟨_, _, rfl, _⟩ := h
    rfl) (fun cdv A outer s H E hr => ⟨_, (pss_one (ps_ret (kJoin K pe_str (pe_lc (own := [("at", 2)]) (g := gName 2) (tt := tYes) rfl sc_output_of.nd  (kAny K (kCall K d_template_of hr (by decide) (by rfl) (pa_cons (pv 0) (pa_cons (pe_callB (kLen K) (by rfl) B.len PySem.boot_len (pa_cons (pv 1) pa_nil)) pa_nil)))) (blkOk_by (by kernel_rfl)) (fun _ _ _ _ _ => (pg_name (i := 2) sc_output_of.nd rfl (Or.inl rfl))) (fun _ _ _ _ _ => pts_nil) (fun _ _ _ _ _ => (pe_ifExp (pt_cmpR uIs (pv 2) pe_non (nomark _)) pe_str (pe_ix (kIx K) (pv 1) (pv 2) (fun _ _ => rfl)))))))), ?_⟩)
  rintro ds R ⟨m, l, rfl, ⟨hm, hl, hn⟩, q⟩
  dsimp only [cxOf, Cx.nox, Cx.wish, DL.fill, List.map, List.length_cons, List.length_nil, List.length, Nat.reduceAdd, Nat.reduceSub, List.replicate, List.cons_append, List.nil_append]
  walk_at "ev"
  refine ee_join ?_
  walk_at "ev"
  refine ⟨_, rfl, e_new (n_map (gw_name (by simp)) (ei_T (e_callP ?_)))⟩
  walk_at "ev"
  refine rb_lenS (by rw [mkS_len]; omega) ?_
  walk_at "ev"
  refine ⟨m, l.length, rfl, ⟨hm, by omega⟩, _, rfl, rfl, ?_, outF l, fun d hd => g_name ⟨rfl, ?_⟩, ?_⟩
  · rw [dRow_len]
    have := templ_len hm l.length
    omega
  · unfold dRow at hd
    obtain ⟨c, hc, rfl⟩ := List.mem_map.mp hd
    walk_at "ev"
    rw [isNone_cell]
    cases c with
    | none =>
      refine if_T rfl ?_
      walk_at "ev"
      exact ⟨rfl, rfl⟩
    | some i =>
      refine if_F rfl ?_
      walk_at "ev"
      have hi := templ_lt hc
      refine rr_ixS (by rw [mkS_len]; omega) (atI_nat (List.getElem?_eq_getElem hi)) ⟨?_, rfl⟩
      show _ = Vx.dat (.str (mkS [l.getD ((i : Int)).toNat 97]))
      rw [Int.toNat_natCast, List.getD_eq_getElem?_getD, List.getElem?_eq_getElem hi]
      rfl
  · have e := out_strs m l
    walk_at "ev"
    refine ⟨((templ m l.length).map (cell fun i => l.getD i 97)).map fun c => mkS [c], congrArg some e, ?_, ?_⟩
    · have := templ_len hm l.length
      rw [sum_ones]
      rw [List.length_map, List.length_map]
      show _ + _ * 0 ≤ _
      omega
    · walk_at "ev"
      rw [MK.join_ones, ← run_text hl m]
      exact q
/-! apply -/
def C_apply : Cp := fun ds R => ∃ (m : Mask) (l : List Nat), ds = [dMask m, .str (mkS l)] ∧ (okM 4 5 m ∧ okT l ∧ l.length ≤ 40) ∧ R (.str (mkS (runT m l)))
theorem sc_apply : FnScope ["mask", "string"] ["mask", "string"] (defScope s_apply) := ⟨rfl, rfl, rfl, by decide +kernel, rfl, by decide +kernel, by decide +kernel⟩
theorem dx_apply (B : Bl mg) (Cc : Cs K mg) (d_need_mask : Dx P w K mg base "need_mask" 4 ["value"] (pureC C_need_mask)) (d_need_string : Dx P w K mg base "need_string" 2 ["value"] (pureC C_need_string)) (d_output_of : Dx P w K mg base "output_of" 4 ["mask", "string"] (pureC C_output_of)) (Fx : Fp K mg "apply" s_apply) : Dx P w K mg base "apply" 5 ["mask", "string"] (pureC C_apply) := by
  obtain ⟨f_need_mask, fd_need_mask, d_need_mask⟩ := d_need_mask
  obtain ⟨f_need_string, fd_need_string, d_need_string⟩ := d_need_string
  obtain ⟨f_output_of, fd_output_of, d_output_of⟩ := d_output_of
  obtain ⟨f, fd, F, gl⟩ := Fx
  refine ⟨f, fd, ?_, gl, F.kp, F.bindsN fun _ _ _ _ _ _ us hl => match us, hl with | [_, _], _ => rfl⟩
  refine fn_pure F sc_apply (fun ds R h => by
    obtain ⟨_, _, rfl, _⟩ := h
    rfl) (fun cdv A outer s H E hr => ⟨_, (pss_cons (ps_expr (kCall K d_need_mask hr (by decide) (by rfl) (pa_cons (pv 0) pa_nil)))
  (pss_cons (ps_expr (kCall K d_need_string hr (by decide) (by rfl) (pa_cons (pv 1) pa_nil)))
  (pss_one (ps_ret (kCall K d_output_of hr (by decide) (by rfl) (pa_cons (pv 0) (pa_cons (pv 1) pa_nil))))))), ?_⟩)
  rintro ds R ⟨m, l, rfl, ⟨hm, hl, hn⟩, q⟩
  dsimp only [cxOf, Cx.nox, Cx.wish, DL.fill, List.map, List.length_cons, List.length_nil, List.length, Nat.reduceAdd, Nat.reduceSub, List.replicate, List.cons_append, List.nil_append]
  walk_at "ev"
  refine e_callP ?_
  walk_at "ev"
  refine ⟨m, rfl, hm, ?_⟩
  walk_at "ev"
  refine e_callP ?_
  walk_at "ev"
  refine ⟨l, rfl, ⟨hl, hn⟩, ?_⟩
  walk_at "ev"
  refine e_callP ?_
  walk_at "ev"
  exact ⟨m, l, rfl, ⟨hm, hl, hn⟩, q⟩
/-! template -/
def C_template : Cp := fun ds R => ∃ (m : Mask) (n : Nat), ds = [dMask m, .int n] ∧ (okM 4 5 m ∧ n ≤ 40) ∧ R (.tuple (dRow (templ m n)))
theorem sc_template : FnScope ["mask", "length"] ["mask", "length"] (defScope s_template) := ⟨rfl, rfl, rfl, by decide +kernel, rfl, by decide +kernel, by decide +kernel⟩
theorem dx_template (B : Bl mg) (Cc : Cs K mg) (d_need_mask : Dx P w K mg base "need_mask" 4 ["value"] (pureC C_need_mask)) (d_is_count : Dx P w K mg base "is_count" 1 ["value", "least", "most"] (pureC C_is_count)) (d_template_of : Dx P w K mg base "template_of" 3 ["mask", "length"] (pureC C_template_of)) (Fx : Fp K mg "template" s_template) : Dx P w K mg base "template" 5 ["mask", "length"] (pureC C_template) := by
  obtain ⟨f_need_mask, fd_need_mask, d_need_mask⟩ := d_need_mask
  obtain ⟨f_is_count, fd_is_count, d_is_count⟩ := d_is_count
  obtain ⟨f_template_of, fd_template_of, d_template_of⟩ := d_template_of
  obtain ⟨u_LONGEST, c_LONGEST⟩ := Cc.LONGEST
  obtain ⟨f, fd, F, gl⟩ := Fx
  refine ⟨f, fd, ?_, gl, F.kp, F.bindsN fun _ _ _ _ _ _ us hl => match us, hl with | [_, _], _ => rfl⟩
  refine fn_pure F sc_template (fun ds R h => by
    obtain ⟨_, _, rfl, _⟩ := h
    rfl) (fun cdv A outer s H E hr => ⟨_, (pss_cons (ps_expr (kCall K d_need_mask hr (by decide) (by rfl) (pa_cons (pv 0) pa_nil)))
  (pss_cons (ps_if (pt_not (kTru K (kCall K d_is_count hr (by decide) (by rfl) (pa_cons (pv 1) (pa_cons pe_int (pa_cons (pe_glob rfl c_LONGEST.1 c_LONGEST.2) pa_nil))))))
  (pss_one ps_never)
  pss_nil)
  (pss_one (ps_ret (kCall K d_template_of hr (by decide) (by rfl) (pa_cons (pv 0) (pa_cons (pv 1) pa_nil))))))), ?_⟩)
  rintro ds R ⟨m, n, rfl, ⟨hm, hn⟩, q⟩
  dsimp only [cxOf, Cx.nox, Cx.wish, DL.fill, List.map, List.length_cons, List.length_nil, List.length, Nat.reduceAdd, Nat.reduceSub, List.replicate, List.cons_append, List.nil_append]
  walk_at "ev"
  refine e_callP ?_
  walk_at "ev"
  refine ⟨m, rfl, hm, ?_⟩
  walk_at "ev"
  refine e_callP ?_
  walk_at "ev"
  refine ⟨_, _, _, rfl, trivial, ?_⟩
  have e : isCountD (.int n) 0 40 = true := decide_eq_true ⟨by omega, by omega⟩
  rw [e]
  walk_at "ev"
  refine if_F rfl ?_
  walk_at "ev"
  refine e_callP ?_
  walk_at "ev"
  exact ⟨m, n, rfl, ⟨hm, by omega⟩, q⟩
/-! bound -/
def C_bound : Cp := fun ds R => ∃ (ms : List Mask) (d : PyData), ds = [d] ∧ (seqD d = some (ms.map dMask) ∧ ms.length ≤ 1000 ∧ ∀ m ∈ ms, m.length ≤ 1000) ∧ R (.int (bnd ms : Nat))
def stF : PyData → PyData
  | .tuple [_, .int n] => .int n
  | _ => .int 0
theorem stF_step (s : Stp) : stF (dStep s) = .int (cntS s : Nat) := by cases s <;> rfl
def maF : PyData → PyData
  | .tuple ds => .int ((ds.map fun d => match stF d with | .int i => i | _ => 0).sum)
  | _ => .int 0
theorem maF_mask (m : Mask) : maF (dMask m) = .int (sumM m : Nat) := by
  show PyData.int _ = _
  rw [List.map_map]
  have e : ((fun d => match stF d with | .int i => i | _ => (0 : Int)) ∘ dStep) = fun s => ((cntS s : Nat) : Int) := by
    funext s
    show (match stF (dStep s) with | .int i => i | _ => 0) = _
    rw [stF_step]
  rw [e, show (fun s => ((cntS s : Nat) : Int)) = (fun (n : Nat) => (n : Int)) ∘ cntS from rfl, ← List.map_map, sum_cast]
  rfl
theorem sc_bound : FnScope ["masks", "mask", "step"] ["masks"] (defScope s_bound) := ⟨rfl, rfl, rfl, by decide +kernel, rfl, by decide +kernel, by decide +kernel⟩
theorem dx_bound (B : Bl mg) (Cc : Cs K mg) (Fx : Fp K mg "bound" s_bound) : Dx P w K mg base "bound" 1 ["masks"] (pureC C_bound) := by
  obtain ⟨f, fd, F, gl⟩ := Fx
  refine ⟨f, fd, ?_, gl, F.kp, F.bindsN fun _ _ _ _ _ _ us hl => match us, hl with | [_], _ => rfl⟩
  refine fn_pure F sc_bound (fun ds R h => by
    obtain ⟨_, _, rfl, _⟩ := h
    rfl) (fun cdv A outer s H E hr => ⟨_, (pss_one (ps_ret (pe_op (kAdd K) pe_int (pe_callB (kSum K rfl) (by rfl) B.sum (by decide +kernel) (pa_cons (pe_lc (own := [("mask", 1)]) (g := gName 1) (tt := tYes) rfl sc_bound.nd  (kAny K (pv 0)) (blkOk_by (by kernel_rfl)) (fun _ _ _ _ _ => (pg_name (i := 1) sc_bound.nd rfl (Or.inl rfl))) (fun _ _ _ _ _ => pts_nil) (fun _ _ _ _ _ => (pe_callB (kSum K rfl) (by rfl) B.sum (by decide +kernel) (pa_cons (pe_lc (own := [("step", 2)]) (g := gName 2) (tt := tYes) rfl sc_bound.nd  (kAny K (pv 1)) (blkOk_by (by kernel_rfl)) (fun _ _ _ _ _ => (pg_name (i := 2) sc_bound.nd rfl (Or.inl rfl))) (fun _ _ _ _ _ => pts_nil) (fun _ _ _ _ _ => (pe_callB (kSum K rfl) (by rfl) B.sum (by decide +kernel) (pa_cons (pe_slice (kSl K) (pv 2) (po_some pe_int) po_none) pa_nil)))) pa_nil)))) pa_nil))))), ?_⟩)
  rintro ds R ⟨ms, d0, rfl, ⟨hd0, hl, hm⟩, q⟩
  dsimp only [cxOf, Cx.nox, Cx.wish, DL.fill, List.map, List.length_cons, List.length_nil, List.length, Nat.reduceAdd, Nat.reduceSub, List.replicate, List.cons_append, List.nil_append]
  walk_at "ev"
  refine e_new (n_map (gw_name (by simp)) (ei_var rfl hd0 ?_))
  refine ⟨rfl, by rw [List.length_map]; omega, maF, fun d hd => g_name ⟨rfl, ?_⟩, ?_⟩
  · obtain ⟨m, hm2, rfl⟩ := List.mem_map.mp hd
    walk_at "ev"
    refine e_new (n_map (gw_name (by simp)) (ei_T ?_))
    walk_at "ev"
    refine ⟨_, rfl, rfl, by rw [List.length_map]; have := hm m hm2; omega, stF, fun d hd => g_name ⟨rfl, ?_⟩, ?_⟩
    · obtain ⟨s, hs, rfl⟩ := List.mem_map.mp hd
      obtain ⟨xs, e1, e2⟩ := arg_cut s
      rw [stF_step, e1]
      walk_at "ev"
      rw [show ((1 : Int)) = ((1 : Nat) : Int) from rfl, e2]
      refine rb_sumT ?_
      rw [arg_sum]
      exact ⟨rfl, rfl⟩
    · walk_at "ev"
      rw [List.map_map, show stF ∘ dStep = PyData.int ∘ ((fun (n : Nat) => (n : Int)) ∘ cntS) from funext stF_step, ← List.map_map, ← List.map_map]
      refine rb_sum ?_
      rw [sum_cast, maF_mask]
      exact ⟨rfl, rfl⟩
  · walk_at "ev"
    rw [List.map_map, show maF ∘ dMask = PyData.int ∘ ((fun (n : Nat) => (n : Int)) ∘ sumM) from funext maF_mask, ← List.map_map, ← List.map_map]
    refine rb_sum ?_
    walk_at "ev"
    rw [sum_cast]
    have e : (2 : Int) + (((ms.map sumM).sum : Nat) : Int) = ((bnd ms : Nat) : Int) := by unfold bnd; omega
    rw [e]
    exact q
/-! is_release -/
def C_is_release : Cp := fun ds R => ∃ r : Rel, ds = [dRel r] ∧ okR r ∧ R (.bool true)
theorem sc_is_release : FnScope ["value", "mask"] ["value"] (defScope s_is_release) := ⟨rfl, rfl, rfl, by decide +kernel, rfl, by decide +kernel, by decide +kernel⟩
theorem dx_is_release (B : Bl mg) (Cc : Cs K mg) (d_is_mask : Dx P w K mg base "is_mask" 3 ["value"] (pureC C_is_mask)) (Fx : Fp K mg "is_release" s_is_release) : Dx P w K mg base "is_release" 4 ["value"] (pureC C_is_release) := by
  obtain ⟨f_is_mask, fd_is_mask, d_is_mask⟩ := d_is_mask
  obtain ⟨u_MASKS, c_MASKS⟩ := Cc.MASKS
  obtain ⟨f, fd, F, gl⟩ := Fx
  refine ⟨f, fd, ?_, gl, F.kp, F.bindsN fun _ _ _ _ _ _ us hl => match us, hl with | [_], _ => rfl⟩
  refine fn_pure F sc_is_release (fun ds R h => by
    obtain ⟨_, rfl, _⟩ := h
    rfl) (fun cdv A outer s H E hr => ⟨_, (pss_one (ps_ret (pe_and (pe_callB (kIsi K) (by rfl) B.isinstance (by decide +kernel) (pa_cons (pv 0) (pa_cons (pe_bltn (v := .ty "tuple") (by rfl) B.tuple (by decide +kernel) rfl) pa_nil))) (pe_and (pe_cmpR op_le (pe_callB (kLen K) (by rfl) B.len PySem.boot_len (pa_cons (pv 0) pa_nil)) (pe_glob rfl c_MASKS.1 c_MASKS.2) (nomark _)) (pe_one (pe_callB (kAll K rfl) (by rfl) B.all (by decide +kernel) (pa_cons (pe_lc (own := [("mask", 1)]) (g := gName 1) (tt := tYes) rfl sc_is_release.nd  (kAny K (pv 0)) (blkOk_by (by kernel_rfl)) (fun _ _ _ _ _ => (pg_name (i := 1) sc_is_release.nd rfl (Or.inl rfl))) (fun _ _ _ _ _ => pts_nil) (fun _ _ _ _ _ => (kCall K d_is_mask hr (by decide) (by rfl) (pa_cons (pv 1) pa_nil)))) pa_nil))))))), ?_⟩)
  rintro ds R ⟨r, rfl, hr0, q⟩
  dsimp only [cxOf, Cx.nox, Cx.wish, DL.fill, List.map, List.length_cons, List.length_nil, List.length, Nat.reduceAdd, Nat.reduceSub, List.replicate, List.cons_append, List.nil_append]
  unfold dRel
  walk_at "ev"
  refine if_T rfl ?_
  walk_at "ev"
  have h3 := hr0.1
  refine if_D (fun h => ?_) (fun h => absurd (by rw [List.length_map]; omega) h)
  walk_at "ev"
  refine e_new (n_map (gw_name (by simp)) (ei_T ?_))
  walk_at "ev"
  refine ⟨_, rfl, rfl, by rw [List.length_map]; omega, fun _ => .bool true, fun d hd => g_name ⟨rfl, ?_⟩, ?_⟩
  · obtain ⟨m, hm, rfl⟩ := List.mem_map.mp hd
    have hm := hr0.2 m hm
    refine e_callP ?_
    walk_at "ev"
    refine ⟨dMask m, rfl, ⟨okN_mono (dMask_ok m) (by decide), fun xs h => ?_⟩, ?_, rfl⟩
    · cases h
      rw [List.length_map]
      exact Nat.le_trans hm.1 (by decide)
    · rw [mask_is hm]
  · walk_at "ev"
    have e : ((r.map dMask).map fun _ => PyData.bool true) = (List.replicate r.length true).map PyData.bool := by
      rw [List.map_map, List.map_replicate, List.eq_replicate_iff]
      exact ⟨by simp, fun b hb => by obtain ⟨_, _, rfl⟩ := List.mem_map.mp hb; rfl⟩
    rw [e]
    walk_at "ev"
    rw [show (List.replicate r.length true).all id = true by simp]
    exact q
/-! need_release -/
def C_need_release : Cp := fun ds R => ∃ r : Rel, ds = [dRel r] ∧ okR r ∧ R .none
theorem sc_need_release : FnScope ["value"] ["value"] (defScope s_need_release) := ⟨rfl, rfl, rfl, by decide +kernel, rfl, by decide +kernel, by decide +kernel⟩
theorem dx_need_release (B : Bl mg) (Cc : Cs K mg) (d_is_release : Dx P w K mg base "is_release" 4 ["value"] (pureC C_is_release)) (Fx : Fp K mg "need_release" s_need_release) : Dx P w K mg base "need_release" 5 ["value"] (pureC C_need_release) := by
  obtain ⟨f_is_release, fd_is_release, d_is_release⟩ := d_is_release
  obtain ⟨f, fd, F, gl⟩ := Fx
  refine ⟨f, fd, ?_, gl, F.kp, F.bindsN fun _ _ _ _ _ _ us hl => match us, hl with | [_], _ => rfl⟩
  refine fn_pure F sc_need_release (fun ds R h => by
    obtain ⟨_, rfl, _⟩ := h
    rfl) (fun cdv A outer s H E hr => ⟨_, (pss_one (ps_if (pt_not (kTru K (kCall K d_is_release hr (by decide) (by rfl) (pa_cons (pv 0) pa_nil))))
  (pss_one ps_never)
  pss_nil)), ?_⟩)
  rintro ds R ⟨r, rfl, hr0, q⟩
  dsimp only [cxOf, Cx.nox, Cx.wish, DL.fill, List.map, List.length_cons, List.length_nil, List.length, Nat.reduceAdd, Nat.reduceSub, List.replicate, List.cons_append, List.nil_append]
  walk_at "ev"
  refine e_callP ?_
  walk_at "ev"
  refine ⟨r, rfl, hr0, ?_⟩
  walk_at "ev"
  refine if_F rfl ?_
  walk_at "ev"
  exact q
/-! head -/
def parSl (ps : Par) (s : Sl) : Prop := s = .dat (dctT (pE ps)) ∨ ∃ a, s = .own false a (.dtt (dTs (pE ps)))
def C_head : Ct := fun as R => ∃ (ps : Par) (x : Nd) (s : Sl), as = [s, .dat (dNode x)] ∧ WfP ps ∧ parSl ps s ∧ R (dNode (headN ps x)) as
theorem sc_head : FnScope ["parents", "node"] ["parents", "node"] (defScope s_head) := ⟨rfl, rfl, rfl, by decide +kernel, rfl, by decide +kernel, by decide +kernel⟩
theorem dx_head (B : Bl mg) (Cc : Cs K mg) (Fx : Fp K mg "head" s_head) : Dx P w K mg base "head" 1 ["parents", "node"] C_head := by
  obtain ⟨f, fd, F, gl⟩ := Fx
  refine ⟨f, fd, ?_, gl, F.kp, F.bindsN fun _ _ _ _ _ _ us hl => match us, hl with | [_, _], _ => rfl⟩
  refine fn_by F sc_head (fun ds R h => by
    obtain ⟨_, _, _, rfl, _⟩ := h
    rfl) (fun cdv A outer s H E hr => ⟨_, (pss_cons (ps_while PassesOwn.never (pt_cmpR (kIn K hr hr.units) (pv 1) (pv 0) (by rfl))
  (pss_one (ps_set (i := 1) sc_head.nd rfl (.inl rfl) (pe_dget (Nat.lt_of_le_of_lt (Nat.add_le_add_left (by decide : 1 ≤ 64) _) hr.units) (pv 0) (pv 1) (fun _ _ => rfl)))))
  (pss_one (ps_ret (pv 1)))), ?_⟩)
  rintro as R ⟨ps, x, s, rfl, hw, hs, q⟩
  dsimp only [cxOf, Cx.nox, Cx.wish, DL.fill, List.map, List.length_cons, List.length_nil, List.length, Nat.reduceAdd, Nat.reduceSub, List.replicate, List.cons_append, List.nil_append]
  rcases hs with rfl | ⟨a, rfl⟩
  · refine ss_seq (ss_while (fun m S => ∃ y, S = [.dat (dctT (pE ps)), .dat (dNode y)] ∧ headN ps y = headN ps x ∧ muP ps y = m) ⟨_, x, rfl, rfl, rfl⟩ ?_)
    rintro m S ⟨y, rfl, hy, rfl⟩
    walk_at "ev"
    refine rr_inDT (es := pE ps) (j := (y.1 : Nat)) (ks := [Sum.inl (y.2 : Int)]) rfl ?_
    rw [show getE (pE ps) (Sum.inl ((y.1 : Nat) : Int) :: [Sum.inl ((y.2 : Nat) : Int)]) = (getP ps y).map dNode from getE_pE ps y]
    walk_at "ev"
    cases h : getP ps y with
    | none =>
      refine if_F rfl ?_
      dsimp only
      walk_at "ev"
      have e := hy.symm.trans (head_end h)
      rw [e] at q
      exact ⟨_, .dat (.dat .nil), q⟩
    | some z =>
      obtain ⟨h1, h2⟩ := head_step hw h
      refine if_T rfl ?_
      refine s_let (ee_dgetT ?_)
      walk_at "ev"
      refine ⟨(y.1 : Nat), [Sum.inl (y.2 : Int)], pE ps, dNode z, rfl, rfl, (getE_pE ps y).trans (by rw [h]; rfl), rfl, ?_⟩
      exact ⟨_, h2, z, rfl, h1.trans hy, rfl⟩
  · refine ss_seq (ss_while (fun m S => ∃ y, S = [.own false a (.dtt (dTs (pE ps))), .dat (dNode y)] ∧ headN ps y = headN ps x ∧ muP ps y = m) ⟨_, x, rfl, rfl, rfl⟩ ?_)
    rintro m S ⟨y, rfl, hy, rfl⟩
    walk_at "ev"
    refine rr_inDT (es := pE ps) (j := (y.1 : Nat)) (ks := [Sum.inl (y.2 : Int)]) ⟨false, a, rfl⟩ ?_
    rw [show getE (pE ps) (Sum.inl ((y.1 : Nat) : Int) :: [Sum.inl ((y.2 : Nat) : Int)]) = (getP ps y).map dNode from getE_pE ps y]
    walk_at "ev"
    cases h : getP ps y with
    | none =>
      refine if_F rfl ?_
      dsimp only
      walk_at "ev"
      have e := hy.symm.trans (head_end h)
      rw [e] at q
      exact ⟨_, .own (.dat .nil), q⟩
    | some z =>
      obtain ⟨h1, h2⟩ := head_step hw h
      refine if_T rfl ?_
      refine s_let (ee_dgetT ?_)
      walk_at "ev"
      refine ⟨(y.1 : Nat), [Sum.inl (y.2 : Int)], pE ps, dNode z, ⟨false, a, rfl⟩, rfl, (getE_pE ps y).trans (by rw [h]; rfl), rfl, ?_⟩
      exact ⟨_, h2, z, rfl, h1.trans hy, rfl⟩
/-! are_similar -/
def C_are_similar : Cp := fun ds R => ∃ (a b : List (Option Nat)), ds = [.tuple (dRow a), .tuple (dRow b)] ∧ (a.length ≤ 1000000) ∧ R (.bool (simB a b))
def simF : PyData → PyData
  | .tuple [x, y] => .bool (eqS (.bool (isNone x)) (.bool (isNone y)))
  | _ => .none
theorem simF_zip : ∀ (a b : List (Option Nat)), (zipD (dRow a) (dRow b)).map simF = ((a.zip b).map fun p => decide (isN p.1 = isN p.2)).map PyData.bool
  | [], _ => rfl
  | _ :: _, [] => rfl
  | x :: a, y :: b => by
    show simF (.tuple [dCell x, dCell y]) :: (zipD (dRow a) (dRow b)).map simF = PyData.bool _ :: _
    rw [simF_zip a b]
    congr 1
    show PyData.bool (decide (isNone (dCell x) = isNone (dCell y))) = _
    rw [isNone_cell, isNone_cell]
theorem sc_are_similar : FnScope ["one", "two", "first", "second"] ["one", "two"] (defScope s_are_similar) := ⟨rfl, rfl, rfl, by decide +kernel, rfl, by decide +kernel, by decide +kernel⟩
theorem dx_are_similar (B : Bl mg) (Cc : Cs K mg) (Fx : Fp K mg "are_similar" s_are_similar) : Dx P w K mg base "are_similar" 1 ["one", "two"] (pureC C_are_similar) := by
  obtain ⟨f, fd, F, gl⟩ := Fx
  refine ⟨f, fd, ?_, gl, F.kp, F.bindsN fun _ _ _ _ _ _ us hl => match us, hl with | [_, _], _ => rfl⟩
  refine fn_pure F sc_are_similar (fun ds R h => by
    obtain ⟨_, _, rfl, _⟩ := h
    rfl) (fun cdv A outer s H E hr => ⟨_, (pss_one (ps_ret (pe_and (pe_cmpR (kEq K hr.units) (pe_callB (kLen K) (by rfl) B.len PySem.boot_len (pa_cons (pv 0) pa_nil)) (pe_callB (kLen K) (by rfl) B.len PySem.boot_len (pa_cons (pv 1) pa_nil)) (nomark _)) (pe_one (pe_callB (kAll K rfl) (by rfl) B.all (by decide +kernel) (pa_cons (pe_lc (own := [("first", 2), ("second", 3)]) (g := gTup K 2 (gCons (gName 2) (gCons (gName 3) gNil))) (tt := tYes) rfl sc_are_similar.nd  (kZip K (by rfl) B.zip (pa_cons (pv 0) (pa_cons (pv 1) pa_nil))) (blkOk_by (by kernel_rfl)) (fun _ _ _ _ _ => (kTup K (n := 2) rfl (pgs_cons (pg_name (i := 2) sc_are_similar.nd rfl (Or.inl rfl)) (pgs_cons (pg_name (i := 3) sc_are_similar.nd rfl (Or.inl rfl)) pgs_nil)))) (fun _ _ _ _ _ => pts_nil) (fun _ _ _ _ _ => (pe_cmpR (kEq K hr.units) (pe_cmpR uIs (pv 2) pe_non (nomark _)) (pe_cmpR uIs (pv 3) pe_non (nomark _)) (nomark _)))) pa_nil)))))), ?_⟩)
  rintro ds R ⟨a, b, rfl, ha, q⟩
  dsimp only [cxOf, Cx.nox, Cx.wish, DL.fill, List.map, List.length_cons, List.length_nil, List.length, Nat.reduceAdd, Nat.reduceSub, List.replicate, List.cons_append, List.nil_append]
  walk_at "ev"
  refine if_eqI (fun h => ?_) (fun h => ?_)
  · have hab : a.length = b.length := by rw [dRow_len, dRow_len] at h; omega
    walk_at "ev"
    refine e_new (n_map (gw_two (by simp) (by simp)) (ei_zipT ?_))
    walk_at "ev"
    refine ⟨_, _, rfl, rfl, by unfold zipD; rw [List.length_zipWith, dRow_len]; omega, simF, fun d hd => ?_, ?_⟩
    · obtain ⟨x, y, rfl⟩ : ∃ x y, d = .tuple [x, y] := by
        unfold zipD at hd
        obtain ⟨p, hp, e⟩ := List.mem_iff_getElem.mp hd
        rw [List.getElem_zipWith] at e
        exact ⟨_, _, e.symm⟩
      refine g_two ⟨rfl, rfl, ?_⟩
      walk_at "ev"
      exact ⟨rfl, rfl⟩
    · rw [simF_zip]
      walk_at "ev"
      rw [List.all_map, show (id ∘ fun p : Option Nat × Option Nat => decide (isN p.1 = isN p.2)) = fun p => decide (isN p.1 = isN p.2) from rfl, sim_zip a b hab]
      exact q
  · have hab : ¬ a.length = b.length := by rw [dRow_len, dRow_len] at h; omega
    walk_at "ev"
    have e : simB a b = false := decide_eq_false fun z => hab (by have := congrArg List.length z; simpa using this)
    rw [e] at q
    exact q
/-! equated -/
def C_equated : Cp := fun ds R => ∃ (rs os : List (List (Option Nat))), ds = [.list (dRows rs), .list (dRows os)] ∧ (rs.length ≤ 3 ∧ ∀ r ∈ rs, r.length ≤ 300000) ∧ R (if simR rs os = true then dctT (pE (eqP rs os)) else .none)
def smF : PyData → PyData
  | .tuple [.tuple a, .tuple b] => .bool (decide (a.map isNone = b.map isNone))
  | _ => .none
theorem isNone_row (a : List (Option Nat)) : (dRow a).map isNone = a.map isN := by
  unfold dRow
  rw [List.map_map]
  exact List.map_congr_left fun c _ => isNone_cell c
theorem smF_row (a b : List (Option Nat)) : smF (.tuple [.tuple (dRow a), .tuple (dRow b)]) = .bool (simB a b) := by
  show PyData.bool (decide ((dRow a).map isNone = (dRow b).map isNone)) = _
  rw [isNone_row, isNone_row]
  rfl
theorem sc_equated : FnScope ["rows", "others", "parents", "one", "two", "first", "second", "here", "there"] ["rows", "others"] (defScope s_equated) := ⟨rfl, rfl, rfl, by decide +kernel, rfl, by decide +kernel, by decide +kernel⟩
theorem dx_equated (B : Bl mg) (Cc : Cs K mg) (d_are_similar : Dx P w K mg base "are_similar" 1 ["one", "two"] (pureC C_are_similar)) (d_head : Dx P w K mg base "head" 1 ["parents", "node"] C_head) (Fx : Fp K mg "equated" s_equated) : Dx P w K mg base "equated" 2 ["rows", "others"] (pureC C_equated) := by
  obtain ⟨f_are_similar, fd_are_similar, d_are_similar⟩ := d_are_similar
  obtain ⟨f_head, fd_head, d_head⟩ := d_head
  obtain ⟨f, fd, F, gl⟩ := Fx
  refine ⟨f, fd, ?_, gl, F.kp, F.bindsN fun _ _ _ _ _ _ us hl => match us, hl with | [_, _], _ => rfl⟩
  refine fn_pure F sc_equated (fun ds R h => by
    obtain ⟨_, _, rfl, _⟩ := h
    rfl) (fun cdv A outer s H E hr => ⟨_, (pss_cons (ps_if (pt_not (kTru K (pe_callB (kAll K rfl) (by rfl) B.all (by decide +kernel) (pa_cons (pe_lc (own := [("one", 3), ("two", 4)]) (g := gTup K 2 (gCons (gName 3) (gCons (gName 4) gNil))) (tt := tYes) rfl sc_equated.nd  (kZip K (by rfl) B.zip (pa_cons (pv 0) (pa_cons (pv 1) pa_nil))) (blkOk_by (by kernel_rfl)) (fun _ _ _ _ _ => (kTup K (n := 2) rfl (pgs_cons (pg_name (i := 3) sc_equated.nd rfl (Or.inl rfl)) (pgs_cons (pg_name (i := 4) sc_equated.nd rfl (Or.inl rfl)) pgs_nil)))) (fun _ _ _ _ _ => pts_nil) (fun _ _ _ _ _ => (kCall K d_are_similar hr (by decide) (by rfl) (pa_cons (pv 3) (pa_cons (pv 4) pa_nil))))) pa_nil))))
  (pss_one (ps_ret pe_non))
  pss_nil)
  (pss_cons (ps_set (i := 2) sc_equated.nd rfl (.inl rfl) pe_dnewT)
  (pss_cons (ps_for PassesOwn.never rfl (kZip K (by rfl) B.zip (pa_cons (pv 0) (pa_cons (pv 1) pa_nil))) (kTup K (n := 2) rfl (pgs_cons (pg_name (i := 3) sc_equated.nd rfl (.inl rfl)) (pgs_cons (pg_name (i := 4) sc_equated.nd rfl (.inl rfl)) pgs_nil)))
  (pss_one (ps_for PassesOwn.never rfl (kZip K (by rfl) B.zip (pa_cons (pv 3) (pa_cons (pv 4) pa_nil))) (kTup K (n := 2) rfl (pgs_cons (pg_name (i := 5) sc_equated.nd rfl (.inl rfl)) (pgs_cons (pg_name (i := 6) sc_equated.nd rfl (.inl rfl)) pgs_nil)))
  (pss_one (ps_if (pt_cmpR uIsNot (pv 5) pe_non (nomark _))
  (pss_cons (ps_par (i := 7) (j := 8) rfl sc_equated.nd rfl rfl (by decide) rfl rfl (pa_cons (kCall K d_head hr (by decide) (by rfl) (pa_cons (pv 2) (pa_cons (pe_tup (pa_cons pe_int (pa_cons (pv 5) pa_nil))) pa_nil))) (pa_cons (kCall K d_head hr (by decide) (by rfl) (pa_cons (pv 2) (pa_cons (pe_tup (pa_cons pe_int (pa_cons (pv 6) pa_nil))) pa_nil))) pa_nil)) (by rfl))
  (pss_one (ps_if (pt_cmpR (kNotEq K hr.units) (pv 7) (pv 8) (nomark _))
  (pss_one (ps_dput (Nat.lt_of_le_of_lt (Nat.add_le_add_left (by decide : 1 ≤ 64) _) hr.units) (pv 2) (pv 7) (pv 8) (by rfl)))
  pss_nil)))
  pss_nil)))))
  (pss_one (ps_ret (pv 2)))))), ?_⟩)
  rintro ds R ⟨rs, os, rfl, ⟨h3, hr0⟩, q⟩
  dsimp only [cxOf, Cx.nox, Cx.wish, DL.fill, List.map, List.length_cons, List.length_nil, List.length, Nat.reduceAdd, Nat.reduceSub, List.replicate, List.cons_append, List.nil_append]
  have ez : zipD (dRows rs) (dRows os) = (rs.zip os).map fun p => PyData.tuple [.tuple (dRow p.1), .tuple (dRow p.2)] := zipD_map _ _ rs os
  have hz := zip_len rs os
  walk_at "ev"
  refine e_new (n_map (gw_two (by simp) (by simp)) (ei_zipL ?_))
  walk_at "ev"
  refine ⟨_, _, rfl, rfl, by rw [ez, List.length_map]; omega, smF, fun d hd => ?_, ?_⟩
  · rw [ez] at hd
    obtain ⟨p, hp, rfl⟩ := List.mem_map.mp hd
    refine g_two ⟨rfl, rfl, ?_⟩
    refine e_callP ?_
    walk_at "ev"
    have hp1 := hr0 p.1 (List.of_mem_zip hp).1
    exact ⟨p.1, p.2, rfl, by omega, by rw [smF_row], rfl⟩
  · rw [ez, List.map_map, show (smF ∘ fun p : List (Option Nat) × List (Option Nat) => PyData.tuple [.tuple (dRow p.1), .tuple (dRow p.2)]) = PyData.bool ∘ fun p => simB p.1 p.2 from funext fun p => smF_row p.1 p.2, ← List.map_map]
    walk_at "ev"
    rw [List.all_map, show ((rs.zip os).all (id ∘ fun p => simB p.1 p.2)) = simR rs os from rfl]
    cases hS : simR rs os with
    | false =>
      refine if_T rfl ?_
      walk_at "ev"
      rw [hS] at q
      exact q
    | true =>
      rw [hS] at q
      refine if_F rfl (ss_next ?_)
      refine ss_seq (s_own (en_dnewT ⟨rfl, fun a => ?_⟩))
      dsimp only [updA, came, lent, List.set, List.getD_cons_zero, List.getD_cons_succ, List.getD, List.getElem?_cons_zero, List.getElem?_cons_succ, Option.getD_some, Option.getD]
      refine ss_seq (ss_for (ei_zipL ?_))
      walk_at "ev"
      refine ⟨_, _, rfl, ?_⟩
      rw [ez]
      refine ⟨fun i S => ∃ x y z v u w ps, S = [.dat (.list (dRows rs)), .dat (.list (dRows os)), .own true a (.dtt (dTs (pE ps))), x, y, z, v, u, w] ∧ ps = ((rs.zip os).take i).foldl joinR [] ∧ WfP ps ∧ ps.length ≤ 300000 * i, ⟨_, _, _, _, _, _, [], rfl, rfl, ⟨.nil, fun p hp => by cases hp⟩, by simp⟩, ?_, ?_⟩
      · rintro i d S hd ⟨x, y, z, v, u, w, ps, rfl, hps, hwf, hlen⟩
        rw [List.getElem?_map] at hd
        obtain ⟨p, hp, rfl⟩ : ∃ p, (rs.zip os)[i]? = some p ∧ d = .tuple [.tuple (dRow p.1), .tuple (dRow p.2)] := by
          cases h : (rs.zip os)[i]? with
          | none => rw [h] at hd; cases hd
          | some s => rw [h] at hd; exact ⟨s, rfl, (Option.some.inj hd).symm⟩
        have hi := (List.getElem?_eq_some_iff.mp hp).1
        have hpm := List.mem_of_getElem? hp
        have hp1 := hr0 p.1 (List.of_mem_zip hpm).1
        have hsim : simB p.1 p.2 = true := List.all_eq_true.mp (show (rs.zip os).all (fun p => simB p.1 p.2) = true from hS) p hpm
        refine g_two ⟨rfl, rfl, ?_⟩
        dsimp only [updA, came, lent, List.set, List.getD_cons_zero, List.getD_cons_succ, List.getD, List.getElem?_cons_zero, List.getElem?_cons_succ, Option.getD_some, Option.getD]
        refine ss_for (ei_zipT ?_)
        walk_at "ev"
        refine ⟨_, _, rfl, ?_⟩
        have ez2 : zipD (dRow p.1) (dRow p.2) = (p.1.zip p.2).map fun c => PyData.tuple [dCell c.1, dCell c.2] := zipD_map _ _ p.1 p.2
        have hz2 := zip_len p.1 p.2
        rw [ez2]
        refine ⟨fun j S => ∃ z v u w qs, S = [.dat (.list (dRows rs)), .dat (.list (dRows os)), .own true a (.dtt (dTs (pE qs))), .dat (.tuple (dRow p.1)), .dat (.tuple (dRow p.2)), z, v, u, w] ∧ qs = ((p.1.zip p.2).take j).foldl joinP ps ∧ WfP qs ∧ qs.length ≤ 300000 * i + j, ⟨_, _, _, _, ps, rfl, rfl, hwf, by omega⟩, ?_, ?_⟩
        · rintro j d S hd ⟨z, v, u, w, qs, rfl, hqs, hwq, hlq⟩
          rw [List.getElem?_map] at hd
          obtain ⟨c, hc, rfl⟩ : ∃ c, (p.1.zip p.2)[j]? = some c ∧ d = .tuple [dCell c.1, dCell c.2] := by
            cases h : (p.1.zip p.2)[j]? with
            | none => rw [h] at hd; cases hd
            | some s => rw [h] at hd; exact ⟨s, rfl, (Option.some.inj hd).symm⟩
          have hj := (List.getElem?_eq_some_iff.mp hc).1
          have hcc : p.1[j]? = some c.1 ∧ p.2[j]? = some c.2 := by
            rw [List.getElem?_zip_eq_some] at hc
            exact hc
          have hcs := sim_at hsim hcc.1 hcc.2
          have en : ((p.1.zip p.2).take (j + 1)).foldl joinP ps = joinP qs c := by
            rw [List.take_add_one, hc, List.foldl_append, ← hqs]
            rfl
          have hwn := joinP_wf hwq c
          have hln := joinP_len qs c
          refine g_two ⟨rfl, rfl, ?_⟩
          dsimp only [updA, came, lent, List.set, List.getD_cons_zero, List.getD_cons_succ, List.getD, List.getElem?_cons_zero, List.getElem?_cons_succ, Option.getD_some, Option.getD]
          walk_at "ev"
          rw [isNone_cell]
          obtain ⟨c1, c2⟩ := c
          cases c1 with
          | none =>
            refine if_F rfl (ss_next ?_)
            exact ⟨_, _, _, _, qs, rfl, en.symm, hwq, by omega⟩
          | some k1 =>
            cases c2 with
            | none => cases hcs
            | some k2 =>
              refine if_T rfl ?_
              walk_at "ev"
              refine e_call ?_
              walk_at "ev"
              refine ⟨rfl, qs, (0, k1), _, rfl, hwq, .inr ⟨a, rfl⟩, rfl, ?_⟩
              try dsimp only [updA, came, lent, List.set, List.getD_cons_zero, List.getD_cons_succ, List.getD, List.getElem?_cons_zero, List.getElem?_cons_succ, Option.getD_some, Option.getD]
              refine ea_cons (e_call ?_)
              walk_at "ev"
              refine ⟨rfl, qs, (1, k2), _, rfl, hwq, .inr ⟨a, rfl⟩, rfl, ?_⟩
              try dsimp only [updA, came, lent, List.set, List.getD_cons_zero, List.getD_cons_succ, List.getD, List.getElem?_cons_zero, List.getElem?_cons_succ, Option.getD_some, Option.getD]
              walk_at "ev"
              refine ⟨_, _, rfl, rfl, rfl, ?_⟩
              try dsimp only [updA, came, lent, List.set, List.getD_cons_zero, List.getD_cons_succ, List.getD, List.getElem?_cons_zero, List.getElem?_cons_succ, Option.getD_some, Option.getD]
              walk_at "ev"
              refine rr_neD (dNode_okD _) (dNode_okD _) ?_
              rw [eqv_node]
              by_cases hh : headN qs (0, k1) = headN qs (1, k2)
              · refine if_F (by rw [decide_eq_true hh]; rfl) (ss_next ?_)
                have e2 : joinP qs (some k1, some k2) = qs := if_pos hh
                rw [e2] at en
                exact ⟨_, _, _, _, qs, rfl, en.symm, hwq, by omega⟩
              · refine if_T (by rw [decide_eq_false hh]; rfl) ?_
                have e2 : joinP qs (some k1, some k2) = qs ++ [(headN qs (0, k1), headN qs (1, k2))] := if_neg hh
                refine ss_dputT ?_
                walk_at "ev"
                refine ⟨_, rfl, true, a, _, rfl, ?_⟩
                walk_at "ev"
                refine ⟨((headN qs (0, k1)).1 : Nat), [Sum.inl (((headN qs (0, k1)).2 : Nat) : Int)], true, a, pE qs, rfl, rfl, by unfold pE; rw [List.length_map]; omega, ?_⟩
                try dsimp only [updA, came, lent, List.set, List.getD_cons_zero, List.getD_cons_succ, List.getD, List.getElem?_cons_zero, List.getElem?_cons_succ, Option.getD_some, Option.getD]
                rw [show putE (pE qs) (Sum.inl (((headN qs (0, k1)).1 : Nat) : Int) :: [Sum.inl (((headN qs (0, k1)).2 : Nat) : Int)]) (dNode (headN qs (1, k2))) = pE (qs ++ [(headN qs (0, k1), headN qs (1, k2))]) from putE_new (headN_root hwq _), ← e2]
                exact ⟨_, _, _, _, _, rfl, en.symm, hwn, by omega⟩
        · rintro S ⟨z, v, u, w, qs, rfl, hqs, hwq, hlq⟩
          dsimp only
          rw [List.length_map] at hqs hlq
          rw [List.take_length] at hqs
          have en : ((rs.zip os).take (i + 1)).foldl joinR [] = qs := by
            rw [List.take_add_one, hp, List.foldl_append, ← hps, hqs]
            rfl
          exact ⟨_, _, _, _, _, _, qs, rfl, en.symm, hwq, by omega⟩
      · rintro S ⟨x, y, z, v, u, w, ps, rfl, hps, hwf, hlen⟩
        dsimp only
        rw [List.length_map, List.take_length] at hps
        refine ss_freeze (i := 2) rfl rfl ?_
        dsimp only [updA, came, lent, List.set, List.getD_cons_zero, List.getD_cons_succ, List.getD, List.getElem?_cons_zero, List.getElem?_cons_succ, Option.getD_some, Option.getD]
        walk_at "ev"
        subst hps
        exact q
/-! strings_of -/
def C_strings_of : Cp := fun ds R => ∃ (ps : Par) (n m : Nat) (ch : Option Nd), ds = [dctT (pE ps), .int n, .int m, dCh ch] ∧ (WfP ps ∧ n ≤ 1000 ∧ m ≤ 1000) ∧ R (dPair (some (colL ps 0 n ch, colL ps 1 m ch)))
def colF (ps : Par) (side : Nat) (ch : Option Nd) : PyData → PyData
  | .int i => .str (mkS [if some (headN ps (side, i.toNat)) = ch then 98 else 97])
  | d => d
theorem colF_range (ps : Par) (side n : Nat) (ch : Option Nd) : ((List.range n).map fun i => PyData.int (i : Nat)).map (colF ps side ch) = ((colL ps side n ch).map fun c => mkS [c]).map PyData.str := by
  unfold colL
  rw [List.map_map, List.map_map, List.map_map]
  refine List.map_congr_left fun i _ => ?_
  show PyData.str (mkS [if some (headN ps (side, ((i : Nat) : Int).toNat)) = ch then 98 else 97]) = _
  rw [Int.toNat_natCast]
  rfl
theorem b_mk : Str.ofString "b" = mkS [98] := by decide +kernel
theorem a_mk : Str.ofString "a" = mkS [97] := by decide +kernel
theorem colL_len (ps : Par) (side n : Nat) (ch : Option Nd) : (colL ps side n ch).length = n := by simp [colL]
theorem sc_strings_of : FnScope ["parents", "length", "other", "chosen", "pair", "side", "many", "at"] ["parents", "length", "other", "chosen"] (defScope s_strings_of) := ⟨rfl, rfl, rfl, by decide +kernel, rfl, by decide +kernel, by decide +kernel⟩
theorem dx_strings_of (B : Bl mg) (Cc : Cs K mg) (d_head : Dx P w K mg base "head" 1 ["parents", "node"] C_head) (Fx : Fp K mg "strings_of" s_strings_of) : Dx P w K mg base "strings_of" 2 ["parents", "length", "other", "chosen"] (pureC C_strings_of) := by
  obtain ⟨f_head, fd_head, d_head⟩ := d_head
  obtain ⟨f, fd, F, gl⟩ := Fx
  refine ⟨f, fd, ?_, gl, F.kp, F.bindsN fun _ _ _ _ _ _ us hl => match us, hl with | [_, _, _, _], _ => rfl⟩
  refine fn_pure F sc_strings_of (fun ds R h => by
    obtain ⟨_, _, _, _, rfl, _⟩ := h
    rfl) (fun cdv A outer s H E hr => ⟨_, (pss_cons (ps_set (i := 4) sc_strings_of.nd rfl (.inl rfl) (pe_lst pa_nil))
  (pss_cons (ps_for PassesOwn.never rfl (kAny K (pe_tup (pa_cons (pe_tup (pa_cons pe_int (pa_cons (pv 1) pa_nil))) (pa_cons (pe_tup (pa_cons pe_int (pa_cons (pv 2) pa_nil))) pa_nil)))) (kTup K (n := 2) rfl (pgs_cons (pg_name (i := 5) sc_strings_of.nd rfl (.inr rfl)) (pgs_cons (pg_name (i := 6) sc_strings_of.nd rfl (.inl rfl)) pgs_nil)))
  (pss_one (ps_expr (kBm K PySem.F.plainAttrs_list PySem.F.slot_list_append PySem.F.type_list_append mt_append (pv 4) (pa_cons (kJoin K pe_str (pe_lc (own := [("at", 7)]) (g := gName 7) (tt := tYes) rfl sc_strings_of.nd  (pi_range1 (by rfl) B.range (pa_cons (pv 6) pa_nil)) (blkOk_by (by kernel_rfl)) (fun _ _ _ _ _ => (pg_name (i := 7) sc_strings_of.nd rfl (Or.inl rfl))) (fun _ _ _ _ _ => pts_nil) (fun _ _ _ _ _ => (pe_ifExp (pt_cmpR (kEq K hr.units) (kCall K d_head hr (by decide) (by rfl) (pa_cons (pv 0) (pa_cons (pe_tup (pa_cons (pv 5) (pa_cons (pv 7) pa_nil))) pa_nil))) (pv 3) (nomark _)) pe_str pe_str)))) pa_nil)))))
  (pss_one (ps_ret (pe_callTy (kTuple K) (by rfl) B.tuple (by decide +kernel) (pa_cons (pv 4) pa_nil)))))), ?_⟩)
  rintro ds R ⟨ps, n, m, ch, rfl, ⟨hw, hn, hm⟩, q⟩
  dsimp only [cxOf, Cx.nox, Cx.wish, DL.fill, List.map, List.length_cons, List.length_nil, List.length, Nat.reduceAdd, Nat.reduceSub, List.replicate, List.cons_append, List.nil_append]
  refine ss_seq (s_own (n_lst ?_))
  walk_at "ev"
  intro a
  dsimp only [updA, came, lent, List.set, List.getD_cons_zero, List.getD_cons_succ, List.getD, List.getElem?_cons_zero, List.getElem?_cons_succ, Option.getD_some, Option.getD]
  walk_at "ev"
  refine ss_for (ei_T ?_)
  walk_at "ev"
  refine ⟨_, rfl, fun i S => ∃ x y, S = [.dat (dctT (pE ps)), .dat (.int n), .dat (.int m), .dat (dCh ch), .own true a (.lst ((([colL ps 0 n ch, colL ps 1 m ch].take i).map fun l => PyData.str (mkS l)))), x, y, .no], ⟨_, _, rfl⟩, ?_, ?_⟩
  · rintro i d S hd ⟨x, y, rfl⟩
    obtain ⟨side, k, rfl, hk, e0⟩ : ∃ (side k : Nat), d = .tuple [.int side, .int k] ∧ k ≤ 1000 ∧ ([colL ps 0 n ch, colL ps 1 m ch].take (i + 1)) = ([colL ps 0 n ch, colL ps 1 m ch].take i) ++ [colL ps side k ch] := by
      match i, hd with
      | 0, hd => cases hd; exact ⟨0, n, rfl, hn, rfl⟩
      | 1, hd => cases hd; exact ⟨1, m, rfl, hm, rfl⟩
    refine g_two ⟨rfl, rfl, ?_⟩
    dsimp only [updA, came, lent, List.set, List.getD_cons_zero, List.getD_cons_succ, List.getD, List.getElem?_cons_zero, List.getElem?_cons_succ, Option.getD_some, Option.getD]
    rw [e0]
    walk_at "ev"
    refine ee_append rfl (ea_cons (ee_join ?_))
    walk_at "ev"
    refine ⟨_, rfl, e_new (n_map (gw_name (by simp)) (ei_range1 ?_))⟩
    walk_at "ev"
    refine ⟨_, rfl, by omega, by omega, rfl, by rw [List.length_map, List.length_range]; omega, colF ps side ch, fun d hd => g_name ⟨rfl, ?_⟩, ?_⟩
    · obtain ⟨j, hj, rfl⟩ := List.mem_map.mp hd
      dsimp only [updA, came, lent, List.set, List.getD_cons_zero, List.getD_cons_succ, List.getD, List.getElem?_cons_zero, List.getElem?_cons_succ, Option.getD_some, Option.getD]
      walk_at "ev"
      refine e_call ?_
      walk_at "ev"
      refine ⟨rfl, ps, (side, j), _, rfl, hw, .inl rfl, rfl, ?_⟩
      try dsimp only [updA, came, lent, List.set, List.getD_cons_zero, List.getD_cons_succ, List.getD, List.getElem?_cons_zero, List.getElem?_cons_succ, Option.getD_some, Option.getD]
      walk_at "ev"
      refine rr_eqD (dNode_okD _) (dCh_okD _) ?_
      rw [eqv_ch]
      refine if_D (fun h => ?_) (fun h => ?_)
      · walk_at "ev"
        refine ⟨?_, rfl⟩
        show _ = Vx.dat (.str (mkS [if some (headN ps (side, ((j : Nat) : Int).toNat)) = ch then 98 else 97]))
        rw [Int.toNat_natCast, if_pos h, b_mk]
      · walk_at "ev"
        refine ⟨?_, rfl⟩
        show _ = Vx.dat (.str (mkS [if some (headN ps (side, ((j : Nat) : Int).toNat)) = ch then 98 else 97]))
        rw [Int.toNat_natCast, if_neg h, a_mk]
    · rw [Int.toNat_natCast, colF_range]
      walk_at "ev"
      refine ⟨(colL ps side k ch).map fun c => mkS [c], rfl, ?_, ?_⟩
      · rw [sum_ones, List.length_map, colL_len]
        show _ + _ * 0 ≤ _
        omega
      · walk_at "ev"
        rw [MK.join_ones]
        refine ⟨_, _, rfl, rfl, ?_, ?_⟩
        · rw [List.length_map, List.length_take]
          simp
          omega
        · dsimp only [updA, came, lent, List.set, List.getD_cons_zero, List.getD_cons_succ, List.getD, List.getElem?_cons_zero, List.getElem?_cons_succ, Option.getD_some, Option.getD]
          rw [List.map_append]
          exact ⟨_, _, rfl⟩
  · rintro S ⟨x, y, rfl⟩
    dsimp only
    walk_at "ev"
    exact q
/-! parted -/
def C_parted : Cp := fun ds R => ∃ (ps : Par) (a b : List (Option Nat)) (n m : Nat), ds = [dctT (pE ps), .tuple (dRow a), .tuple (dRow b), .int n, .int m] ∧ (WfP ps ∧ a.length ≤ 300000 ∧ n ≤ 1000 ∧ m ≤ 1000) ∧ R (dPair (partD ps a b n m))
theorem sc_parted : FnScope ["parents", "one", "two", "length", "other", "first", "second"] ["parents", "one", "two", "length", "other"] (defScope s_parted) := ⟨rfl, rfl, rfl, by decide +kernel, rfl, by decide +kernel, by decide +kernel⟩
theorem dx_parted (B : Bl mg) (Cc : Cs K mg) (d_are_similar : Dx P w K mg base "are_similar" 1 ["one", "two"] (pureC C_are_similar)) (d_strings_of : Dx P w K mg base "strings_of" 2 ["parents", "length", "other", "chosen"] (pureC C_strings_of)) (d_head : Dx P w K mg base "head" 1 ["parents", "node"] C_head) (Fx : Fp K mg "parted" s_parted) : Dx P w K mg base "parted" 3 ["parents", "one", "two", "length", "other"] (pureC C_parted) := by
  obtain ⟨f_are_similar, fd_are_similar, d_are_similar⟩ := d_are_similar
  obtain ⟨f_strings_of, fd_strings_of, d_strings_of⟩ := d_strings_of
  obtain ⟨f_head, fd_head, d_head⟩ := d_head
  obtain ⟨f, fd, F, gl⟩ := Fx
  refine ⟨f, fd, ?_, gl, F.kp, F.bindsN fun _ _ _ _ _ _ us hl => match us, hl with | [_, _, _, _, _], _ => rfl⟩
  refine fn_pure F sc_parted (fun ds R h => by
    obtain ⟨_, _, _, _, _, rfl, _⟩ := h
    rfl) (fun cdv A outer s H E hr => ⟨_, (pss_cons (ps_if (pt_not (kTru K (kCall K d_are_similar hr (by decide) (by rfl) (pa_cons (pv 1) (pa_cons (pv 2) pa_nil)))))
  (pss_one (ps_ret (kCall K d_strings_of hr (by decide) (by rfl) (pa_cons (pv 0) (pa_cons (pv 3) (pa_cons (pv 4) (pa_cons pe_non pa_nil)))))))
  pss_nil)
  (pss_cons (ps_for PassesOwn.never rfl (kZip K (by rfl) B.zip (pa_cons (pv 1) (pa_cons (pv 2) pa_nil))) (kTup K (n := 2) rfl (pgs_cons (pg_name (i := 5) sc_parted.nd rfl (.inl rfl)) (pgs_cons (pg_name (i := 6) sc_parted.nd rfl (.inl rfl)) pgs_nil)))
  (pss_one (ps_if (PW.pt (pw_and (pt_cmpR uIsNot (pv 5) pe_non (nomark _)) (pw_and1 (pt_cmpR (kNotEq K hr.units) (kCall K d_head hr (by decide) (by rfl) (pa_cons (pv 0) (pa_cons (pe_tup (pa_cons pe_int (pa_cons (pv 5) pa_nil))) pa_nil))) (kCall K d_head hr (by decide) (by rfl) (pa_cons (pv 0) (pa_cons (pe_tup (pa_cons pe_int (pa_cons (pv 6) pa_nil))) pa_nil))) (nomark _)))))
  (pss_one (ps_ret (kCall K d_strings_of hr (by decide) (by rfl) (pa_cons (pv 0) (pa_cons (pv 3) (pa_cons (pv 4) (pa_cons (kCall K d_head hr (by decide) (by rfl) (pa_cons (pv 0) (pa_cons (pe_tup (pa_cons pe_int (pa_cons (pv 5) pa_nil))) pa_nil))) pa_nil)))))))
  pss_nil)))
  (pss_one (ps_ret pe_non)))), ?_⟩)
  rintro ds R ⟨ps, a, b, n, m, rfl, ⟨hw, ha, hn, hm⟩, q⟩
  dsimp only [cxOf, Cx.nox, Cx.wish, DL.fill, List.map, List.length_cons, List.length_nil, List.length, Nat.reduceAdd, Nat.reduceSub, List.replicate, List.cons_append, List.nil_append]
  walk_at "ev"
  refine e_callP ?_
  walk_at "ev"
  refine ⟨a, b, rfl, by omega, ?_⟩
  walk_at "ev"
  unfold partD at q
  cases hS : simB a b with
  | false =>
    rw [hS] at q
    refine if_T rfl ?_
    walk_at "ev"
    refine e_callP ?_
    walk_at "ev"
    exact ⟨ps, n, m, none, rfl, ⟨hw, hn, hm⟩, q⟩
  | true =>
    rw [hS, if_pos rfl] at q
    refine if_F rfl (ss_next ?_)
    refine ss_seq (ss_for (ei_zipT ?_))
    walk_at "ev"
    refine ⟨_, _, rfl, ?_⟩
    rw [show zipD (dRow a) (dRow b) = (a.zip b).map fun c => PyData.tuple [dCell c.1, dCell c.2] from zipD_map _ _ a b]
    refine ⟨fun i S => ∃ x y, S = [.dat (dctT (pE ps)), .dat (.tuple (dRow a)), .dat (.tuple (dRow b)), .dat (.int n), .dat (.int m), x, y] ∧ badP ps (a.zip b) = badP ps ((a.zip b).drop i), ⟨_, _, rfl, rfl⟩, ?_, ?_⟩
    · rintro i d S hd ⟨x, y, rfl, hI⟩
      rw [List.getElem?_map] at hd
      obtain ⟨c, hc, rfl⟩ : ∃ c, (a.zip b)[i]? = some c ∧ d = .tuple [dCell c.1, dCell c.2] := by
        cases h : (a.zip b)[i]? with
        | none => rw [h] at hd; cases hd
        | some s => rw [h] at hd; exact ⟨s, rfl, (Option.some.inj hd).symm⟩
      have hcc : a[i]? = some c.1 ∧ b[i]? = some c.2 := by
        rw [List.getElem?_zip_eq_some] at hc
        exact hc
      have hcs := sim_at hS hcc.1 hcc.2
      have ed : (a.zip b).drop i = c :: (a.zip b).drop (i + 1) := by
        obtain ⟨h1, h2⟩ := List.getElem?_eq_some_iff.mp hc
        rw [List.drop_eq_getElem_cons h1, h2]
      rw [ed] at hI
      refine g_two ⟨rfl, rfl, ?_⟩
      dsimp only [updA, came, lent, List.set, List.getD_cons_zero, List.getD_cons_succ, List.getD, List.getElem?_cons_zero, List.getElem?_cons_succ, Option.getD_some, Option.getD]
      walk_at "ev"
      rw [isNone_cell]
      obtain ⟨c1, c2⟩ := c
      cases c1 with
      | none =>
        refine if_F rfl (iteF (ss_next ?_))
        exact ⟨_, _, rfl, hI⟩
      | some k1 =>
        cases c2 with
        | none => cases hcs
        | some k2 =>
          refine if_T rfl ?_
          walk_at "ev"
          refine e_call ?_
          walk_at "ev"
          refine ⟨rfl, ps, (0, k1), _, rfl, hw, .inl rfl, rfl, ?_⟩
          try dsimp only [updA, came, lent, List.set, List.getD_cons_zero, List.getD_cons_succ, List.getD, List.getElem?_cons_zero, List.getElem?_cons_succ, Option.getD_some, Option.getD]
          refine e_call ?_
          walk_at "ev"
          refine ⟨rfl, ps, (1, k2), _, rfl, hw, .inl rfl, rfl, ?_⟩
          try dsimp only [updA, came, lent, List.set, List.getD_cons_zero, List.getD_cons_succ, List.getD, List.getElem?_cons_zero, List.getElem?_cons_succ, Option.getD_some, Option.getD]
          refine rr_neD (dNode_okD _) (dNode_okD _) ?_
          rw [eqv_node]
          walk_at "ev"
          rw [badP] at hI
          by_cases hh : headN ps (0, k1) = headN ps (1, k2)
          · refine if_F (by rw [decide_eq_true hh]; rfl) (ss_next ?_)
            rw [if_pos hh] at hI
            exact ⟨_, _, rfl, hI⟩
          · refine if_T (by rw [decide_eq_false hh]; rfl) ?_
            rw [if_neg hh] at hI
            walk_at "ev"
            refine e_callP ?_
            walk_at "ev"
            refine e_call ?_
            walk_at "ev"
            refine ⟨rfl, ps, (0, k1), _, rfl, hw, .inl rfl, rfl, ?_⟩
            try dsimp only [updA, came, lent, List.set, List.getD_cons_zero, List.getD_cons_succ, List.getD, List.getElem?_cons_zero, List.getElem?_cons_succ, Option.getD_some, Option.getD]
            walk_at "ev"
            refine ⟨ps, n, m, some (headN ps (0, k1)), rfl, ⟨hw, hn, hm⟩, ?_⟩
            rw [hI] at q
            exact q
    · rintro S ⟨x, y, rfl, hI⟩
      dsimp only
      walk_at "ev"
      rw [hI, List.length_map, List.drop_length] at q
      exact q
/-! smallest_counterexample -/
def C_scex : Cp := fun ds R => ∃ (r : Rel) (g : Mask), ds = [dRel r, dMask g] ∧ (okR r ∧ okM 4 5 g) ∧ R (dPair (scex r g))
theorem rng_at {n i : Nat} {d : PyData} (h : ((List.range n).map fun i => PyData.int (i : Nat))[i]? = some d) : i < n ∧ d = .int (i : Nat) := by
  rw [List.getElem?_map] at h
  cases c : (List.range n)[i]? with
  | none => rw [c] at h; cases h
  | some s =>
    rw [c] at h
    obtain ⟨h1, h2⟩ := List.getElem?_eq_some_iff.mp c
    rw [List.getElem_range] at h2
    subst h2
    exact ⟨by simpa using h1, (Option.some.inj h).symm⟩
theorem map_at {α : Type} {f : α → PyData} {xs : List α} {i : Nat} {d : PyData} (h : (xs.map f)[i]? = some d) : ∃ x, xs[i]? = some x ∧ d = f x := by
  rw [List.getElem?_map] at h
  cases c : xs[i]? with
  | none => rw [c] at h; cases h
  | some s => rw [c] at h; exact ⟨s, rfl, (Option.some.inj h).symm⟩
theorem rgf_at {f : Nat → PyData} {n i : Nat} {e : PyData} (h : ((List.range n).map f)[i]? = some e) : e = f i := by
  obtain ⟨j, hj, rfl⟩ := map_at h
  obtain ⟨h1, h2⟩ := List.getElem?_eq_some_iff.mp hj
  rw [List.getElem_range] at h2
  rw [h2]
theorem atI_rg {f : Nat → PyData} {n i : Nat} (h : i < n) : L2.atI ((List.range n).map f) (i : Int) = some (f i) := atI_nat (by rw [List.getElem?_map, List.getElem?_range h]; rfl)
theorem isNone_dct (ps : Par) : isNone (dctT (pE ps)) = false := rfl
theorem isNone_pair (o : Option (List Nat × List Nat)) : isNone (dPair o) = o.isNone := by cases o <;> rfl
theorem fs_take {α γ : Type} {f : α → Option γ} {xs : List α} (h : ∀ (i : Nat) (x : α), xs[i]? = some x → f x = none) : xs.findSome? f = none := by
  rw [List.findSome?_eq_none_iff]
  intro x hx
  obtain ⟨i, hi, rfl⟩ := List.mem_iff_getElem.mp hx
  exact h i _ (List.getElem?_eq_getElem hi)
theorem fs_at {α γ : Type} {f : α → Option γ} : ∀ {xs : List α} {i : Nat} {x : α} {y : γ}, xs[i]? = some x → f x = some y → (∀ (j : Nat) (z : α), j < i → xs[j]? = some z → f z = none) → xs.findSome? f = some y
  | [], i, x, y, h, _, _ => by simp at h
  | a :: xs, 0, x, y, h, e, _ => by
    simp at h
    subst h
    rw [List.findSome?_cons, e]
  | a :: xs, i + 1, x, y, h, e, k => by
    rw [List.findSome?_cons, k 0 a (Nat.succ_pos _) rfl]
    exact fs_at (i := i) (by simpa using h) e fun j z hj hz => k (j + 1) z (Nat.succ_lt_succ hj) (by simpa using hz)
theorem foldR_wf : ∀ (xs : List (List (Option Nat) × List (Option Nat))) (ps : Par), WfP ps → WfP (xs.foldl joinR ps)
  | [], ps, w => w
  | x :: xs, ps, w => foldR_wf xs _ (by
    have : ∀ (ys : List (Option Nat × Option Nat)) (ps : Par), WfP ps → WfP (ys.foldl joinP ps) := by
      intro ys
      induction ys with
      | nil => exact fun ps w => w
      | cons y ys ih => exact fun ps w => ih _ (joinP_wf w y)
    exact this _ ps w)
theorem eqP_wf (rs os : List (List (Option Nat))) : WfP (eqP rs os) := foldR_wf _ [] ⟨.nil, fun p hp => by cases hp⟩
theorem sc_smallest_counterexample : FnScope ["release", "mask", "most", "rows", "goals", "total", "length", "other", "parents", "pair", "one"] ["release", "mask"] (defScope s_smallest_counterexample) := ⟨rfl, rfl, rfl, by decide +kernel, rfl, by decide +kernel, by decide +kernel⟩
theorem dx_smallest_counterexample (B : Bl mg) (Cc : Cs K mg) (d_bound : Dx P w K mg base "bound" 1 ["masks"] (pureC C_bound)) (d_template_of : Dx P w K mg base "template_of" 3 ["mask", "length"] (pureC C_template_of)) (d_equated : Dx P w K mg base "equated" 2 ["rows", "others"] (pureC C_equated)) (d_parted : Dx P w K mg base "parted" 3 ["parents", "one", "two", "length", "other"] (pureC C_parted)) (Fx : Fp K mg "smallest_counterexample" s_smallest_counterexample) : Dx P w K mg base "smallest_counterexample" 4 ["release", "mask"] (pureC C_scex) := by
  obtain ⟨f_bound, fd_bound, d_bound⟩ := d_bound
  obtain ⟨f_template_of, fd_template_of, d_template_of⟩ := d_template_of
  obtain ⟨f_equated, fd_equated, d_equated⟩ := d_equated
  obtain ⟨f_parted, fd_parted, d_parted⟩ := d_parted
  obtain ⟨f, fd, F, gl⟩ := Fx
  refine ⟨f, fd, ?_, gl, F.kp, F.bindsN fun _ _ _ _ _ _ us hl => match us, hl with | [_, _], _ => rfl⟩
  refine fn_pure F sc_smallest_counterexample (fun ds R h => by
    obtain ⟨_, _, rfl, _⟩ := h
    rfl) (fun cdv A outer s H E hr => ⟨_, (pss_cons (ps_set (i := 2) sc_smallest_counterexample.nd rfl (.inl rfl) (pe_op (kAdd K) (kCall K d_bound hr (by decide) (by rfl) (pa_cons (pe_op (kAdd K) (pe_callTy (kList K rfl) (by rfl) B.list (by decide +kernel) (pa_cons (pv 0) pa_nil)) (pe_lst (pa_cons (pv 1) pa_nil))) pa_nil)) pe_int))
  (pss_cons (ps_setLc (i := 3) (own := [("length", 6)]) (g := gName 6) (tt := tYes) rfl sc_smallest_counterexample.nd rfl rfl (sw_true rfl rfl rfl (by decide +kernel)) (pi_range1 (by rfl) B.range (pa_cons (pe_op (kAdd K) (pv 2) pe_int) pa_nil)) (blkOk_by (by kernel_rfl)) (fun _ _ _ _ _ => (pg_name (i := 6) sc_smallest_counterexample.nd rfl (Or.inr rfl))) (fun _ _ _ _ _ => pts_nil) (fun _ _ _ _ _ => (pe_lc (own := [("one", 10)]) (g := gName 10) (tt := tYes) rfl sc_smallest_counterexample.nd  (kAny K (pv 0)) (blkOk_by (by kernel_rfl)) (fun _ _ _ _ _ => (pg_name (i := 10) sc_smallest_counterexample.nd rfl (Or.inl rfl))) (fun _ _ _ _ _ => pts_nil) (fun _ _ _ _ _ => (kCall K d_template_of hr (by decide) (by rfl) (pa_cons (pv 10) (pa_cons (pv 6) pa_nil)))))))
  (pss_cons (ps_setLc (i := 4) (own := [("length", 6)]) (g := gName 6) (tt := tYes) rfl sc_smallest_counterexample.nd rfl rfl (sw_true rfl rfl rfl (by decide +kernel)) (pi_range1 (by rfl) B.range (pa_cons (pe_op (kAdd K) (pv 2) pe_int) pa_nil)) (blkOk_by (by kernel_rfl)) (fun _ _ _ _ _ => (pg_name (i := 6) sc_smallest_counterexample.nd rfl (Or.inl rfl))) (fun _ _ _ _ _ => pts_nil) (fun _ _ _ _ _ => (kCall K d_template_of hr (by decide) (by rfl) (pa_cons (pv 1) (pa_cons (pv 6) pa_nil)))))
  (pss_cons (ps_for PassesOwn.never rfl (pi_range1 (by rfl) B.range (pa_cons (pe_op (kAdd K) (pe_op (kMul K) pe_int (pv 2)) pe_int) pa_nil)) (pg_name (i := 5) sc_smallest_counterexample.nd rfl (.inl rfl))
  (pss_one (ps_for PassesOwn.never rfl (pi_range2 (by rfl) B.range (pa_cons (pe_callB (call_max2 rfl) (by rfl) B.max (by decide +kernel) (pa_cons pe_int (pa_cons (pe_op op_sub (pv 5) (pv 2)) pa_nil))) (pa_cons (pe_op (kAdd K) (pe_op op_fdiv (pv 5) pe_int) pe_int) pa_nil))) (pg_name (i := 6) sc_smallest_counterexample.nd rfl (.inl rfl))
  (pss_cons (ps_set (i := 7) sc_smallest_counterexample.nd rfl (.inl rfl) (pe_op op_sub (pv 5) (pv 6)))
  (pss_cons (ps_set (i := 8) sc_smallest_counterexample.nd rfl (.inl rfl) (kCall K d_equated hr (by decide) (by rfl) (pa_cons (pe_ix (kIx K) (pv 3) (pv 6) (fun _ _ => rfl)) (pa_cons (pe_ix (kIx K) (pv 3) (pv 7) (fun _ _ => rfl)) pa_nil))))
  (pss_one (ps_if (pt_cmpR uIsNot (pv 8) pe_non (nomark _))
  (pss_cons (ps_set (i := 9) sc_smallest_counterexample.nd rfl (.inl rfl) (kCall K d_parted hr (by decide) (by rfl) (pa_cons (pv 8) (pa_cons (pe_ix (kIx K) (pv 4) (pv 6) (fun _ _ => rfl)) (pa_cons (pe_ix (kIx K) (pv 4) (pv 7) (fun _ _ => rfl)) (pa_cons (pv 6) (pa_cons (pv 7) pa_nil)))))))
  (pss_one (ps_if (pt_cmpR uIsNot (pv 9) pe_non (nomark _))
  (pss_one (ps_ret (pv 9)))
  pss_nil)))
  pss_nil)))))))
  (pss_one (ps_ret pe_non)))))), ?_⟩)
  rintro ds R ⟨r, g, rfl, ⟨hr0, hg⟩, q⟩
  dsimp only [cxOf, Cx.nox, Cx.wish, DL.fill, List.map, List.length_cons, List.length_nil, List.length, Nat.reduceAdd, Nat.reduceSub, List.replicate, List.cons_append, List.nil_append]
  have h3 := hr0.1
  walk_at "ev"
  refine e_callP ?_
  walk_at "ev"
  refine rb_of_rbn (rbn_listT ?_)
  walk_at "ev"
  refine rr_of_rn (rn_addL rfl rfl (by rw [List.length_map]; simp; omega) ?_)
  walk_at "ev"
  refine ⟨r ++ [g], _, rfl, ⟨by rw [List.map_append]; rfl, by simp; omega, fun m hm => ?_⟩, ?_⟩
  · rcases List.mem_append.mp hm with h | h
    · exact Nat.le_trans (hr0.2 m h).1 (by decide)
    · rw [List.mem_singleton.mp h]; exact Nat.le_trans hg.1 (by decide)
  have hb : bnd (r ++ [g]) ≤ 82 := by
    have h1 : ((r ++ [g]).map sumM).sum ≤ (r ++ [g]).length * 20 := by
      have : ∀ xs : List Mask, (∀ m ∈ xs, okM 4 5 m) → (xs.map sumM).sum ≤ xs.length * 20 := by
        intro xs
        induction xs with
        | nil => intro _; simp
        | cons m xs ih =>
          intro h
          have := ih fun k hk => h k (List.mem_cons_of_mem _ hk)
          have h2 := sumM_le (h m List.mem_cons_self)
          rw [List.map_cons, List.sum_cons, List.length_cons]
          omega
      exact this _ fun m hm => (List.mem_append.mp hm).elim (hr0.2 m) fun h => by rw [List.mem_singleton.mp h]; exact hg
    unfold bnd
    rw [List.length_append, List.length_singleton] at h1
    omega
  walk_at "ev"
  obtain ⟨M, hM⟩ : ∃ M, M = bnd (r ++ [g]) + 1 := ⟨_, rfl⟩
  have eM : ((bnd (r ++ [g]) : Nat) : Int) + 1 = (M : Int) := by omega
  rw [eM]
  unfold scex at q
  rw [← hM] at q
  have hM2 : M ≤ 83 := by omega
  dsimp only [updA, came, lent, List.set, List.getD_cons_zero, List.getD_cons_succ, List.getD, List.getElem?_cons_zero, List.getElem?_cons_succ, Option.getD_some, Option.getD]
  refine s_let (e_new (n_mapI (gw_name (by simp)) (ei_range1 ?_)))
  walk_at "ev"
  have eM2 : ((M : Int) + 1).toNat = M + 1 := by omega
  refine ⟨_, rfl, by omega, by omega, rfl, by rw [List.length_map, List.length_range]; omega, (List.range (M + 1)).map fun n => .list (dRows (tmpR r n)), by rw [List.length_map, List.length_map, List.length_range, List.length_range, eM2], ?_, ?_⟩
  · intro i d e hd he
    obtain ⟨hi, rfl⟩ := rng_at hd
    have he := rgf_at he
    subst he
    rw [eM2] at hi
    refine g_name ⟨rfl, ?_⟩
    dsimp only [updA, came, lent, List.set, List.getD_cons_zero, List.getD_cons_succ, List.getD, List.getElem?_cons_zero, List.getElem?_cons_succ, Option.getD_some, Option.getD]
    refine e_new (n_mapI (gw_name (by simp)) (ei_T ?_))
    walk_at "ev"
    refine ⟨_, rfl, rfl, by rw [List.length_map]; omega, dRows (tmpR r i), by unfold dRows tmpR; rw [List.length_map, List.length_map, List.length_map], ?_, rfl, rfl⟩
    intro j d e hd he
    obtain ⟨m, hm, rfl⟩ := map_at hd
    have he2 : e = .tuple (dRow (templ m i)) := by
      unfold dRows tmpR at he
      rw [List.map_map, List.getElem?_map, hm] at he
      exact (Option.some.inj he).symm
    subst he2
    refine g_name ⟨rfl, ?_⟩
    dsimp only [updA, came, lent, List.set, List.getD_cons_zero, List.getD_cons_succ, List.getD, List.getElem?_cons_zero, List.getElem?_cons_succ, Option.getD_some, Option.getD]
    refine e_callP ?_
    walk_at "ev"
    exact ⟨m, i, rfl, ⟨hr0.2 m (List.mem_of_getElem? hm), by omega⟩, rfl, rfl⟩
  walk_at "ev"
  dsimp only [updA, came, lent, List.set, List.getD_cons_zero, List.getD_cons_succ, List.getD, List.getElem?_cons_zero, List.getElem?_cons_succ, Option.getD_some, Option.getD]
  refine s_let (e_new (n_mapI (gw_name (by simp)) (ei_range1 ?_)))
  walk_at "ev"
  refine ⟨_, rfl, by omega, by omega, rfl, by rw [List.length_map, List.length_range]; omega, (List.range (M + 1)).map fun n => .tuple (dRow (templ g n)), by rw [List.length_map, List.length_map, List.length_range, List.length_range, eM2], ?_, ?_⟩
  · intro i d e hd he
    obtain ⟨hi, rfl⟩ := rng_at hd
    have he := rgf_at he
    subst he
    rw [eM2] at hi
    refine g_name ⟨rfl, ?_⟩
    dsimp only [updA, came, lent, List.set, List.getD_cons_zero, List.getD_cons_succ, List.getD, List.getElem?_cons_zero, List.getElem?_cons_succ, Option.getD_some, Option.getD]
    refine e_callP ?_
    walk_at "ev"
    exact ⟨g, i, rfl, ⟨hg, by omega⟩, rfl, rfl⟩
  obtain ⟨RW, hRW⟩ : ∃ RW, RW = PyData.list ((List.range (M + 1)).map fun n => .list (dRows (tmpR r n))) := ⟨_, rfl⟩
  obtain ⟨GL, hGL⟩ : ∃ GL, GL = PyData.list ((List.range (M + 1)).map fun n => .tuple (dRow (templ g n))) := ⟨_, rfl⟩
  walk_at "ev"
  dsimp only [updA, came, lent, List.set, List.getD_cons_zero, List.getD_cons_succ, List.getD, List.getElem?_cons_zero, List.getElem?_cons_succ, Option.getD_some, Option.getD]
  rw [← hRW, ← hGL]
  refine ss_for (ei_range1 ?_)
  walk_at "ev"
  refine rr_mulI (.inl ⟨by decide, by decide⟩) ?_
  walk_at "ev"
  have eT : (2 * (M : Int) + 1).toNat = 2 * M + 1 := by omega
  refine ⟨_, rfl, by omega, by omega, ?_⟩
  rw [eT]
  refine ⟨fun t S => ∃ x y z v w, S = [.dat (dRel r), .dat (dMask g), .dat (.int M), .dat RW, .dat GL, x, y, z, v, w, .no] ∧ ∀ k, k < t → scexT r g M k = none, ⟨_, _, _, _, _, rfl, fun k hk => absurd hk (Nat.not_lt_zero _)⟩, ?_, ?_⟩
  · rintro t d S hd ⟨x, y, z, v, w, rfl, hI⟩
    obtain ⟨ht, rfl⟩ := rng_at hd
    refine g_name ⟨rfl, ?_⟩
    dsimp only [updA, came, lent, List.set, List.getD_cons_zero, List.getD_cons_succ, List.getD, List.getElem?_cons_zero, List.getElem?_cons_succ, Option.getD_some, Option.getD]
    refine ss_for (ei_range2 ?_)
    walk_at "ev"
    refine ⟨_, _, rfl, by omega, by omega, by omega, by omega, ?_⟩
    have eL : (((t : Int) / 2 + 1) - max 0 ((t : Int) - (M : Int))).toNat = t / 2 + 1 - (t - M) := by omega
    rw [eL]
    refine ⟨fun i S => ∃ y z v w, S = [.dat (dRel r), .dat (dMask g), .dat (.int M), .dat RW, .dat GL, .dat (.int t), y, z, v, w, .no] ∧ ∀ k, k < i → tryNM r g (t - M + k) (t - (t - M + k)) = none, ⟨_, _, _, _, rfl, fun k hk => absurd hk (Nat.not_lt_zero _)⟩, ?_, ?_⟩
    · rintro i d S hd ⟨y, z, v, w, rfl, hJ⟩
      obtain ⟨k, hk, rfl⟩ := map_at hd
      obtain ⟨h1, h2⟩ := List.getElem?_eq_some_iff.mp hk
      rw [List.getElem_range] at h2
      subst h2
      rw [List.length_range] at h1
      have en : max 0 ((t : Int) - (M : Int)) + (i : Nat) = ((t - M + i : Nat) : Int) := by omega
      rw [en]
      obtain ⟨n, hn⟩ : ∃ n, n = t - M + i := ⟨_, rfl⟩
      obtain ⟨m, hm⟩ : ∃ m, m = t - n := ⟨_, rfl⟩
      have hnM : n ≤ M := by omega
      have hmM : m ≤ M := by omega
      rw [← hn]
      refine g_name ⟨rfl, ?_⟩
      dsimp only [updA, came, lent, List.set, List.getD_cons_zero, List.getD_cons_succ, List.getD, List.getElem?_cons_zero, List.getElem?_cons_succ, Option.getD_some, Option.getD]
      walk_at "ev"
      rw [show (t : Int) - (n : Int) = (m : Int) by omega]
      dsimp only [updA, came, lent, List.set, List.getD_cons_zero, List.getD_cons_succ, List.getD, List.getElem?_cons_zero, List.getElem?_cons_succ, Option.getD_some, Option.getD]
      refine e_callP ?_
      walk_at "ev"
      have LR : ∀ S, LstAt S ((List.range (M + 1)).map fun n => PyData.list (dRows (tmpR r n))) (.dat RW) := fun S => by rw [hRW]; rfl
      have LG : ∀ S, LstAt S ((List.range (M + 1)).map fun n => PyData.tuple (dRow (templ g n))) (.dat GL) := fun S => by rw [hGL]; rfl
      refine rr_ixL (LR _) (atI_rg (by omega)) ?_
      walk_at "ev"
      refine rr_ixL (LR _) (atI_rg (by omega)) ?_
      walk_at "ev"
      have hin : i < t / 2 + 1 - (t - M) := h1
      have hpair : (pairsT M t)[i]? = some (n, m) := by
        unfold pairsT
        rw [List.getElem?_map, List.getElem?_range hin, hm, hn]
        rfl
      refine ⟨tmpR r n, tmpR r m, rfl, ⟨by unfold tmpR; rw [List.length_map]; exact h3, fun row hrow => ?_⟩, ?_⟩
      · unfold tmpR at hrow
        obtain ⟨f, hf, rfl⟩ := List.mem_map.mp hrow
        have := templ_len (hr0.2 f hf) n
        omega
      have step : tryNM r g n m = none → ∀ k, k < i + 1 → tryNM r g (t - M + k) (t - (t - M + k)) = none := fun h0 k hk => by
        rcases Nat.lt_succ_iff_lt_or_eq.mp hk with h | h
        · exact hJ k h
        · subst h
          rw [← hn, ← hm]
          exact h0
      have done_ : ∀ p, tryNM r g n m = some p → (List.range (2 * M + 1)).findSome? (scexT r g M) = some p := fun p h0 => by
        refine fs_at (i := t) (x := t) (List.getElem?_range ht) ?_ fun j z hj hz => ?_
        · unfold scexT
          refine fs_at hpair h0 fun j z hj hz => ?_
          unfold pairsT at hz
          rw [List.getElem?_map] at hz
          cases c : (List.range (t / 2 + 1 - (t - M)))[j]? with
          | none => rw [c] at hz; cases hz
          | some j2 =>
            rw [c] at hz
            obtain ⟨g1, g2⟩ := List.getElem?_eq_some_iff.mp c
            rw [List.getElem_range] at g2
            subst g2
            rw [← Option.some.inj hz]
            exact hJ j hj
        · obtain ⟨g1, g2⟩ := List.getElem?_eq_some_iff.mp hz
          rw [List.getElem_range] at g2
          subst g2
          exact hI j hj
      unfold tryNM at step done_
      cases hS : simR (tmpR r n) (tmpR r m) with
      | false =>
        rw [hS] at step
        walk_at "ev"
        dsimp only [updA, came, lent, List.set, List.getD_cons_zero, List.getD_cons_succ, List.getD, List.getElem?_cons_zero, List.getElem?_cons_succ, Option.getD_some, Option.getD]
        refine if_F rfl (ss_next ?_)
        exact ⟨_, _, _, _, rfl, step rfl⟩
      | true =>
        rw [hS, if_pos rfl] at step done_
        walk_at "ev"
        dsimp only [updA, came, lent, List.set, List.getD_cons_zero, List.getD_cons_succ, List.getD, List.getElem?_cons_zero, List.getElem?_cons_succ, Option.getD_some, Option.getD]
        refine if_T rfl ?_
        walk_at "ev"
        refine e_callP ?_
        walk_at "ev"
        refine rr_ixL (LG _) (atI_rg (by omega)) ?_
        walk_at "ev"
        refine rr_ixL (LG _) (atI_rg (by omega)) ?_
        walk_at "ev"
        have hgl := templ_len hg n
        refine ⟨_, _, _, n, m, rfl, ⟨eqP_wf _ _, by omega, by omega, by omega⟩, ?_⟩
        walk_at "ev"
        dsimp only [updA, came, lent, List.set, List.getD_cons_zero, List.getD_cons_succ, List.getD, List.getElem?_cons_zero, List.getElem?_cons_succ, Option.getD_some, Option.getD]
        rw [isNone_pair]
        cases hP : partD (eqP (tmpR r n) (tmpR r m)) (templ g n) (templ g m) n m with
        | none =>
          refine if_F rfl (ss_next ?_)
          exact ⟨_, _, _, _, rfl, step hP⟩
        | some p =>
          refine if_T rfl ?_
          walk_at "ev"
          rw [done_ p hP] at q
          exact q
    · rintro S ⟨y, z, v, w, rfl, hJ⟩
      dsimp only
      refine ⟨_, _, _, _, _, rfl, fun k hk => ?_⟩
      rcases Nat.lt_succ_iff_lt_or_eq.mp hk with h | h
      · exact hI k h
      · subst h
        unfold scexT pairsT
        refine fs_take fun i x hx => ?_
        rw [List.getElem?_map] at hx
        cases c : (List.range (k / 2 + 1 - (k - M)))[i]? with
        | none => rw [c] at hx; cases hx
        | some j =>
          rw [c] at hx
          obtain ⟨h1, h2⟩ := List.getElem?_eq_some_iff.mp c
          rw [List.getElem_range] at h2
          subst h2
          rw [← Option.some.inj hx]
          exact hJ i (by simpa using h1)
  · rintro S ⟨x, y, z, v, w, rfl, hI⟩
    dsimp only
    walk_at "ev"
    have e : (List.range (2 * M + 1)).findSome? (scexT r g M) = none := fs_take fun i x hx => by
      obtain ⟨h1, h2⟩ := List.getElem?_eq_some_iff.mp hx
      rw [List.getElem_range] at h2
      subst h2
      exact hI i (by simpa using h1)
    rw [e] at q
    exact q
/-! redundant -/
def without (r : Rel) (i : Nat) : Rel := r.take i ++ r.drop (i + 1)
def redB (r : Rel) (i : Nat) : Bool := (scex (without r i) (r.getD i [])).isNone
def redL (r : Rel) : List Nat := (List.range r.length).filter (redB r)
def dNs (ns : List Nat) : List PyData := ns.map fun (i : Nat) => PyData.int (i : Nat)
def C_redundant : Cp := fun ds R => ∃ (r : Rel), ds = [dRel r] ∧ okR r ∧ R (.list (dNs (redL r)))
theorem filter_range (p : Nat → Bool) (i : Nat) : (List.range (i + 1)).filter p = (List.range i).filter p ++ (if p i = true then [i] else []) := by
  rw [List.range_succ, List.filter_append]
  congr 1
  rw [List.filter_cons]
  rfl
theorem okR_without {r : Rel} (h : okR r) (i : Nat) : okR (without r i) := ⟨by
  unfold without
  rw [List.length_append, List.length_take, List.length_drop]
  have := h.1
  omega, fun m hm => by
  unfold without at hm
  rcases List.mem_append.mp hm with h1 | h1
  · exact h.2 m (List.mem_of_mem_take h1)
  · exact h.2 m (List.mem_of_mem_drop h1)⟩
theorem sc_redundant : FnScope ["release", "found", "index", "mask"] ["release"] (defScope s_redundant) := ⟨rfl, rfl, rfl, by decide +kernel, rfl, by decide +kernel, by decide +kernel⟩
theorem dx_redundant (B : Bl mg) (Cc : Cs K mg) (d_need_release : Dx P w K mg base "need_release" 5 ["value"] (pureC C_need_release)) (d_smallest_counterexample : Dx P w K mg base "smallest_counterexample" 4 ["release", "mask"] (pureC C_scex)) (Fx : Fp K mg "redundant" s_redundant) : Dx P w K mg base "redundant" 6 ["release"] (pureC C_redundant) := by
  obtain ⟨f_need_release, fd_need_release, d_need_release⟩ := d_need_release
  obtain ⟨f_smallest_counterexample, fd_smallest_counterexample, d_smallest_counterexample⟩ := d_smallest_counterexample
  obtain ⟨f, fd, F, gl⟩ := Fx
  refine ⟨f, fd, ?_, gl, F.kp, F.bindsN fun _ _ _ _ _ _ us hl => match us, hl with | [_], _ => rfl⟩
  refine fn_pure F sc_redundant (fun ds R h => by
    obtain ⟨_, rfl, _⟩ := h
    rfl) (fun cdv A outer s H E hr => ⟨_, (pss_cons (ps_expr (kCall K d_need_release hr (by decide) (by rfl) (pa_cons (pv 0) pa_nil)))
  (pss_cons (ps_set (i := 1) sc_redundant.nd rfl (.inl rfl) (pe_lst pa_nil))
  (pss_cons (ps_for PassesOwn.never rfl (kEn K (by rfl) B.enumerate (pa_cons (pv 0) pa_nil)) (kTup K (n := 2) rfl (pgs_cons (pg_name (i := 2) sc_redundant.nd rfl (.inl rfl)) (pgs_cons (pg_name (i := 3) sc_redundant.nd rfl (.inl rfl)) pgs_nil)))
  (pss_one (ps_if (pt_cmpR uIs (kCall K d_smallest_counterexample hr (by decide) (by rfl) (pa_cons (pe_op (kAdd K) (pe_slice (kSl K) (pv 0) po_none (po_some (pv 2))) (pe_slice (kSl K) (pv 0) (po_some (pe_op (kAdd K) (pv 2) pe_int)) po_none)) (pa_cons (pv 3) pa_nil))) pe_non (nomark _))
  (pss_one (ps_expr (kBm K PySem.F.plainAttrs_list PySem.F.slot_list_append PySem.F.type_list_append mt_append (pv 1) (pa_cons (pv 2) pa_nil))))
  pss_nil)))
  (pss_one (ps_ret (pv 1)))))), ?_⟩)
  rintro ds R ⟨r, rfl, hr0, q⟩
  dsimp only [cxOf, Cx.nox, Cx.wish, DL.fill, List.map, List.length_cons, List.length_nil, List.length, Nat.reduceAdd, Nat.reduceSub, List.replicate, List.cons_append, List.nil_append]
  walk_at "ev"
  refine e_callP ?_
  walk_at "ev"
  refine ⟨r, rfl, hr0, ?_⟩
  refine ss_seq (s_own (n_lst ?_))
  walk_at "ev"
  intro a
  refine ss_seq (ss_for (ei_en ?_))
  walk_at "ev"
  refine ⟨_, _, rfl, rfl, fun i S => ∃ x y, S = [.dat (dRel r), .own true a (.lst (dNs ((List.range i).filter (redB r)))), x, y], ⟨_, _, rfl⟩, ?_, ?_⟩
  · rintro i d S hd ⟨x, y, rfl⟩
    have hi : i < r.length := by
      have := (List.getElem?_eq_some_iff.mp hd).1
      simpa [enumD] using this
    have hm : r[i]? = some r[i] := List.getElem?_eq_getElem hi
    have e : d = .tuple [.int (i : Nat), dMask r[i]] := by
      unfold enumD at hd
      rw [List.getElem?_map, List.getElem?_range (by simpa using hi)] at hd
      have hd : PyData.tuple [.int (i : Nat), (r.map dMask).getD i .none] = d := Option.some.inj hd
      rw [← hd, List.getD_eq_getElem?_getD, List.getElem?_map, hm]
      rfl
    subst e
    refine gg_tup rfl (gg_cons (g_name ⟨rfl, gg_cons (g_name ⟨rfl, gg_nil ?_⟩)⟩))
    dsimp only [updA, came, lent, List.set, List.getD_cons_zero, List.getD_cons_succ, List.getD, List.getElem?_cons_zero, List.getElem?_cons_succ, Option.getD_some, Option.getD]
    walk_at "ev"
    refine e_callP ?_
    walk_at "ev"
    refine rs_T ?_
    rw [cut_to, ← List.map_take]
    walk_at "ev"
    refine rs_T ?_
    rw [show ((i : Int) + 1) = ((i + 1 : Nat) : Int) by omega, cut_from, ← List.map_drop]
    refine rr_addT (by have := hr0.1; simp only [List.length_map, List.length_take, List.length_drop]; omega) ?_
    rw [← List.map_append]
    walk_at "ev"
    refine ⟨without r i, r[i], rfl, ⟨okR_without hr0 i, hr0.2 _ (List.getElem_mem hi)⟩, ?_⟩
    walk_at "ev"
    rw [isNone_pair, filter_range]
    have e2 : redB r i = (scex (without r i) r[i]).isNone := by
      unfold redB
      rw [List.getD_eq_getElem?_getD, hm]
      rfl
    rw [← e2]
    cases redB r i with
    | false =>
      refine if_F rfl (ss_next ?_)
      simp only [Bool.false_eq_true, if_false, List.append_nil]
      exact ⟨_, _, rfl⟩
    | true =>
      refine if_T rfl ?_
      walk_at "ev"
      refine ee_append rfl ?_
      walk_at "ev"
      have h3 : ((List.range i).filter (redB r)).length ≤ i := by
        have := List.length_filter_le (redB r) (List.range i)
        rw [List.length_range] at this
        exact this
      refine ⟨_, _, rfl, rfl, by unfold dNs; rw [List.length_map]; have := hr0.1; omega, ?_⟩
      simp only [if_true]
      exact ⟨_, _, by unfold dNs; rw [List.map_append]; rfl⟩
  · rintro S ⟨x, y, rfl⟩
    dsimp only
    have e : (enumD (r.map dMask)).length = r.length := by simp [enumD]
    rw [e]
    refine ss_freeze (i := 1) rfl rfl ?_
    dsimp only [updA, came, lent, List.set, List.getD_cons_zero, List.getD_cons_succ, List.getD, List.getElem?_cons_zero, List.getElem?_cons_succ, Option.getD_some, Option.getD]
    walk_at "ev"
    exact q
/-! group_size -/
def C_group_size : Cp := fun ds R => ∃ (r : Rel) (l : List Nat) (n : Nat), ds = [dRel r, .str (mkS l), .int n] ∧ (okR r ∧ okT l ∧ l.length ≤ 40 ∧ 1 ≤ n ∧ n ≤ 26) ∧ R (.int (grpN r l.length n : Nat))
theorem sc_group_size : FnScope ["release", "string", "letters", "shown", "mask", "at", "result", "step"] ["release", "string", "letters"] (defScope s_group_size) := ⟨rfl, rfl, rfl, by decide +kernel, rfl, by decide +kernel, by decide +kernel⟩
theorem dx_group_size (B : Bl mg) (Cc : Cs K mg) (d_need_release : Dx P w K mg base "need_release" 5 ["value"] (pureC C_need_release)) (d_need_string : Dx P w K mg base "need_string" 2 ["value"] (pureC C_need_string)) (d_is_count : Dx P w K mg base "is_count" 1 ["value", "least", "most"] (pureC C_is_count)) (d_template_of : Dx P w K mg base "template_of" 3 ["mask", "length"] (pureC C_template_of)) (Fx : Fp K mg "group_size" s_group_size) : Dx P w K mg base "group_size" 6 ["release", "string", "letters"] (pureC C_group_size) := by
  obtain ⟨f_need_release, fd_need_release, d_need_release⟩ := d_need_release
  obtain ⟨f_need_string, fd_need_string, d_need_string⟩ := d_need_string
  obtain ⟨f_is_count, fd_is_count, d_is_count⟩ := d_is_count
  obtain ⟨f_template_of, fd_template_of, d_template_of⟩ := d_template_of
  obtain ⟨f, fd, F, gl⟩ := Fx
  refine ⟨f, fd, ?_, gl, F.kp, F.bindsN fun _ _ _ _ _ _ us hl => match us, hl with | [_, _, _], _ => rfl⟩
  refine fn_pure F sc_group_size (fun ds R h => by
    obtain ⟨_, _, _, rfl, _⟩ := h
    rfl) (fun cdv A outer s H E hr => ⟨_, (pss_cons (ps_expr (kCall K d_need_release hr (by decide) (by rfl) (pa_cons (pv 0) pa_nil)))
  (pss_cons (ps_expr (kCall K d_need_string hr (by decide) (by rfl) (pa_cons (pv 1) pa_nil)))
  (pss_cons (ps_if (pt_not (kTru K (kCall K d_is_count hr (by decide) (by rfl) (pa_cons (pv 2) (pa_cons pe_int (pa_cons pe_int pa_nil))))))
  (pss_one ps_never)
  pss_nil)
  (pss_cons (ps_set (i := 3) sc_group_size.nd rfl (.inl rfl) pe_dnewK)
  (pss_cons (ps_for PassesOwn.never rfl (kAny K (pv 0)) (pg_name (i := 4) sc_group_size.nd rfl (.inl rfl))
  (pss_one (ps_for PassesOwn.never rfl (kAny K (kCall K d_template_of hr (by decide) (by rfl) (pa_cons (pv 4) (pa_cons (pe_callB (kLen K) (by rfl) B.len PySem.boot_len (pa_cons (pv 1) pa_nil)) pa_nil)))) (pg_name (i := 5) sc_group_size.nd rfl (.inl rfl))
  (pss_one (ps_if (pt_cmpR uIsNot (pv 5) pe_non (nomark _))
  (pss_one (ps_dput (Nat.lt_of_le_of_lt (Nat.add_le_add_left (by decide : 1 ≤ 64) _) hr.units) (pv 3) (pv 5) pe_bl (by rfl)))
  pss_nil)))))
  (pss_cons (ps_set (i := 6) sc_group_size.nd rfl (.inl rfl) pe_int)
  (pss_cons (ps_for PassesOwn.never rfl (pi_range1 (by rfl) B.range (pa_cons (pe_op op_sub (pe_callB (kLen K) (by rfl) B.len PySem.boot_len (pa_cons (pv 1) pa_nil)) (pe_callB (kLen K) (by rfl) B.len PySem.boot_len (pa_cons (pv 3) pa_nil))) pa_nil)) (pg_name (i := 7) sc_group_size.nd rfl (.inl rfl))
  (pss_one (ps_aug (i := 6) sc_group_size.nd rfl (.inl rfl) (pv 2) iop_mul)))
  (pss_one (ps_ret (pv 6)))))))))), ?_⟩)
  rintro ds R ⟨r, l, n, rfl, ⟨hr0, hT, hl, hn1, hn2⟩, q⟩
  dsimp only [cxOf, Cx.nox, Cx.wish, DL.fill, List.map, List.length_cons, List.length_nil, List.length, Nat.reduceAdd, Nat.reduceSub, List.replicate, List.cons_append, List.nil_append]
  walk_at "ev"
  refine e_callP ?_
  walk_at "ev"
  refine ⟨r, rfl, hr0, ?_⟩
  walk_at "ev"
  refine e_callP ?_
  walk_at "ev"
  refine ⟨l, rfl, ⟨hT, hl⟩, ?_⟩
  walk_at "ev"
  refine e_callP ?_
  walk_at "ev"
  refine ⟨_, _, _, rfl, trivial, ?_⟩
  rw [show isCountD (.int (n : Nat)) 1 26 = true from by simp [isCountD]; omega]
  walk_at "ev"
  refine if_F rfl (ss_next ?_)
  refine ss_seq (s_own (en_dnewK ⟨rfl, fun a => ?_⟩))
  dsimp only [updA, came, lent, List.set, List.getD_cons_zero, List.getD_cons_succ, List.getD, List.getElem?_cons_zero, List.getElem?_cons_succ, Option.getD_some, Option.getD]
  refine ss_seq (ss_for (ei_T ?_))
  walk_at "ev"
  refine ⟨_, rfl, fun i S => ∃ x y, S = [.dat (dRel r), .dat (.str (mkS l)), .dat (.int n), .own true a (.dct (dKs (markE (shownL (r.take i) l.length)))), x, y, .no, .no], ⟨_, _, rfl⟩, ?_, ?_⟩
  · rintro i d S hd ⟨x, y, rfl⟩
    rw [List.getElem?_map] at hd
    obtain ⟨m, hm, rfl⟩ : ∃ m, r[i]? = some m ∧ d = dMask m := by
      cases h : r[i]? with
      | none => rw [h] at hd; cases hd
      | some s => rw [h] at hd; exact ⟨s, rfl, (Option.some.inj hd).symm⟩
    have hok := hr0.2 m (List.mem_of_getElem? hm)
    refine g_name ⟨rfl, ?_⟩
    dsimp only [updA, came, lent, List.set, List.getD_cons_zero, List.getD_cons_succ, List.getD, List.getElem?_cons_zero, List.getElem?_cons_succ, Option.getD_some, Option.getD]
    refine ss_for (ei_T (e_callP ?_))
    walk_at "ev"
    refine rb_lenS (by rw [mkS_len]; omega) ?_
    walk_at "ev"
    rw [mkS_len]
    refine ⟨m, l.length, rfl, ⟨hok, by omega⟩, ?_⟩
    refine ⟨_, rfl, fun j S => ∃ y, S = [.dat (dRel r), .dat (.str (mkS l)), .dat (.int n), .own true a (.dct (dKs (markE (shownL (r.take i) l.length ++ ((templ m l.length).take j).filterMap id)))), .dat (dMask m), y, .no, .no], ⟨y, by simp⟩, ?_, ?_⟩
    · rintro j d S hd ⟨y, rfl⟩
      unfold dRow at hd
      rw [List.getElem?_map] at hd
      obtain ⟨c, hc, rfl⟩ : ∃ c, (templ m l.length)[j]? = some c ∧ d = dCell c := by
        cases h : (templ m l.length)[j]? with
        | none => rw [h] at hd; cases hd
        | some s => rw [h] at hd; exact ⟨s, rfl, (Option.some.inj hd).symm⟩
      have et : (templ m l.length).take (j + 1) = (templ m l.length).take j ++ [c] := by
        rw [List.take_add_one, hc]
        rfl
      refine g_name ⟨rfl, ?_⟩
      dsimp only [updA, came, lent, List.set, List.getD_cons_zero, List.getD_cons_succ, List.getD, List.getElem?_cons_zero, List.getElem?_cons_succ, Option.getD_some, Option.getD]
      rw [et, List.filterMap_append]
      walk_at "ev"
      rw [isNone_cell]
      cases c with
      | none =>
        refine if_F rfl (ss_next ?_)
        exact ⟨dCell none |> Sl.dat, by simp⟩
      | some p =>
        refine if_T rfl ?_
        refine ss_dputK ?_
        walk_at "ev"
        refine ⟨_, rfl, true, a, _, rfl, ?_⟩
        walk_at "ev"
        refine ⟨Sum.inl (p : Int), true, a, _, rfl, rfl, ?_, ?_⟩
        · refine Nat.le_trans (markE_len (n := l.length) fun k hk => ?_) (by omega)
          rcases List.mem_append.mp hk with hk | hk
          · exact shownL_lt hk
          · obtain ⟨c, hc2, e⟩ := List.mem_filterMap.mp hk
            have e : c = some k := e
            subst e
            exact templ_lt (List.mem_of_mem_take hc2)
        · dsimp only [updA, came, lent, List.set, List.getD_cons_zero, List.getD_cons_succ, List.getD, List.getElem?_cons_zero, List.getElem?_cons_succ, Option.getD_some, Option.getD]
          rw [← markE_snoc, List.append_assoc]
          exact ⟨_, rfl⟩
    · rintro S ⟨y, rfl⟩
      dsimp only
      have e : (shownL (r.take (i + 1)) l.length) = shownL (r.take i) l.length ++ (templ m l.length).filterMap id := by
        unfold shownL
        rw [List.take_add_one, hm, List.flatMap_append]
        simp
      rw [e]
      rw [List.take_of_length_le (l := templ m l.length) (by unfold dRow; rw [List.length_map]; exact Nat.le_refl _)]
      exact ⟨_, _, rfl⟩
  · rintro S ⟨x, y, rfl⟩
    dsimp only
    rw [List.take_of_length_le (by rw [List.length_map]; exact Nat.le_refl _)]
    walk_at "ev"
    dsimp only [updA, came, lent, List.set, List.getD_cons_zero, List.getD_cons_succ, List.getD, List.getElem?_cons_zero, List.getElem?_cons_succ, Option.getD_some, Option.getD]
    refine ss_for (ei_range1 ?_)
    walk_at "ev"
    refine rb_lenS (by rw [mkS_len]; omega) ?_
    walk_at "ev"
    refine rb_lenK rfl ?_
    walk_at "ev"
    have hm := markE_len (n := l.length) (ns := shownL r l.length) fun k hk => shownL_lt hk
    rw [mkS_len]
    refine ⟨_, rfl, by omega, by omega, fun i S => ∃ z, S = [.dat (dRel r), .dat (.str (mkS l)), .dat (.int n), .own true a (.dct (dKs (markE (shownL r l.length)))), x, y, .dat (.int ((n ^ i : Nat) : Int)), z], ⟨_, rfl⟩, ?_, ?_⟩
    · rintro i d S hd ⟨z, rfl⟩
      refine g_name ⟨rfl, ?_⟩
      dsimp only [updA, came, lent, List.set, List.getD_cons_zero, List.getD_cons_succ, List.getD, List.getElem?_cons_zero, List.getElem?_cons_succ, Option.getD_some, Option.getD]
      refine ss_augC rfl ?_
      walk_at "ev"
      refine ⟨_, rfl, .inr ⟨by omega, by omega⟩, rfl, ?_⟩
      dsimp only [updA, came, lent, List.set, List.getD_cons_zero, List.getD_cons_succ, List.getD, List.getElem?_cons_zero, List.getElem?_cons_succ, Option.getD_some, Option.getD]
      exact ⟨_, by rw [Nat.pow_succ, Int.natCast_mul]⟩
    · rintro S ⟨z, rfl⟩
      dsimp only
      walk_at "ev"
      rw [List.length_map, List.length_range]
      have e : (((l.length : Nat) : Int) - (((markE (shownL r l.length)).length : Nat) : Int)).toNat = l.length - (once (shownL r l.length)).length := by
        rw [markE_once, List.length_map] at hm ⊢
        omega
      rw [e]
      exact q
/-! shown_letters -/
def dLts : Option Lts → PyData
  | none => .none
  | some es => lckK (kE es)
def dOuts (os : List (List Nat)) : List PyData := os.map fun o => .str (mkS o)
def C_shown : Cp := fun ds R => ∃ (r : Rel) (os : List (List Nat)) (n : Nat), ds = [dRel r, .list (dOuts os), .int (n : Nat)] ∧ (okR r ∧ n ≤ 150 ∧ ∀ o ∈ os, o.length ≤ 100000) ∧ R (dLts (shL r os n))
theorem kE_len (es : Lts) : (kE es).length = es.length := List.length_map _
theorem kE_snoc (es : Lts) (i c : Nat) : kE (es ++ [(i, c)]) = kE es ++ [(Sum.inl (i : Int), .str (mkS [c]))] := by
  unfold kE
  rw [List.map_append]
  rfl
theorem star_mk1 : Str.ofString "*" = mkS [42] := by decide +kernel
theorem sc_shown_letters : FnScope ["release", "outputs", "length", "letters", "mask", "output", "row", "at", "char"] ["release", "outputs", "length"] (defScope s_shown_letters) := ⟨rfl, rfl, rfl, by decide +kernel, rfl, by decide +kernel, by decide +kernel⟩
theorem dx_shown_letters (B : Bl mg) (Cc : Cs K mg) (d_template_of : Dx P w K mg base "template_of" 3 ["mask", "length"] (pureC C_template_of)) (Fx : Fp K mg "shown_letters" s_shown_letters) : Dx P w K mg base "shown_letters" 4 ["release", "outputs", "length"] (pureC C_shown) := by
  obtain ⟨f_template_of, fd_template_of, d_template_of⟩ := d_template_of
  obtain ⟨f, fd, F, gl⟩ := Fx
  refine ⟨f, fd, ?_, gl, F.kp, F.bindsN fun _ _ _ _ _ _ us hl => match us, hl with | [_, _, _], _ => rfl⟩
  refine fn_pure F sc_shown_letters (fun ds R h => by
    obtain ⟨_, _, _, rfl, _⟩ := h
    rfl) (fun cdv A outer s H E hr => ⟨_, (pss_cons (ps_set (i := 3) sc_shown_letters.nd rfl (.inl rfl) pe_dnewK)
  (pss_cons (ps_for PassesOwn.never rfl (kZp K (by rfl) B.zip (pa_cons (pv 0) (pa_cons (pv 1) pa_nil))) (kTup K (n := 2) rfl (pgs_cons (pg_name (i := 4) sc_shown_letters.nd rfl (.inl rfl)) (pgs_cons (pg_name (i := 5) sc_shown_letters.nd rfl (.inl rfl)) pgs_nil)))
  (pss_cons (ps_set (i := 6) sc_shown_letters.nd rfl (.inl rfl) (kCall K d_template_of hr (by decide) (by rfl) (pa_cons (pv 4) (pa_cons (pv 2) pa_nil))))
  (pss_cons (ps_if (pt_cmpR (kNotEq K hr.units) (pe_callB (kLen K) (by rfl) B.len PySem.boot_len (pa_cons (pv 6) pa_nil)) (pe_callB (kLen K) (by rfl) B.len PySem.boot_len (pa_cons (pv 5) pa_nil)) (nomark _))
  (pss_one (ps_ret pe_non))
  pss_nil)
  (pss_one (ps_for PassesOwn.never rfl (kZp K (by rfl) B.zip (pa_cons (pv 6) (pa_cons (pv 5) pa_nil))) (kTup K (n := 2) rfl (pgs_cons (pg_name (i := 7) sc_shown_letters.nd rfl (.inl rfl)) (pgs_cons (pg_name (i := 8) sc_shown_letters.nd rfl (.inl rfl)) pgs_nil)))
  (pss_cons (ps_if (pt_cmpR (kNotEq K hr.units) (pe_cmpR uIs (pv 7) pe_non (nomark _)) (pe_cmpR (kEq K hr.units) (pv 8) pe_str (nomark _)) (nomark _))
  (pss_one (ps_ret pe_non))
  pss_nil)
  (pss_one (ps_if (PW.pt (pw_and (pt_cmpR uIsNot (pv 7) pe_non (nomark _)) (pw_and1 (pt_cmpR (kNotEq K hr.units) (pe_dsetd (pv 3) (pv 7) (pv 8) ⟨by rfl, by rfl, by rfl, by rfl⟩) (pv 8) (nomark _)))))
  (pss_one (ps_ret pe_non))
  pss_nil))))))))
  (pss_one (ps_lockF (ps_ret (pv 3)))))), ?_⟩)
  rintro ds R ⟨r, os, n, rfl, ⟨hr0, hn, hos⟩, q⟩
  dsimp only [cxOf, Cx.nox, Cx.wish, DL.fill, List.map, List.length_cons, List.length_nil, List.length, Nat.reduceAdd, Nat.reduceSub, List.replicate, List.cons_append, List.nil_append]
  refine ss_seq (s_own (en_dnewK ⟨rfl, fun a => ?_⟩))
  dsimp only [updA, came, lent, List.set, List.getD_cons_zero, List.getD_cons_succ, List.getD, List.getElem?_cons_zero, List.getElem?_cons_succ, Option.getD_some, Option.getD]
  refine ss_seq (ss_for (ei_zp ?_))
  walk_at "ev"
  refine ⟨_, _, _, _, rfl, rfl, rfl, fun i S => ∃ es x4 x5 x6 x7 x8, S = [.dat (dRel r), .dat (.list (dOuts os)), .dat (.int (n : Nat)), .own true a (.dct (dKs (kE es))), x4, x5, x6, x7, x8] ∧ ((r.zip os).take i).foldl (addM n) (some []) = some es ∧ es.length ≤ 130000 * i, ⟨[], _, _, _, _, _, rfl, rfl, by simp⟩, ?_, ?_⟩
  · rintro i d S hd ⟨es, x4, x5, x6, x7, x8, rfl, hes, hle⟩
    have hd2 : (zipD (r.map dMask) (os.map fun o => .str (mkS o)))[i]? = some d := hd
    rw [zipD_map, List.getElem?_map] at hd2
    obtain ⟨⟨m, o⟩, hz, rfl⟩ : ∃ p, (r.zip os)[i]? = some p ∧ d = .tuple [dMask p.1, .str (mkS p.2)] := by
      cases h : (r.zip os)[i]? with
      | none => rw [h] at hd2; cases hd2
      | some p => rw [h] at hd2; exact ⟨p, rfl, (Option.some.inj hd2).symm⟩
    have hmem := List.of_mem_zip (List.mem_of_getElem? hz)
    have hm := hr0.2 m hmem.1
    have ho := hos o hmem.2
    have hi3 : i < 3 := by
      have h1 := (List.getElem?_eq_some_iff.mp hz).1
      have h2 := zip_len r os
      have h3 := hr0.1
      omega
    refine gg_tup rfl (gg_cons (g_name ⟨rfl, gg_cons (g_name ⟨rfl, gg_nil ?_⟩)⟩))
    dsimp only [updA, came, lent, List.set, List.getD_cons_zero, List.getD_cons_succ, List.getD, List.getElem?_cons_zero, List.getElem?_cons_succ, Option.getD_some, Option.getD]
    refine ss_seq (s_let (e_callP ?_))
    walk_at "ev"
    refine ⟨m, n, rfl, ⟨hm, by omega⟩, ?_⟩
    walk_at "ev"
    dsimp only [updA, came, lent, List.set, List.getD_cons_zero, List.getD_cons_succ, List.getD, List.getElem?_cons_zero, List.getElem?_cons_succ, Option.getD_some, Option.getD]
    have htl := templ_len hm n
    walk_at "ev"
    refine rb_lenS (by rw [mkS_len]; omega) ?_
    walk_at "ev"
    rw [mkS_len, dRow_len]
    have split : (r.zip os).foldl (addM n) (some []) = ((r.zip os).drop (i + 1)).foldl (addM n) (addM n (some es) (m, o)) := by
      conv => lhs; rw [← List.take_append_drop (i + 1) (r.zip os)]
      rw [List.foldl_append, foldl_take _ _ hz, hes]
    refine if_neI (fun hne => ?_) (fun heq => ?_)
    · walk_at "ev"
      have hne : ¬ (templ m n).length = o.length := fun z => hne (by rw [z])
      have e : shL r os n = none := by
        unfold shL
        rw [split]
        have : addM n (some es) (m, o) = none := by
          show (if (templ m n).length = o.length then _ else _) = _
          rw [if_neg hne]
        rw [this, addM_none]
      rw [e] at q
      exact q
    have heq : (templ m n).length = o.length := by omega
    refine ss_next ?_
    have hrow : addM n (some es) (m, o) = rowL es (templ m n) o := by
      show (if (templ m n).length = o.length then _ else _) = _
      rw [if_pos heq]
    refine ss_for (ei_zp ?_)
    walk_at "ev"
    refine ⟨_, _, _, _, rfl, rfl, rfl, fun j S => ∃ es2 x7 x8, S = [.dat (dRel r), .dat (.list (dOuts os)), .dat (.int (n : Nat)), .own true a (.dct (dKs (kE es2))), .dat (dMask m), .dat (.str (mkS o)), .dat (.tuple (dRow (templ m n))), x7, x8] ∧ (((templ m n).zip o).take j).foldl addC (some es) = some es2 ∧ es2.length ≤ es.length + j, ⟨es, _, _, rfl, rfl, by omega⟩, ?_, ?_⟩
    · rintro j d S hd ⟨es2, x7, x8, rfl, hes2, hle2⟩
      have hd2 : (zipD ((templ m n).map dCell) (o.map fun c => .str (mkS [c])))[j]? = some d := hd
      rw [zipD_map, List.getElem?_map] at hd2
      obtain ⟨⟨x, c⟩, hz2, rfl⟩ : ∃ p, ((templ m n).zip o)[j]? = some p ∧ d = .tuple [dCell p.1, .str (mkS [p.2])] := by
        cases h : ((templ m n).zip o)[j]? with
        | none => rw [h] at hd2; cases hd2
        | some p => rw [h] at hd2; exact ⟨p, rfl, (Option.some.inj hd2).symm⟩
      have hj : j < o.length := by
        have h1 := (List.getElem?_eq_some_iff.mp hz2).1
        rw [List.length_zip] at h1
        omega
      have split2 : rowL es (templ m n) o = (((templ m n).zip o).drop (j + 1)).foldl addC (addC (some es2) (x, c)) := by
        unfold rowL
        conv => lhs; rw [← List.take_append_drop (j + 1) ((templ m n).zip o)]
        rw [List.foldl_append, foldl_take _ _ hz2, hes2]
      have bad : addC (some es2) (x, c) = none → R .none := fun h => by
        have e : shL r os n = none := by
          unfold shL
          rw [split, hrow, split2, h, addC_none, addM_none]
        rw [e] at q
        exact q
      refine gg_tup rfl (gg_cons (g_name ⟨rfl, gg_cons (g_name ⟨rfl, gg_nil ?_⟩)⟩))
      dsimp only [updA, came, lent, List.set, List.getD_cons_zero, List.getD_cons_succ, List.getD, List.getElem?_cons_zero, List.getElem?_cons_succ, Option.getD_some, Option.getD]
      walk_at "ev"
      rw [isNone_cell, star_mk1]
      have ecs : eqS (.str (mkS [c])) (.str (mkS [42])) = decide (c = 42) := by
        show decide (mkS [c] = mkS [42]) = _
        exact decide_iff ⟨fun z => by have := mkS_inj z; injection this, fun z => by rw [z]⟩
      rw [ecs]
      cases x with
      | none =>
        by_cases hc : c = 42
        · rw [decide_eq_true hc]
          refine if_F rfl (ss_next ?_)
          walk_at "ev"
          refine if_F rfl (iteF (ss_next ?_))
          refine ⟨es2, _, _, rfl, ?_, by omega⟩
          rw [foldl_take _ _ hz2, hes2]
          show (if c = 42 then _ else _) = _
          rw [if_pos hc]
        · rw [decide_eq_false hc]
          refine if_T rfl ?_
          walk_at "ev"
          refine bad ?_
          show (if c = 42 then _ else _) = _
          rw [if_neg hc]
      | some p =>
        by_cases hc : c = 42
        · rw [decide_eq_true hc]
          refine if_T rfl ?_
          walk_at "ev"
          refine bad ?_
          show (if c = 42 then _ else _) = _
          rw [if_pos hc]
        · rw [decide_eq_false hc]
          refine if_F rfl (ss_next ?_)
          walk_at "ev"
          refine if_T rfl ?_
          walk_at "ev"
          refine ee_setdK rfl ?_
          walk_at "ev"
          have step : addC (some es2) (some p, c) = match getN es2 p with
              | none => some (es2 ++ [(p, c)])
              | some c' => if c' = c then some es2 else none := by
            exact if_neg hc
          refine ⟨Sum.inl (p : Int), _, _, _, _, rfl, rfl, rfl, by rw [kE_len]; omega, fun d' hd' => ?_, fun hd' => ?_⟩
          · rw [getE_kE] at hd'
            cases hg : getN es2 p with
            | none => rw [hg] at hd'; cases hd'
            | some c' =>
              rw [hg] at hd' step
              cases hd'
              walk_at "ev"
              refine if_neS (fun h => ?_) (fun h => ?_)
              · walk_at "ev"
                refine bad ?_
                rw [step]
                exact if_neg fun z => h (by rw [z])
              · refine ss_next ?_
                have e1 : c' = c := by have := mkS_inj h; injection this
                refine ⟨es2, _, _, rfl, ?_, by omega⟩
                rw [foldl_take _ _ hz2, hes2, step]
                exact if_pos e1
          · rw [getE_kE] at hd'
            cases hg : getN es2 p with
            | some c' => rw [hg] at hd'; cases hd'
            | none =>
              rw [hg] at step
              dsimp only [updA, came, lent, List.set, List.getD_cons_zero, List.getD_cons_succ, List.getD, List.getElem?_cons_zero, List.getElem?_cons_succ, Option.getD_some, Option.getD]
              walk_at "ev"
              refine if_neS (fun h => absurd rfl h) (fun h => ss_next ?_)
              rw [putE_new' (by rw [getE_kE, hg]; rfl), ← kE_snoc]
              refine ⟨es2 ++ [(p, c)], _, _, rfl, ?_, by simp; omega⟩
              rw [foldl_take _ _ hz2, hes2, step]
    · rintro S ⟨es2, x7, x8, rfl, hes2, hle2⟩
      have hl : (zipD (dRow (templ m n)) (DL.signs (mkS o))).length = ((templ m n).zip o).length := by
        have : zipD (dRow (templ m n)) (DL.signs (mkS o)) = (((templ m n).zip o).map fun p => PyData.tuple [dCell p.1, .str (mkS [p.2])]) := zipD_map dCell (fun c => .str (mkS [c])) (templ m n) o
        rw [this, List.length_map]
      rw [hl] at hes2 hle2
      rw [List.take_length] at hes2
      refine ⟨es2, _, _, _, _, _, rfl, ?_, ?_⟩
      · rw [foldl_take _ _ hz, hes, hrow]
        exact hes2
      · rw [List.length_zip] at hle2
        omega
  · rintro S ⟨es, x4, x5, x6, x7, x8, rfl, hes, hle⟩
    have hl : (zipD (r.map dMask) (dOuts os)).length = (r.zip os).length := by
      have : zipD (r.map dMask) (dOuts os) = ((r.zip os).map fun p => PyData.tuple [dMask p.1, .str (mkS p.2)]) := zipD_map dMask (fun o => .str (mkS o)) r os
      rw [this, List.length_map]
    rw [hl] at hes
    rw [List.take_length] at hes
    dsimp only
    refine ss_lockF (i := 3) rfl ?_
    dsimp only [updA, came, lent, List.set, List.getD_cons_zero, List.getD_cons_succ, List.getD, List.getElem?_cons_zero, List.getElem?_cons_succ, Option.getD_some, Option.getD]
    walk_at "ev"
    have e : shL r os n = some es := hes
    rw [e] at q
    exact q
/-! possible -/
def C_possible : Cp := fun ds R => ∃ (r : Rel) (s : List Nat), ds = [dRel r, .str (mkS s)] ∧ (okR r ∧ okT s ∧ s.length ≤ 40) ∧ R (.tuple [lckK (fE (fndL r s)), .int (mostN r s.length : Nat)])
theorem bndR_le {r : Rel} (h : okR r) : bnd r ≤ 62 := by
  have h1 : ∀ xs : List Mask, (∀ m ∈ xs, okM 4 5 m) → (xs.map sumM).sum ≤ xs.length * 20 := by
    intro xs
    induction xs with
    | nil => intro _; simp
    | cons m xs ih =>
      intro h
      have := ih fun k hk => h k (List.mem_cons_of_mem _ hk)
      have h2 := sumM_le (h m List.mem_cons_self)
      rw [List.map_cons, List.sum_cons, List.length_cons]
      omega
  have h2 := h1 r h.2
  have h3 := h.1
  unfold bnd
  omega
theorem mostN_le {r : Rel} (h : okR r) {n : Nat} (hn : n ≤ 40) : mostN r n ≤ 124 := by
  have := bndR_le h
  unfold mostN
  omega
theorem runO_len {m : Mask} (h : okM 4 5 m) (l : List Nat) : (runT m l).length ≤ 625 * l.length := by
  have e := runG_len (star := 42) (isS := fun c => decide (c = 42)) 5 (by decide) m h.2 l
  exact Nat.le_trans e (Nat.mul_le_mul_right _ (pow5 h.1))
theorem isNone_lts (o : Option Lts) : DL.isNone (dLts o) = o.isNone := by cases o <;> rfl
theorem fE_snoc (fs : List (Nat × Lts)) (n : Nat) (es : Lts) : fE (fs ++ [(n, es)]) = fE fs ++ [(Sum.inl (n : Int), lckK (kE es))] := by
  unfold fE
  rw [List.map_append]
  rfl
theorem getN_big {fs : List (Nat × Lts)} {n : Nat} (h : ∀ p ∈ fs, p.1 < n) : getN fs n = none := by
  unfold getN
  rw [Option.map_eq_none_iff, List.find?_eq_none]
  intro p hp
  have := h p hp
  simp
  omega
def fndT (r : Rel) (s : List Nat) (k : Nat) : List (Nat × Lts) := (List.range k).filterMap fun n => (shL r (outsL r s) n).map fun es => (n, es)
theorem fndT_succ (r : Rel) (s : List Nat) (k : Nat) : fndT r s (k + 1) = fndT r s k ++ (match shL r (outsL r s) k with | none => [] | some es => [(k, es)]) := by
  unfold fndT
  rw [List.range_succ, List.filterMap_append]
  congr 1
  show List.filterMap _ [k] = _
  cases h : shL r (outsL r s) k with
  | none => simp [List.filterMap, h]
  | some es => simp [List.filterMap, h]
theorem fndT_lt {r : Rel} {s : List Nat} {k : Nat} {p : Nat × Lts} (h : p ∈ fndT r s k) : p.1 < k := by
  unfold fndT at h
  obtain ⟨n, hn, e⟩ := List.mem_filterMap.mp h
  obtain ⟨es, _, rfl⟩ := Option.map_eq_some_iff.mp e
  exact List.mem_range.mp hn
theorem fndT_len (r : Rel) (s : List Nat) (k : Nat) : (fndT r s k).length ≤ k := by
  have := List.length_filterMap_le (fun n => (shL r (outsL r s) n).map fun es => (n, es)) (List.range k)
  rw [List.length_range] at this
  exact this
theorem fnd_len (r : Rel) (s : List Nat) : (fndL r s).length ≤ mostN r s.length + 1 := fndT_len r s _
theorem fnd_rows {r : Rel} {s : List Nat} (hr : okR r) (hs : okT s) (hl : s.length ≤ 40) {p : Nat × Lts} (h : p ∈ fndL r s) : (keysN p.2).Nodup ∧ p.2.length ≤ 1000 ∧ p.1 ≤ 124 ∧ ∀ q ∈ p.2, q.1 < p.1 := by
  obtain ⟨a, b⟩ := fnd_mem.mp (show (p.1, p.2) ∈ fndL r s from h)
  have g := sh_good hs b
  have h1 := nodup_len g
  have h2 := mostN_le hr hl
  exact ⟨g.1, by omega, by omega, fun q hq => (g.2 q hq).1⟩
theorem sc_possible : FnScope ["release", "string", "outputs", "most", "found", "length", "letters", "mask"] ["release", "string"] (defScope s_possible) := ⟨rfl, rfl, rfl, by decide +kernel, rfl, by decide +kernel, by decide +kernel⟩
theorem dx_possible (B : Bl mg) (Cc : Cs K mg) (d_output_of : Dx P w K mg base "output_of" 4 ["mask", "string"] (pureC C_output_of)) (d_bound : Dx P w K mg base "bound" 1 ["masks"] (pureC C_bound)) (d_shown_letters : Dx P w K mg base "shown_letters" 4 ["release", "outputs", "length"] (pureC C_shown)) (Fx : Fp K mg "possible" s_possible) : Dx P w K mg base "possible" 5 ["release", "string"] (pureC C_possible) := by
  obtain ⟨f_output_of, fd_output_of, d_output_of⟩ := d_output_of
  obtain ⟨f_bound, fd_bound, d_bound⟩ := d_bound
  obtain ⟨f_shown_letters, fd_shown_letters, d_shown_letters⟩ := d_shown_letters
  obtain ⟨f, fd, F, gl⟩ := Fx
  refine ⟨f, fd, ?_, gl, F.kp, F.bindsN fun _ _ _ _ _ _ us hl => match us, hl with | [_, _], _ => rfl⟩
  refine fn_pure F sc_possible (fun ds R h => by
    obtain ⟨_, _, rfl, _⟩ := h
    rfl) (fun cdv A outer s H E hr => ⟨_, (pss_cons (ps_setLc (i := 2) (own := [("mask", 7)]) (g := gName 7) (tt := tYes) rfl sc_possible.nd rfl rfl (sw_true rfl rfl rfl (by decide +kernel)) (kAny K (pv 0)) (blkOk_by (by kernel_rfl)) (fun _ _ _ _ _ => (pg_name (i := 7) sc_possible.nd rfl (Or.inl rfl))) (fun _ _ _ _ _ => pts_nil) (fun _ _ _ _ _ => (kCall K d_output_of hr (by decide) (by rfl) (pa_cons (pv 7) (pa_cons (pv 1) pa_nil)))))
  (pss_cons (ps_set (i := 3) sc_possible.nd rfl (.inl rfl) (pe_op (kAdd K) (pe_callB (call_max2 rfl) (by rfl) B.max (by decide +kernel) (pa_cons (kCall K d_bound hr (by decide) (by rfl) (pa_cons (pv 0) pa_nil)) (pa_cons (pe_callB (kLen K) (by rfl) B.len PySem.boot_len (pa_cons (pv 1) pa_nil)) pa_nil))) (kCall K d_bound hr (by decide) (by rfl) (pa_cons (pv 0) pa_nil))))
  (pss_cons (ps_set (i := 4) sc_possible.nd rfl (.inl rfl) pe_dnewK)
  (pss_cons (ps_for PassesOwn.never rfl (pi_range1 (by rfl) B.range (pa_cons (pe_op (kAdd K) (pv 3) pe_int) pa_nil)) (pg_name (i := 5) sc_possible.nd rfl (.inl rfl))
  (pss_cons (ps_set (i := 6) sc_possible.nd rfl (.inl rfl) (kCall K d_shown_letters hr (by decide) (by rfl) (pa_cons (pv 0) (pa_cons (pv 2) (pa_cons (pv 5) pa_nil)))))
  (pss_one (ps_if (pt_cmpR uIsNot (pv 6) pe_non (nomark _))
  (pss_one (ps_dput (Nat.lt_of_le_of_lt (Nat.add_le_add_left (by decide : 1 ≤ 64) _) hr.units) (pv 4) (pv 5) (pv 6) (by rfl)))
  pss_nil))))
  (pss_one (ps_lockF (ps_ret (pe_tup (pa_cons (pv 4) (pa_cons (pv 3) pa_nil)))))))))), ?_⟩)
  rintro ds R ⟨r, s, rfl, ⟨hr0, hT, hl⟩, q⟩
  dsimp only [cxOf, Cx.nox, Cx.wish, DL.fill, List.map, List.length_cons, List.length_nil, List.length, Nat.reduceAdd, Nat.reduceSub, List.replicate, List.cons_append, List.nil_append]
  have hb := bndR_le hr0
  have hM := mostN_le hr0 hl
  have h3 := hr0.1
  refine ss_seq (s_let (e_new (n_mapI (gw_name (by simp)) (ei_T ?_))))
  walk_at "ev"
  refine ⟨_, rfl, rfl, by rw [List.length_map]; omega, dOuts (outsL r s), by unfold dOuts outsL; simp, fun i d e hd he => ?_, ?_⟩
  · unfold dOuts outsL at he
    rw [List.map_map] at he
    obtain ⟨m, hm, _, rfl, rfl⟩ := places hd he
    refine g_name ⟨rfl, ?_⟩
    refine e_callP ?_
    walk_at "ev"
    exact ⟨m, s, rfl, ⟨hr0.2 m hm, hT, hl⟩, rfl, rfl⟩
  dsimp only [updA, came, lent, List.set, List.getD_cons_zero, List.getD_cons_succ, List.getD, List.getElem?_cons_zero, List.getElem?_cons_succ, Option.getD_some, Option.getD]
  walk_at "ev"
  refine e_callP ?_
  walk_at "ev"
  refine ⟨r, _, rfl, ⟨rfl, by omega, fun m hm => Nat.le_trans (hr0.2 m hm).1 (by decide)⟩, ?_⟩
  walk_at "ev"
  refine rb_lenS (by rw [mkS_len]; omega) ?_
  walk_at "ev"
  refine e_callP ?_
  walk_at "ev"
  refine ⟨r, _, rfl, ⟨rfl, by omega, fun m hm => Nat.le_trans (hr0.2 m hm).1 (by decide)⟩, ?_⟩
  walk_at "ev"
  rw [mkS_len, show max ((bnd r : Nat) : Int) (s.length : Int) + ((bnd r : Nat) : Int) = ((mostN r s.length : Nat) : Int) from by unfold mostN; omega]
  refine s_own (en_dnewK ⟨rfl, fun a => ?_⟩)
  dsimp only [updA, came, lent, List.set, List.getD_cons_zero, List.getD_cons_succ, List.getD, List.getElem?_cons_zero, List.getElem?_cons_succ, Option.getD_some, Option.getD]
  refine ss_seq (ss_for (ei_range1 ?_))
  walk_at "ev"
  refine ⟨_, rfl, by omega, by omega, fun i S => ∃ x5 x6, S = [.dat (dRel r), .dat (.str (mkS s)), .dat (.list (dOuts (outsL r s))), .dat (.int (mostN r s.length : Nat)), .own true a (.dct (dKs (fE (fndT r s i)))), x5, x6, .no], ⟨_, _, rfl⟩, ?_, ?_⟩
  · rintro i d S hd ⟨x5, x6, rfl⟩
    obtain ⟨hi, rfl⟩ := rng_at hd
    refine g_name ⟨rfl, ?_⟩
    dsimp only [updA, came, lent, List.set, List.getD_cons_zero, List.getD_cons_succ, List.getD, List.getElem?_cons_zero, List.getElem?_cons_succ, Option.getD_some, Option.getD]
    refine ss_seq (s_let (e_callP ?_))
    walk_at "ev"
    refine ⟨r, outsL r s, i, rfl, ⟨hr0, by omega, fun o ho => ?_⟩, ?_⟩
    · unfold outsL at ho
      obtain ⟨m, hm, rfl⟩ := List.mem_map.mp ho
      have := runO_len (hr0.2 m hm) s
      omega
    walk_at "ev"
    dsimp only [updA, came, lent, List.set, List.getD_cons_zero, List.getD_cons_succ, List.getD, List.getElem?_cons_zero, List.getElem?_cons_succ, Option.getD_some, Option.getD]
    rw [isNone_lts, fndT_succ]
    cases h : shL r (outsL r s) i with
    | none =>
      refine if_F rfl (ss_next ?_)
      simp only [List.append_nil]
      exact ⟨_, _, rfl⟩
    | some es =>
      refine if_T rfl ?_
      refine ss_dputK ?_
      walk_at "ev"
      refine ⟨_, rfl, true, a, _, rfl, ?_⟩
      walk_at "ev"
      refine ⟨Sum.inl (i : Int), true, a, _, rfl, rfl, by unfold fE; rw [List.length_map]; have := fndT_len r s i; omega, ?_⟩
      dsimp only [updA, came, lent, List.set, List.getD_cons_zero, List.getD_cons_succ, List.getD, List.getElem?_cons_zero, List.getElem?_cons_succ, Option.getD_some, Option.getD]
      rw [putE_new' (by rw [getE_fE, getN_big fun p hp => fndT_lt hp]; rfl), show dLts (some es) = lckK (kE es) from rfl, ← fE_snoc]
      exact ⟨_, _, rfl⟩
  · rintro S ⟨x5, x6, rfl⟩
    dsimp only
    refine ss_lockF (i := 4) rfl ?_
    dsimp only [updA, came, lent, List.set, List.getD_cons_zero, List.getD_cons_succ, List.getD, List.getElem?_cons_zero, List.getElem?_cons_succ, Option.getD_some, Option.getD]
    walk_at "ev"
    have e : (((List.range ((mostN r s.length : Nat) + 1 : Int).toNat).map fun (i : Nat) => PyData.int (i : Nat))).length = mostN r s.length + 1 := by simp
    rw [e]
    exact q
/-! lengths -/
def C_lengths : Cp := fun ds R => ∃ (r : Rel) (s : List Nat), ds = [dRel r, .str (mkS s)] ∧ (okR r ∧ okT s ∧ s.length ≤ 40) ∧ R (dLen (lenL r s))
theorem fE_keys (fs : List (Nat × Lts)) : (fE fs).map (·.1) = ((keysN fs).map fun (i : Nat) => (i : Int)).map Sum.inl := by
  unfold fE keysN
  rw [List.map_map, List.map_map, List.map_map]
  rfl
theorem hasN_E (fs : List (Nat × Lts)) (i : Nat) : (getE (fE fs) (Sum.inl (i : Int))).isSome = hasN fs i := by
  rw [getE_fE]
  unfold hasN
  cases getN fs i <;> rfl
theorem downN_step (p : Nat → Bool) (n : Nat) : downN p (n + 1) = if p n = true then downN p n else n + 1 := rfl
theorem sc_lengths : FnScope ["release", "string", "found", "most", "start", "length"] ["release", "string"] (defScope s_lengths) := ⟨rfl, rfl, rfl, by decide +kernel, rfl, by decide +kernel, by decide +kernel⟩
theorem dx_lengths (B : Bl mg) (Cc : Cs K mg) (d_need_release : Dx P w K mg base "need_release" 5 ["value"] (pureC C_need_release)) (d_need_string : Dx P w K mg base "need_string" 2 ["value"] (pureC C_need_string)) (d_possible : Dx P w K mg base "possible" 5 ["release", "string"] (pureC C_possible)) (Fx : Fp K mg "lengths" s_lengths) : Dx P w K mg base "lengths" 6 ["release", "string"] (pureC C_lengths) := by
  obtain ⟨f_need_release, fd_need_release, d_need_release⟩ := d_need_release
  obtain ⟨f_need_string, fd_need_string, d_need_string⟩ := d_need_string
  obtain ⟨f_possible, fd_possible, d_possible⟩ := d_possible
  obtain ⟨f, fd, F, gl⟩ := Fx
  refine ⟨f, fd, ?_, gl, F.kp, F.bindsN fun _ _ _ _ _ _ us hl => match us, hl with | [_, _], _ => rfl⟩
  refine fn_pure F sc_lengths (fun ds R h => by
    obtain ⟨_, _, rfl, _⟩ := h
    rfl) (fun cdv A outer s H E hr => ⟨_, (pss_cons (ps_expr (kCall K d_need_release hr (by decide) (by rfl) (pa_cons (pv 0) pa_nil)))
  (pss_cons (ps_expr (kCall K d_need_string hr (by decide) (by rfl) (pa_cons (pv 1) pa_nil)))
  (pss_cons (ps_asg (kCall K d_possible hr (by decide) (by rfl) (pa_cons (pv 0) (pa_cons (pv 1) pa_nil))) (kTup K (n := 2) rfl (pgs_cons (pg_name (i := 2) sc_lengths.nd rfl (.inl rfl)) (pgs_cons (pg_name (i := 3) sc_lengths.nd rfl (.inl rfl)) pgs_nil))))
  (pss_cons (ps_if (pt_cmpR (kNotInA K hr hr.units) (pv 3) (pv 2) (by rfl))
  (pss_one (ps_ret (pe_tup (pa_cons (pe_callB (call_sortedDU rfl) (by rfl) B.sorted (by decide +kernel) (pa_cons (pv 2) pa_nil)) (pa_cons pe_non pa_nil)))))
  pss_nil)
  (pss_cons (ps_set (i := 4) sc_lengths.nd rfl (.inr rfl) (pv 3))
  (pss_cons (ps_while PassesOwn.never (pt_cmpR (kInA K hr hr.units) (pe_op op_sub (pv 4) pe_int) (pv 2) (by rfl))
  (pss_one (ps_aug (i := 4) sc_lengths.nd rfl (.inr rfl) pe_int ip_sub)))
  (pss_one (ps_ret (pe_tup (pa_cons (pe_lc (own := [("length", 5)]) (g := gName 5) rfl sc_lengths.nd  (kAny K (pe_callB (call_sortedDU rfl) (by rfl) B.sorted (by decide +kernel) (pa_cons (pv 2) pa_nil))) (blkOk_by (by kernel_rfl)) (fun _ _ _ _ _ => (pg_name (i := 5) sc_lengths.nd rfl (Or.inl rfl))) (fun _ _ _ _ _ => (pts_one (pt_cmpR op_lt (pv 5) (pv 4) (nomark _)))) (fun _ _ _ _ _ => (pv 5))) (pa_cons (pv 4) pa_nil))))))))))), ?_⟩)
  rintro ds R ⟨r, s, rfl, ⟨hr0, hT, hl⟩, q⟩
  dsimp only [cxOf, Cx.nox, Cx.wish, DL.fill, List.map, List.length_cons, List.length_nil, List.length, Nat.reduceAdd, Nat.reduceSub, List.replicate, List.cons_append, List.nil_append]
  have hM := mostN_le hr0 hl
  walk_at "ev"
  refine e_callP ?_
  walk_at "ev"
  refine ⟨r, rfl, hr0, ?_⟩
  walk_at "ev"
  refine e_callP ?_
  walk_at "ev"
  refine ⟨s, rfl, ⟨hT, hl⟩, ?_⟩
  walk_at "ev"
  refine e_callP ?_
  walk_at "ev"
  refine ⟨r, s, rfl, ⟨hr0, hT, hl⟩, ?_⟩
  walk_at "ev"
  refine rr_notInK (k := Sum.inl ((mostN r s.length : Nat) : Int)) (es := fE (fndL r s)) (.inr rfl) ?_
  rw [hasN_E]
  have hk : (keysN (fndL r s)).length ≤ 1000000 := by
    unfold keysN
    rw [List.length_map]
    have := fnd_len r s
    omega
  walk_at "ev"
  cases hh : hasN (fndL r s) (mostN r s.length) with
  | false =>
    refine if_T rfl ?_
    walk_at "ev"
    refine rb_of_rbn (rbn_sortD (.inr rfl) (fE_keys _) (by rw [List.length_map]; exact hk) fun ns' hp hs => ?_)
    rw [srt_self (fnd_keys r s) hp hs]
    walk_at "ev"
    unfold lenL at q
    rw [hh, if_neg (by simp)] at q
    rw [List.map_map]
    exact q
  | true =>
    refine if_F rfl (ss_next ?_)
    walk_at "ev"
    dsimp only [updA, came, lent, List.set, List.getD_cons_zero, List.getD_cons_succ, List.getD, List.getElem?_cons_zero, List.getElem?_cons_succ, Option.getD_some, Option.getD]
    refine ss_while (fun m S => ∃ k : Nat, S = [.dat (dRel r), .dat (.str (mkS s)), .dat (lckK (fE (fndL r s))), .dat (.int (mostN r s.length : Nat)), .dat (.int (k : Nat)), .no] ∧ m = k ∧ downN (hasN (fndL r s)) k = downN (hasN (fndL r s)) (mostN r s.length)) ⟨_, _, rfl, rfl, rfl⟩ ?_
    have last : ∀ k : Nat, k = downN (hasN (fndL r s)) (mostN r s.length) → SS K (tRet (tTup (tCons (tLc (iAny K (tCB rSortedDU (tCons (tVar 2) tNil))) (gName 5) (tTest (tOp (rI0 fun i j => V.bl (decide (i < j))) (tVar 5) (tVar 4))) (tVar 5) [5]) (tCons (tVar 4) tNil)))) [.dat (dRel r), .dat (.str (mkS s)), .dat (lckK (fE (fndL r s))), .dat (.int (mostN r s.length : Nat)), .dat (.int (k : Nat)), .no] { nx := fun x => R PyData.none, rt := fun d x => R d } := by
      intro k hk3
      walk_at "ev"
      refine e_new (en_lc (gw_name (by simp)) (ei_L (e_new (en_cb ?_))))
      walk_at "ev"
      refine rbn_sortD (.inr rfl) (fE_keys _) (by rw [List.length_map]; exact hk) fun ns' hp hs => ?_
      rw [srt_self (fnd_keys r s) hp hs]
      refine ⟨_, rfl, rfl, by rw [List.length_map, List.length_map]; exact hk, fun i acc S => S = [.dat (dRel r), .dat (.str (mkS s)), .dat (lckK (fE (fndL r s))), .dat (.int (mostN r s.length : Nat)), .dat (.int (k : Nat)), .no] ∧ acc = dNn (((keysN (fndL r s)).take i).filter fun n => decide (n < k)), ⟨rfl, rfl⟩, ?_, ?_⟩
      · rintro i d acc S hd ⟨rfl, rfl⟩ _
        rw [List.map_map] at hd
        obtain ⟨n, hn, hni, rfl⟩ := place hd
        show GG K (gName 5) (.int (n : Nat)) _ _
        refine g_name ⟨rfl, ?_⟩
        dsimp only [updA, came, lent, List.set, List.getD_cons_zero, List.getD_cons_succ, List.getD, List.getElem?_cons_zero, List.getElem?_cons_succ, Option.getD_some, Option.getD]
        walk_at "ev"
        rw [List.take_add_one, hni, List.filter_append]
        refine if_D (fun h => ?_) (fun h => ?_)
        · walk_at "ev"
          refine ⟨_, rfl, rfl, ?_⟩
          rw [show List.filter (fun n => decide (n < k)) (some n).toList = [n] from by simp; omega]
          unfold dNn
          rw [List.map_append]
          rfl
        · refine ⟨rfl, ?_⟩
          rw [show List.filter (fun n => decide (n < k)) (some n).toList = [] from by simp; omega, List.append_nil]
      · rintro acc S ⟨rfl, rfl⟩
        rw [List.length_map, List.length_map, List.take_length]
        walk_at "ev"
        unfold lenL at q
        rw [hh, if_pos rfl, ← hk3] at q
        exact q
    rintro m S ⟨k, rfl, rfl, hk2⟩
    walk_at "ev"
    cases m with
    | zero =>
      refine rr_inK (k := Sum.inl (((0 : Nat) : Int) - 1)) (es := fE (fndL r s)) (.inr rfl) ?_
      rw [show getE (fE (fndL r s)) (Sum.inl (((0 : Nat) : Int) - 1)) = none from getE_neg (fun es => lckK (kE es)) (fndL r s) (by omega)]
      walk_at "ev"
      refine if_F rfl ?_
      exact last 0 hk2
    | succ k =>
      rw [show (((k + 1 : Nat) : Int) - 1) = ((k : Nat) : Int) by omega]
      refine rr_inK (k := Sum.inl ((k : Nat) : Int)) (es := fE (fndL r s)) (.inr rfl) ?_
      rw [hasN_E]
      walk_at "ev"
      rw [downN_step] at hk2
      cases hc : hasN (fndL r s) k with
      | false =>
        rw [hc, if_neg (by simp)] at hk2
        refine if_F rfl ?_
        exact last (k + 1) hk2
      | true =>
        rw [hc, if_pos rfl] at hk2
        refine if_T rfl ?_
        refine ss_augI rfl ?_
        walk_at "ev"
        refine ⟨_, rfl, rfl, k, by omega, k, ?_, rfl, hk2⟩
        dsimp only [updA, came, lent, List.set, List.getD_cons_zero, List.getD_cons_succ, List.getD, List.getElem?_cons_zero, List.getElem?_cons_succ, Option.getD_some, Option.getD]
        rw [show (((k + 1 : Nat) : Int) - 1) = ((k : Nat) : Int) by omega]
/-! common -/
def rowD (b : Bool) (es : Lts) : PyData := if b = true then lckK (kE es) else dctK (kE es)
theorem rowD_at (b : Bool) (es : Lts) (S : List Sl) : DckAt S (kE es) (.dat (rowD b es)) := by
  cases b
  · exact .inl rfl
  · exact .inr rfl
def C_common : Cp := fun ds R => ∃ (rows : List Lts) (b : Bool), ds = [.list (rows.map (rowD b))] ∧ (rows ≠ [] ∧ rows.length ≤ 1000 ∧ ∀ es ∈ rows, (keysN es).Nodup ∧ es.length ≤ 1000) ∧ R (.list (dPs (comL rows)))
theorem kE_keys (es : Lts) : (kE es).map (·.1) = ((keysN es).map fun (i : Nat) => (i : Int)).map Sum.inl := by
  unfold kE keysN
  rw [List.map_map, List.map_map, List.map_map]
  rfl
def chO : Option Nat → PyData
  | none => .none
  | some c => .str (mkS [c])
theorem get_ch (es : Lts) (i : Nat) : (getE (kE es) (Sum.inl (i : Int))).getD .none = chO (getN es i) := by
  rw [getE_kE]
  cases getN es i <;> rfl
theorem eq_ch (x y : Option Nat) (h : y ≠ none) : eqS (chO x) (chO y) = decide (x = y) := by
  cases y with
  | none => exact absurd rfl h
  | some c =>
    cases x with
    | none => rw [decide_eq_false (by simp)]; rfl
    | some d =>
      show decide (mkS [d] = mkS [c]) = _
      exact decide_iff ⟨fun z => by have := mkS_inj z; injection this with e; rw [e], fun z => by cases z; rfl⟩
theorem sc_ch (x y : Option Nat) (h : y ≠ none) : scD (chO x) (chO y) = true := by
  cases y with
  | none => exact absurd rfl h
  | some c => cases x <;> rfl
theorem sc_common : FnScope ["rows", "first", "rest", "at", "row"] ["rows"] (defScope s_common) := ⟨rfl, rfl, rfl, by decide +kernel, rfl, by decide +kernel, by decide +kernel⟩
theorem dx_common (B : Bl mg) (Cc : Cs K mg) (Fx : Fp K mg "common" s_common) : Dx P w K mg base "common" 1 ["rows"] (pureC C_common) := by
  obtain ⟨f, fd, F, gl⟩ := Fx
  refine ⟨f, fd, ?_, gl, F.kp, F.bindsN fun _ _ _ _ _ _ us hl => match us, hl with | [_], _ => rfl⟩
  refine fn_pure F sc_common (fun ds R h => by
    obtain ⟨_, _, rfl, _⟩ := h
    rfl) (fun cdv A outer s H E hr => ⟨_, (pss_cons (ps_asg (pe_tup (pa_cons (pe_ix (kIx K) (pv 0) pe_int (fun _ _ => rfl)) (pa_cons (pe_slice (kSl K) (pv 0) (po_some pe_int) po_none) pa_nil))) (kTup K (n := 2) rfl (pgs_cons (pg_name (i := 1) sc_common.nd rfl (.inr rfl)) (pgs_cons (pg_name (i := 2) sc_common.nd rfl (.inr rfl)) pgs_nil))))
  (pss_one (ps_ret (pe_lc (own := [("at", 3)]) (g := gName 3) rfl sc_common.nd  (kAny K (pe_callB (call_sortedDU rfl) (by rfl) B.sorted (by decide +kernel) (pa_cons (pv 1) pa_nil))) (blkOk_by (by kernel_rfl)) (fun _ _ _ _ _ => (pg_name (i := 3) sc_common.nd rfl (Or.inr rfl))) (fun _ _ _ _ _ => (pts_one (kTru K (pe_callB (kAll K rfl) (by rfl) B.all (by decide +kernel) (pa_cons (pe_lc (own := [("row", 4)]) (g := gName 4) (tt := tYes) rfl sc_common.nd  (kAny K (pv 2)) (blkOk_by (by kernel_rfl)) (fun _ _ _ _ _ => (pg_name (i := 4) sc_common.nd rfl (Or.inl rfl))) (fun _ _ _ _ _ => pts_nil) (fun _ _ _ _ _ => (pe_cmpR (kEq K hr.units) (pe_dget1 (Nat.lt_of_le_of_lt (Nat.add_le_add_left (by decide : 1 ≤ 64) _) hr.units) (pv 4) (pv 3) ⟨by rfl, by rfl, by rfl, by rfl⟩) (pe_dget (Nat.lt_of_le_of_lt (Nat.add_le_add_left (by decide : 1 ≤ 64) _) hr.units) (pv 1) (pv 3) (fun _ _ => rfl)) (nomark _)))) pa_nil))))) (fun _ _ _ _ _ => (pe_tup (pa_cons (pv 3) (pa_cons (pe_dget (Nat.lt_of_le_of_lt (Nat.add_le_add_left (by decide : 1 ≤ 64) _) hr.units) (pv 1) (pv 3) (fun _ _ => rfl)) pa_nil)))))))), ?_⟩)
  rintro ds R ⟨rows, b, rfl, ⟨hne, hl, hrows⟩, q⟩
  dsimp only [cxOf, Cx.nox, Cx.wish, DL.fill, List.map, List.length_cons, List.length_nil, List.length, Nat.reduceAdd, Nat.reduceSub, List.replicate, List.cons_append, List.nil_append]
  obtain ⟨first, rest, rfl⟩ : ∃ f rest, rows = f :: rest := by
    cases rows with
    | nil => exact absurd rfl hne
    | cons f rest => exact ⟨f, rest, rfl⟩
  obtain ⟨hnd, hfl⟩ := hrows first List.mem_cons_self
  refine ss_seq (ss_asg ?_)
  walk_at "ev"
  rw [show (1 : Int) = ((1 : Nat) : Int) from rfl, cut_from, show List.drop 1 (List.map (rowD b) (first :: rest)) = rest.map (rowD b) from rfl]
  refine ⟨_, rfl, gg_tup rfl (gg_cons (g_name ⟨rfl, gg_cons (g_name ⟨rfl, gg_nil ?_⟩)⟩))⟩
  dsimp only [updA, came, lent, List.set, List.getD_cons_zero, List.getD_cons_succ, List.getD, List.getElem?_cons_zero, List.getElem?_cons_succ, Option.getD_some, Option.getD]
  have hkl : (keysN first).length ≤ 1000000 := by
    unfold keysN
    rw [List.length_map]
    omega
  have hsl : (srtN (keysN first)).length ≤ 1000000 := by
    refine Nat.le_trans (nodup_sub (lt_nodup (srtN_sorted _)) fun x hx => srtN_mem.mp hx) hkl
  walk_at "ev"
  refine e_new (en_lc (gw_name (by simp)) (ei_L (e_new (en_cb ?_))))
  walk_at "ev"
  refine rbn_sortD (rowD_at b first _) (kE_keys _) (by rw [List.length_map]; exact hkl) fun ns' hp hs => ?_
  rw [srt_unique hnd hp hs]
  refine ⟨_, rfl, rfl, by rw [List.length_map, List.length_map]; exact hsl, fun i acc S => S = [.dat (.list ((first :: rest).map (rowD b))), .dat (rowD b first), .dat (.list (rest.map (rowD b))), .no, .no] ∧ acc = dPs ((((srtN (keysN first)).take i).filter fun i => rest.all fun row => decide (getN row i = getN first i)).map fun i => (i, (getN first i).getD 0)), ⟨rfl, rfl⟩, ?_, ?_⟩
  · rintro i d acc S hd ⟨rfl, rfl⟩ _
    rw [List.map_map] at hd
    obtain ⟨n, hn, hni, rfl⟩ := place hd
    show GG K (gName 3) (.int (n : Nat)) _ _
    have hin : n ∈ keysN first := srtN_mem.mp hn
    have hsome : getN first n ≠ none := fun z => getN_none.mp z hin
    refine g_name ⟨rfl, ?_⟩
    dsimp only [updA, came, lent, List.set, List.getD_cons_zero, List.getD_cons_succ, List.getD, List.getElem?_cons_zero, List.getElem?_cons_succ, Option.getD_some, Option.getD]
    refine t_tru (ee_cb (ea_cons (e_new (n_mapI (gw_name (by simp)) (ei_L ?_)))))
    walk_at "ev"
    refine ⟨_, rfl, rfl, by rw [List.length_map]; simp at hl; omega, rest.map fun row => PyData.bool (decide (getN row n = getN first n)), by simp, fun j d e hd he => ?_, ?_⟩
    · obtain ⟨row, hrow, _, rfl, rfl⟩ := places hd he
      refine g_name ⟨rfl, ?_⟩
      dsimp only [updA, came, lent, List.set, List.getD_cons_zero, List.getD_cons_succ, List.getD, List.getElem?_cons_zero, List.getElem?_cons_succ, Option.getD_some, Option.getD]
      walk_at "ev"
      refine ee_get1 ?_
      walk_at "ev"
      refine ⟨kE row, rowD_at b row _, ?_⟩
      walk_at "ev"
      refine ⟨Sum.inl (n : Int), rfl, rowD_at b row _, ?_⟩
      rw [get_ch]
      refine ee_dgetK ?_
      walk_at "ev"
      have hg : getE (kE first) (Sum.inl (n : Int)) = some (chO (getN first n)) := by
        rw [getE_kE]
        cases h : getN first n with
        | none => exact absurd h hsome
        | some c => rfl
      refine ⟨Sum.inl (n : Int), kE first, _, rowD_at b first _, rfl, hg, ?_⟩
      refine rr_eqS (sc_ch _ _ hsome) ?_
      rw [eq_ch _ _ hsome]
      exact ⟨rfl, rfl⟩
    walk_at "ev"
    rw [show (rest.map fun row => PyData.bool (decide (getN row n = getN first n))) = (rest.map fun row => decide (getN row n = getN first n)).map PyData.bool from by rw [List.map_map]; rfl]
    refine rb_all ?_
    walk_at "ev"
    rw [List.take_add_one, hni, List.filter_append, List.map_append, List.all_map]
    have e0 : rest.all (id ∘ fun row => decide (getN row n = getN first n)) = rest.all fun row => decide (getN row n = getN first n) := rfl
    rw [e0]
    cases hb : rest.all fun row => decide (getN row n = getN first n) with
    | false =>
      refine if_F rfl ?_
      refine ⟨rfl, ?_⟩
      rw [show List.filter (fun i => rest.all fun row => decide (getN row i = getN first i)) (some n).toList = [] from by
        show List.filter _ [n] = []
        rw [List.filter_cons, hb]
        rfl]
      simp
    | true =>
      refine if_T rfl ?_
      walk_at "ev"
      refine ee_dgetK ?_
      walk_at "ev"
      obtain ⟨c, hc⟩ : ∃ c, getN first n = some c := by
        cases h : getN first n with
        | none => exact absurd h hsome
        | some c => exact ⟨c, rfl⟩
      refine ⟨Sum.inl (n : Int), kE first, .str (mkS [c]), rowD_at b first _, rfl, by rw [getE_kE, hc]; rfl, ?_⟩
      walk_at "ev"
      refine ⟨_, rfl, rfl, ?_⟩
      rw [show List.filter (fun i => rest.all fun row => decide (getN row i = getN first i)) (some n).toList = [n] from by
        show List.filter _ [n] = [n]
        rw [List.filter_cons, hb]
        rfl]
      unfold dPs
      rw [List.map_append]
      show _ = _ ++ [PyData.tuple [.int (n : Nat), .str (mkS [(getN first n).getD 0])]]
      rw [hc]
      rfl
  · rintro acc S ⟨rfl, rfl⟩
    rw [List.length_map, List.length_map, List.take_length]
    walk_at "ev"
    exact q
/-! known_of -/
def C_known_of : Cp := fun ds R => ∃ (r : Rel) (s : List Nat), ds = [dRel r, .str (mkS s)] ∧ (okR r ∧ okT s ∧ s.length ≤ 40) ∧ R (.list (dPs (knoL r s)))
theorem fE_vals (fs : List (Nat × Lts)) : (fE fs).map (·.2) = (fs.map (·.2)).map (rowD true) := by
  unfold fE
  rw [List.map_map, List.map_map]
  rfl
theorem sc_known_of : FnScope ["release", "string"] ["release", "string"] (defScope s_known_of) := ⟨rfl, rfl, rfl, by decide +kernel, rfl, by decide +kernel, by decide +kernel⟩
theorem dx_known_of (B : Bl mg) (Cc : Cs K mg) (d_common : Dx P w K mg base "common" 1 ["rows"] (pureC C_common)) (d_possible : Dx P w K mg base "possible" 5 ["release", "string"] (pureC C_possible)) (Fx : Fp K mg "known_of" s_known_of) : Dx P w K mg base "known_of" 6 ["release", "string"] (pureC C_known_of) := by
  obtain ⟨f_common, fd_common, d_common⟩ := d_common
  obtain ⟨f_possible, fd_possible, d_possible⟩ := d_possible
  obtain ⟨f, fd, F, gl⟩ := Fx
  refine ⟨f, fd, ?_, gl, F.kp, F.bindsN fun _ _ _ _ _ _ us hl => match us, hl with | [_, _], _ => rfl⟩
  refine fn_pure F sc_known_of (fun ds R h => by
    obtain ⟨_, _, rfl, _⟩ := h
    rfl) (fun cdv A outer s H E hr => ⟨_, (pss_one (ps_ret (kCall K d_common hr (by decide) (by rfl) (pa_cons (pe_callTy (call_list_vals rfl) (by rfl) B.list (by decide +kernel) (pa_cons (pe_vals (pe_ix (kIx K) (kCall K d_possible hr (by decide) (by rfl) (pa_cons (pv 0) (pa_cons (pv 1) pa_nil))) pe_int (fun _ _ => rfl))) pa_nil)) pa_nil)))), ?_⟩)
  rintro ds R ⟨r, s, rfl, ⟨hr0, hT, hl⟩, q⟩
  dsimp only [cxOf, Cx.nox, Cx.wish, DL.fill, List.map, List.length_cons, List.length_nil, List.length, Nat.reduceAdd, Nat.reduceSub, List.replicate, List.cons_append, List.nil_append]
  walk_at "ev"
  refine e_callP (ea_cons (e_new (en_listVals ?_)))
  walk_at "ev"
  refine e_callP ?_
  walk_at "ev"
  refine ⟨r, s, rfl, ⟨hr0, hT, hl⟩, ?_⟩
  walk_at "ev"
  refine ⟨fE (fndL r s), .inr rfl, ?_⟩
  rw [fE_vals]
  walk_at "ev"
  have h1 := fnd_len r s
  have h2 := mostN_le hr0 hl
  refine ⟨(fndL r s).map fun (p : Nat × Lts) => p.2, true, rfl, ⟨fun e => fnd_ne hT (List.map_eq_nil_iff.mp e), by rw [List.length_map]; omega, fun es he => ?_⟩, q⟩
  obtain ⟨p, hp, rfl⟩ := List.mem_map.mp he
  have := fnd_rows hr0 hT hl hp
  exact ⟨this.1, this.2.1⟩
/-! known -/
def C_known : Cp := fun ds R => ∃ (r : Rel) (s : List Nat), ds = [dRel r, .str (mkS s)] ∧ (okR r ∧ okT s ∧ s.length ≤ 40) ∧ R (.list (dPs (knoL r s)))
theorem sc_known : FnScope ["release", "string"] ["release", "string"] (defScope s_known) := ⟨rfl, rfl, rfl, by decide +kernel, rfl, by decide +kernel, by decide +kernel⟩
theorem dx_known (B : Bl mg) (Cc : Cs K mg) (d_need_release : Dx P w K mg base "need_release" 5 ["value"] (pureC C_need_release)) (d_need_string : Dx P w K mg base "need_string" 2 ["value"] (pureC C_need_string)) (d_known_of : Dx P w K mg base "known_of" 6 ["release", "string"] (pureC C_known_of)) (Fx : Fp K mg "known" s_known) : Dx P w K mg base "known" 7 ["release", "string"] (pureC C_known) := by
  obtain ⟨f_need_release, fd_need_release, d_need_release⟩ := d_need_release
  obtain ⟨f_need_string, fd_need_string, d_need_string⟩ := d_need_string
  obtain ⟨f_known_of, fd_known_of, d_known_of⟩ := d_known_of
  obtain ⟨f, fd, F, gl⟩ := Fx
  refine ⟨f, fd, ?_, gl, F.kp, F.bindsN fun _ _ _ _ _ _ us hl => match us, hl with | [_, _], _ => rfl⟩
  refine fn_pure F sc_known (fun ds R h => by
    obtain ⟨_, _, rfl, _⟩ := h
    rfl) (fun cdv A outer s H E hr => ⟨_, (pss_cons (ps_expr (kCall K d_need_release hr (by decide) (by rfl) (pa_cons (pv 0) pa_nil)))
  (pss_cons (ps_expr (kCall K d_need_string hr (by decide) (by rfl) (pa_cons (pv 1) pa_nil)))
  (pss_one (ps_ret (kCall K d_known_of hr (by decide) (by rfl) (pa_cons (pv 0) (pa_cons (pv 1) pa_nil))))))), ?_⟩)
  rintro ds R ⟨r, s, rfl, ⟨hr0, hT, hl⟩, q⟩
  dsimp only [cxOf, Cx.nox, Cx.wish, DL.fill, List.map, List.length_cons, List.length_nil, List.length, Nat.reduceAdd, Nat.reduceSub, List.replicate, List.cons_append, List.nil_append]
  walk_at "ev"
  refine e_callP ?_
  walk_at "ev"
  refine ⟨r, rfl, hr0, ?_⟩
  walk_at "ev"
  refine e_callP ?_
  walk_at "ev"
  refine ⟨s, rfl, ⟨hT, hl⟩, ?_⟩
  walk_at "ev"
  refine e_callP ?_
  walk_at "ev"
  exact ⟨r, s, rfl, ⟨hr0, hT, hl⟩, q⟩
/-! known_from_end -/
def C_known_from_end : Cp := fun ds R => ∃ (r : Rel) (s : List Nat), ds = [dRel r, .str (mkS s)] ∧ (okR r ∧ okT s ∧ s.length ≤ 40) ∧ R (.list (dPs (kfeL r s)))
theorem fold_put {es : List (L2.Key × PyData)} : ∀ {acc : List (L2.Key × PyData)}, ((acc ++ es).map (·.1)).Nodup → es.foldl (fun es p => putE es p.1 p.2) acc = acc ++ es := by
  induction es with
  | nil => intro acc _; simp
  | cons p es ih =>
    intro acc h
    rw [List.foldl_cons]
    have h0 : getE acc p.1 = none := by
      unfold getE
      rw [Option.map_eq_none_iff, List.find?_eq_none]
      intro q hq e
      rw [List.map_append, List.nodup_append] at h
      exact h.2.2 q.1 (List.mem_map.mpr ⟨q, hq, rfl⟩) p.1 (List.mem_map.mpr ⟨p, List.mem_cons_self, rfl⟩) (of_decide_eq_true e)
    rw [putE_new' h0, ih (by rw [List.append_assoc]; exact h), List.append_assoc]
    rfl
theorem end_nodup {n : Nat} {es : Lts} (h : (keysN es).Nodup) (hl : ∀ q ∈ es, q.1 < n) : (keysN (endE n es)).Nodup := by
  unfold keysN endE at *
  rw [List.map_map]
  induction es with
  | nil => exact List.nodup_nil
  | cons p es ih =>
    rw [List.map_cons] at h ⊢
    have hd := List.nodup_cons.mp h
    refine List.nodup_cons.mpr ⟨fun hm => ?_, ih hd.2 fun q hq => hl q (List.mem_cons_of_mem _ hq)⟩
    obtain ⟨q, hq, e⟩ := List.mem_map.mp hm
    have h1 := hl q (List.mem_cons_of_mem _ hq)
    have h2 := hl p List.mem_cons_self
    have e : n - 1 - q.1 = n - 1 - p.1 := e
    have e2 : q.1 = p.1 := by omega
    exact hd.1 (List.mem_map.mpr ⟨q, hq, e2⟩)
theorem kE_nodup {es : Lts} (h : (keysN es).Nodup) : ((kE es).map (·.1)).Nodup := by
  rw [kE_keys]
  unfold List.Nodup at *
  rw [List.pairwise_map, List.pairwise_map]
  exact h.imp fun {a b} z e => z (by have := Sum.inl.inj e; omega)
theorem items_fE (fs : List (Nat × Lts)) : (fE fs).map (fun p => PyData.tuple [kD p.1, p.2]) = fs.map fun p => .tuple [.int (p.1 : Nat), lckK (kE p.2)] := by
  unfold fE
  rw [List.map_map]
  rfl
theorem keys_kE (es : Lts) : (kE es).map (fun p => kD p.1) = es.map fun p => .int (p.1 : Nat) := by
  unfold kE
  rw [List.map_map]
  rfl
theorem sc_known_from_end : FnScope ["release", "string", "found", "length", "letters", "at"] ["release", "string"] (defScope s_known_from_end) := ⟨rfl, rfl, rfl, by decide +kernel, rfl, by decide +kernel, by decide +kernel⟩
theorem dx_known_from_end (B : Bl mg) (Cc : Cs K mg) (d_need_release : Dx P w K mg base "need_release" 5 ["value"] (pureC C_need_release)) (d_need_string : Dx P w K mg base "need_string" 2 ["value"] (pureC C_need_string)) (d_possible : Dx P w K mg base "possible" 5 ["release", "string"] (pureC C_possible)) (d_common : Dx P w K mg base "common" 1 ["rows"] (pureC C_common)) (Fx : Fp K mg "known_from_end" s_known_from_end) : Dx P w K mg base "known_from_end" 6 ["release", "string"] (pureC C_known_from_end) := by
  obtain ⟨f_need_release, fd_need_release, d_need_release⟩ := d_need_release
  obtain ⟨f_need_string, fd_need_string, d_need_string⟩ := d_need_string
  obtain ⟨f_possible, fd_possible, d_possible⟩ := d_possible
  obtain ⟨f_common, fd_common, d_common⟩ := d_common
  obtain ⟨f, fd, F, gl⟩ := Fx
  refine ⟨f, fd, ?_, gl, F.kp, F.bindsN fun _ _ _ _ _ _ us hl => match us, hl with | [_, _], _ => rfl⟩
  refine fn_pure F sc_known_from_end (fun ds R h => by
    obtain ⟨_, _, rfl, _⟩ := h
    rfl) (fun cdv A outer s H E hr => ⟨_, (pss_cons (ps_expr (kCall K d_need_release hr (by decide) (by rfl) (pa_cons (pv 0) pa_nil)))
  (pss_cons (ps_expr (kCall K d_need_string hr (by decide) (by rfl) (pa_cons (pv 1) pa_nil)))
  (pss_cons (ps_set (i := 2) sc_known_from_end.nd rfl (.inl rfl) (pe_ix (kIx K) (kCall K d_possible hr (by decide) (by rfl) (pa_cons (pv 0) (pa_cons (pv 1) pa_nil))) pe_int (fun _ _ => rfl)))
  (pss_one (ps_ret (kCall K d_common hr (by decide) (by rfl) (pa_cons (pe_lc (own := [("length", 3), ("letters", 4)]) (g := gTup K 2 (gCons (gName 3) (gCons (gName 4) gNil))) (tt := tYes) rfl sc_known_from_end.nd  (pi_items (pv 2)) (blkOk_by (by kernel_rfl)) (fun _ _ _ _ _ => (kTup K (n := 2) rfl (pgs_cons (pg_name (i := 3) sc_known_from_end.nd rfl (Or.inr rfl)) (pgs_cons (pg_name (i := 4) sc_known_from_end.nd rfl (Or.inr rfl)) pgs_nil)))) (fun _ _ _ _ _ => pts_nil) (fun _ _ _ _ _ => (pe_dc (own := [("at", 5)]) (g := gName 5) (tt := tYes) rfl sc_known_from_end.nd  (pi_keys (pv 4)) (blkOk_by (by kernel_rfl)) (fun _ _ _ _ _ => (pg_name (i := 5) sc_known_from_end.nd rfl (Or.inl rfl))) (fun _ _ _ _ _ => pts_nil) (fun _ _ _ _ _ => (pe_op op_sub (pe_op op_sub (pv 3) pe_int) (pv 5))) (fun _ _ _ _ _ => (pe_dget (Nat.lt_of_le_of_lt (Nat.add_le_add_left (by decide : 1 ≤ 64) _) hr.units) (pv 4) (pv 5) (fun _ _ => rfl)))))) pa_nil))))))), ?_⟩)
  rintro ds R ⟨r, s, rfl, ⟨hr0, hT, hl⟩, q⟩
  dsimp only [cxOf, Cx.nox, Cx.wish, DL.fill, List.map, List.length_cons, List.length_nil, List.length, Nat.reduceAdd, Nat.reduceSub, List.replicate, List.cons_append, List.nil_append]
  walk_at "ev"
  refine e_callP ?_
  walk_at "ev"
  refine ⟨r, rfl, hr0, ?_⟩
  walk_at "ev"
  refine e_callP ?_
  walk_at "ev"
  refine ⟨s, rfl, ⟨hT, hl⟩, ?_⟩
  walk_at "ev"
  refine e_callP ?_
  walk_at "ev"
  refine ⟨r, s, rfl, ⟨hr0, hT, hl⟩, ?_⟩
  walk_at "ev"
  have h1 := fnd_len r s
  have h2 := mostN_le hr0 hl
  dsimp only [updA, came, lent, List.set, List.getD_cons_zero, List.getD_cons_succ, List.getD, List.getElem?_cons_zero, List.getElem?_cons_succ, Option.getD_some, Option.getD]
  refine e_callP (ea_cons (e_new (n_mapI (gw_two (by simp) (by simp)) (ei_items ?_))))
  walk_at "ev"
  refine ⟨fE (fndL r s), rfl, ?_⟩
  rw [items_fE]
  refine ⟨rfl, by rw [List.length_map]; omega, ((fndL r s).map fun p => endE p.1 p.2).map (rowD false), by simp, fun i d e hd he => ?_, ?_⟩
  · rw [List.map_map] at he
    obtain ⟨⟨n, es⟩, hp, _, rfl, rfl⟩ := places hd he
    obtain ⟨g1, g2, g3, g4⟩ := fnd_rows hr0 hT hl hp
    refine gg_tup rfl (gg_cons (g_name ⟨rfl, gg_cons (g_name ⟨rfl, gg_nil ?_⟩)⟩))
    dsimp only [updA, came, lent, List.set, List.getD_cons_zero, List.getD_cons_succ, List.getD, List.getElem?_cons_zero, List.getElem?_cons_succ, Option.getD_some, Option.getD]
    refine e_new (n_dmap (gw_name (by simp)) (ei_keys ?_))
    walk_at "ev"
    refine ⟨kE es, rfl, ?_⟩
    rw [keys_kE]
    refine ⟨rfl, by rw [List.length_map]; have g2 : es.length ≤ 1000 := g2; omega, kE (endE n es), by unfold kE endE; simp, fun j d p hd hp2 => ?_, ?_⟩
    · unfold kE endE at hp2
      rw [List.map_map] at hp2
      obtain ⟨⟨k, c⟩, hk, _, rfl, rfl⟩ := places hd hp2
      have hlt := g4 _ hk
      refine g_name ⟨rfl, ?_⟩
      dsimp only [updA, came, lent, List.set, List.getD_cons_zero, List.getD_cons_succ, List.getD, List.getElem?_cons_zero, List.getElem?_cons_succ, Option.getD_some, Option.getD]
      walk_at "ev"
      refine ⟨?_, ee_dgetK ?_⟩
      · show Vx.dat (.int _) = Vx.dat (.int _)
        congr 2
        have hlt : k < n := hlt
        show (n : Int) - 1 - (k : Int) = ((n - 1 - k : Nat) : Int)
        omega
      walk_at "ev"
      exact ⟨Sum.inl (k : Int), kE es, .str (mkS [c]), .inr rfl, rfl, by rw [getE_kE, getN_of g1 hk]; rfl, rfl, rfl⟩
    · rw [fold_put (acc := []) (by rw [List.nil_append]; exact kE_nodup (end_nodup g1 g4)), List.nil_append]
      walk_at "ev"
      exact ⟨rfl, rfl⟩
  walk_at "ev"
  refine ⟨(fndL r s).map fun (p : Nat × Lts) => endE p.1 p.2, false, rfl, ⟨fun e => fnd_ne hT (List.map_eq_nil_iff.mp e), by rw [List.length_map]; omega, fun es he => ?_⟩, q⟩
  obtain ⟨p, hp, rfl⟩ := List.mem_map.mp he
  obtain ⟨g1, g2, g3, g4⟩ := fnd_rows hr0 hT hl hp
  exact ⟨end_nodup g1 g4, by unfold endE; rw [List.length_map]; exact g2⟩
/-! first_difference -/
def C_first_difference : Cp := fun ds R => ∃ (f g : Mask), ds = [dMask f, dMask g] ∧ (okM 4 5 f ∧ okM 4 5 g) ∧ R (fdD f g (firstD f g (bnd [f, g] + 1)))
theorem sc_first_difference : FnScope ["mask", "other", "length", "one", "two"] ["mask", "other"] (defScope s_first_difference) := ⟨rfl, rfl, rfl, by decide +kernel, rfl, by decide +kernel, by decide +kernel⟩
theorem dx_first_difference (B : Bl mg) (Cc : Cs K mg) (d_bound : Dx P w K mg base "bound" 1 ["masks"] (pureC C_bound)) (d_template_of : Dx P w K mg base "template_of" 3 ["mask", "length"] (pureC C_template_of)) (Fx : Fp K mg "first_difference" s_first_difference) : Dx P w K mg base "first_difference" 4 ["mask", "other"] (pureC C_first_difference) := by
  obtain ⟨f_bound, fd_bound, d_bound⟩ := d_bound
  obtain ⟨f_template_of, fd_template_of, d_template_of⟩ := d_template_of
  obtain ⟨f, fd, F, gl⟩ := Fx
  refine ⟨f, fd, ?_, gl, F.kp, F.bindsN fun _ _ _ _ _ _ us hl => match us, hl with | [_, _], _ => rfl⟩
  refine fn_pure F sc_first_difference (fun ds R h => by
    obtain ⟨_, _, rfl, _⟩ := h
    rfl) (fun cdv A outer s H E hr => ⟨_, (pss_cons (ps_for PassesOwn.never rfl (pi_range1 (by rfl) B.range (pa_cons (pe_op (kAdd K) (kCall K d_bound hr (by decide) (by rfl) (pa_cons (pe_lst (pa_cons (pv 0) (pa_cons (pv 1) pa_nil))) pa_nil)) pe_int) pa_nil)) (pg_name (i := 2) sc_first_difference.nd rfl (.inl rfl))
  (pss_cons (ps_par (i := 3) (j := 4) rfl sc_first_difference.nd rfl rfl (by decide) rfl rfl (pa_cons (kCall K d_template_of hr (by decide) (by rfl) (pa_cons (pv 0) (pa_cons (pv 2) pa_nil))) (pa_cons (kCall K d_template_of hr (by decide) (by rfl) (pa_cons (pv 1) (pa_cons (pv 2) pa_nil))) pa_nil)) (by rfl))
  (pss_one (ps_if (pt_cmpR (kNotEq K hr.units) (pv 3) (pv 4) (nomark _))
  (pss_one (ps_ret (pe_tup (pa_cons (pv 2) (pa_cons (pv 3) (pa_cons (pv 4) pa_nil))))))
  pss_nil))))
  (pss_one (ps_ret pe_non))), ?_⟩)
  rintro ds R ⟨f, g, rfl, ⟨hf, hg⟩, q⟩
  dsimp only [cxOf, Cx.nox, Cx.wish, DL.fill, List.map, List.length_cons, List.length_nil, List.length, Nat.reduceAdd, Nat.reduceSub, List.replicate, List.cons_append, List.nil_append]
  have hb : bnd [f, g] ≤ 42 := by
    rw [bnd_two]
    have := sumM_le hf
    have := sumM_le hg
    omega
  refine ss_seq (ss_for (ei_range1 ?_))
  walk_at "ev"
  refine e_callP ?_
  walk_at "ev"
  refine ⟨[f, g], _, rfl, ⟨rfl, by simp, by simp; have := hf.1; have := hg.1; omega⟩, ?_⟩
  walk_at "ev"
  refine ⟨_, rfl, by omega, by omega, fun i S => (∃ x y z, S = [.dat (dMask f), .dat (dMask g), x, y, z]) ∧ ∀ n, n < i → templ f n = templ g n, ⟨⟨_, _, _, rfl⟩, fun n hn => absurd hn (Nat.not_lt_zero _)⟩, ?_, ?_⟩
  · rintro i d S hd ⟨⟨x, y, z, rfl⟩, hI⟩
    rw [List.getElem?_map] at hd
    obtain ⟨hi, rfl⟩ : i < ((bnd [f, g] : Nat) + 1 : Int).toNat ∧ d = .int (i : Nat) := by
      cases h : (List.range ((bnd [f, g] : Nat) + 1 : Int).toNat)[i]? with
      | none => rw [h] at hd; cases hd
      | some s =>
        rw [h] at hd
        obtain ⟨h1, h2⟩ := List.getElem?_eq_some_iff.mp h
        rw [List.getElem_range] at h2
        subst h2
        exact ⟨by simpa using h1, (Option.some.inj hd).symm⟩
    refine g_name ⟨rfl, ?_⟩
    walk_at "ev"
    refine e_callP ?_
    walk_at "ev"
    refine ⟨f, i, rfl, ⟨hf, by omega⟩, ?_⟩
    walk_at "ev"
    refine e_callP ?_
    walk_at "ev"
    refine ⟨g, i, rfl, ⟨hg, by omega⟩, ?_⟩
    walk_at "ev"
    refine ⟨_, _, rfl, rfl, rfl, ?_⟩
    walk_at "ev"
    refine rr_neD (dRow_okD _) (dRow_okD _) ?_
    rw [eqv_row]
    by_cases c : templ f i = templ g i
    · refine if_F (by simp [c]) ?_
      walk_at "ev"
      exact ⟨⟨_, _, _, rfl⟩, fun n hn => by
        rcases Nat.lt_succ_iff_lt_or_eq.mp hn with h | h
        · exact hI n h
        · rw [h]; exact c⟩
    · refine if_T (by simp [c]) ?_
      walk_at "ev"
      have e : firstD f g (bnd [f, g] + 1) = some i := firstD_at (by omega) c hI
      rw [e] at q
      exact q
  · rintro S ⟨⟨x, y, z, rfl⟩, hI⟩
    walk_at "ev"
    have e : firstD f g (bnd [f, g] + 1) = none := firstD_none.mpr fun n hn => hI n (by rw [List.length_map, List.length_range]; omega)
    rw [e] at q
    exact q
/-! showing -/
def C_showing : Cp := fun ds R => ∃ (n : Nat) (a b : List (Option Nat)), ds = [.int n, .tuple (dRow a), .tuple (dRow b)] ∧ (n ≤ 1000 ∧ ∀ i, some i ∈ a → i < n) ∧ R (.str (mkS (showL n a b)))
def chD (l : List Nat) : List PyData := (l.map fun c => mkS [c]).map PyData.str
theorem ch_a (n : Nat) : (List.replicate ((n : Int)).toNat [PyData.str (Str.ofString "a")]).flatten = chD (List.replicate n 97) := by
  rw [Int.toNat_natCast, show Str.ofString "a" = mkS [97] from by decide +kernel]
  unfold chD
  rw [List.map_replicate, List.map_replicate]
  induction n with
  | zero => rfl
  | succ n ih => rw [List.replicate_succ, List.flatten_cons, ih, List.replicate_succ]; rfl
theorem ch_set (l : List Nat) (i : Nat) : (chD l).set i (PyData.str (Str.ofString "b")) = chD (l.set i 98) := by
  rw [show Str.ofString "b" = mkS [98] from by decide +kernel]
  unfold chD
  rw [List.map_set, List.map_set]
theorem ixN_nat {n i : Nat} (h : i < n) : L2.ixN n (i : Int) = some i := by
  unfold L2.ixN
  rw [if_pos (by omega), if_pos (by omega), Int.toNat_natCast]
theorem badI_none {a b : List (Option Nat)} (x y : Option Nat) (h : x = none ∨ y = none ∨ x = y) : badI (x :: a) (y :: b) = badI a b := by
  cases x with
  | none => cases y <;> rfl
  | some i =>
    cases y with
    | none => rfl
    | some j =>
      rcases h with h | h | h
      · cases h
      · cases h
      · cases h
        rw [badI, if_neg (by simp)]
theorem sc_showing : FnScope ["length", "one", "two", "string", "first", "second"] ["length", "one", "two"] (defScope s_showing) := ⟨rfl, rfl, rfl, by decide +kernel, rfl, by decide +kernel, by decide +kernel⟩
theorem dx_showing (B : Bl mg) (Cc : Cs K mg) (Fx : Fp K mg "showing" s_showing) : Dx P w K mg base "showing" 1 ["length", "one", "two"] (pureC C_showing) := by
  obtain ⟨f, fd, F, gl⟩ := Fx
  refine ⟨f, fd, ?_, gl, F.kp, F.bindsN fun _ _ _ _ _ _ us hl => match us, hl with | [_, _, _], _ => rfl⟩
  refine fn_pure F sc_showing (fun ds R h => by
    obtain ⟨_, _, _, rfl, _⟩ := h
    rfl) (fun cdv A outer s H E hr => ⟨_, (pss_cons (ps_set (i := 3) sc_showing.nd rfl (.inl rfl) (pe_op (kMul K) (pe_lst (pa_cons pe_str pa_nil)) (pv 0)))
  (pss_cons (ps_if (pt_cmpR (kEq K hr.units) (pe_callB (kLen K) (by rfl) B.len PySem.boot_len (pa_cons (pv 1) pa_nil)) (pe_callB (kLen K) (by rfl) B.len PySem.boot_len (pa_cons (pv 2) pa_nil)) (nomark _))
  (pss_one (ps_for PassesOwn.never rfl (kZip K (by rfl) B.zip (pa_cons (pv 1) (pa_cons (pv 2) pa_nil))) (kTup K (n := 2) rfl (pgs_cons (pg_name (i := 4) sc_showing.nd rfl (.inl rfl)) (pgs_cons (pg_name (i := 5) sc_showing.nd rfl (.inl rfl)) pgs_nil)))
  (pss_one (ps_if (PW.pt (pw_and (pt_cmpR uIsNot (pv 4) pe_non (nomark _)) (pw_and (pt_cmpR uIsNot (pv 5) pe_non (nomark _)) (pw_and1 (pt_cmpR (kNotEq K hr.units) (pv 4) (pv 5) (nomark _))))))
  (pss_cons (ps_asg pe_str (pg_sub (pv 3) (pv 4) set_list))
  (pss_one (ps_ret (kJoin K pe_str (pv 3)))))
  pss_nil))))
  pss_nil)
  (pss_one (ps_ret (kJoin K pe_str (pv 3)))))), ?_⟩)
  rintro ds R ⟨n, a, b, rfl, ⟨hn, ha⟩, q⟩
  dsimp only [cxOf, Cx.nox, Cx.wish, DL.fill, List.map, List.length_cons, List.length_nil, List.length, Nat.reduceAdd, Nat.reduceSub, List.replicate, List.cons_append, List.nil_append]
  refine ss_seq (s_own (en_op ?_))
  walk_at "ev"
  refine rn_rep (xs := [PyData.str (Str.ofString "a")]) rfl (by omega) (by omega) (by simp; omega) ⟨rfl, fun p => ?_⟩
  rw [ch_a]
  have fin : ∀ (l : List Nat) (x y : Sl) (P : Po), l.length = n → P.rt (.str (mkS l)) [.dat (.int n), .dat (.tuple (dRow a)), .dat (.tuple (dRow b)), .own true p (.lst (chD l)), x, y] →
      SS K (tRet (tM1 (rJoin K) (tC (V.str (Str.ofString ""))) (tVar 3))) [.dat (.int n), .dat (.tuple (dRow a)), .dat (.tuple (dRow b)), .own true p (.lst (chD l)), x, y] P := by
    intro l x y P hl hq
    refine s_ret (ee_join ?_)
    walk_at "ev"
    refine ⟨_, rfl, ?_⟩
    walk_at "ev"
    refine ⟨l.map fun c => mkS [c], rfl, ?_, ?_⟩
    · rw [sum_ones, List.length_map, hl]
      show _ + _ * 0 ≤ _
      omega
    · walk_at "ev"
      rw [MK.join_ones]
      exact hq
  walk_at "ev"
  refine if_eqI ?_ ?_
  · intro hc
    have hab : a.length = b.length := by rw [dRow_len, dRow_len] at hc; omega
    refine ss_for (ei_zipT ?_)
    walk_at "ev"
    refine ⟨_, _, rfl, fun i S => ∃ x y, S = [.dat (.int n), .dat (.tuple (dRow a)), .dat (.tuple (dRow b)), .own true p (.lst (chD (List.replicate n 97))), x, y] ∧ badI a b = badI (a.drop i) (b.drop i), ⟨_, _, rfl, by simp⟩, ?_, ?_⟩
    · rintro i d S hd ⟨x, y, rfl, hI⟩
      obtain ⟨u, v, hu, hv, rfl⟩ : ∃ u v, a[i]? = some u ∧ b[i]? = some v ∧ d = .tuple [dCell u, dCell v] := by
        unfold zipD dRow at hd
        rw [List.getElem?_zipWith, List.getElem?_map, List.getElem?_map] at hd
        cases h1 : a[i]? with
        | none => rw [h1] at hd; cases hd
        | some u =>
          cases h2 : b[i]? with
          | none => rw [h1, h2] at hd; cases hd
          | some v => rw [h1, h2] at hd; exact ⟨u, v, rfl, rfl, (Option.some.inj hd).symm⟩
      have ea : a.drop i = u :: a.drop (i + 1) := by
        obtain ⟨h1, h2⟩ := List.getElem?_eq_some_iff.mp hu
        rw [List.drop_eq_getElem_cons h1, h2]
      have eb : b.drop i = v :: b.drop (i + 1) := by
        obtain ⟨h1, h2⟩ := List.getElem?_eq_some_iff.mp hv
        rw [List.drop_eq_getElem_cons h1, h2]
      rw [ea, eb] at hI
      refine g_two ⟨rfl, rfl, ?_⟩
      walk_at "ev"
      cases u with
      | none =>
        refine if_F rfl ?_
        walk_at "ev"
        exact ⟨_, _, rfl, by rw [hI]; exact badI_none _ _ (.inl rfl)⟩
      | some j =>
        refine if_T rfl ?_
        walk_at "ev"
        cases v with
        | none =>
          refine if_F rfl ?_
          walk_at "ev"
          exact ⟨_, _, rfl, by rw [hI]; exact badI_none _ _ (.inr (.inl rfl))⟩
        | some k =>
          refine if_T rfl ?_
          unfold dCell
          walk_at "ev"
          refine if_neI ?_ ?_
          · intro hne
            have hj : j < n := ha j (List.mem_of_getElem? hu)
            refine ss_seq (ss_item ?_)
            walk_at "ev"
            refine ⟨_, rfl, true, p, _, rfl, ?_⟩
            walk_at "ev"
            refine ⟨j, j, true, p, _, rfl, rfl, ixN_nat (by unfold chD; rw [List.length_map, List.length_map, List.length_replicate]; exact hj), ?_⟩
            dsimp only
            rw [ch_set]
            refine fin _ _ _ _ (by simp) ?_
            have e : showL n a b = (List.replicate n 97).set j 98 := by
              unfold showL
              rw [if_pos hab, hI, badI, if_pos (by omega)]
            rw [e] at q
            exact q
          · intro he
            walk_at "ev"
            exact ⟨_, _, rfl, by rw [hI]; exact badI_none _ _ (.inr (.inr (by rw [show j = k by omega])))⟩
    · rintro S ⟨x, y, rfl, hI⟩
      refine fin _ _ _ _ (by simp) ?_
      have e : showL n a b = List.replicate n 97 := by
        unfold showL
        rw [if_pos hab, hI, List.drop_eq_nil_of_le (by unfold zipD; rw [List.length_zipWith, dRow_len, dRow_len]; omega), List.drop_eq_nil_of_le (by unfold zipD; rw [List.length_zipWith, dRow_len, dRow_len]; omega)]
        rfl
      rw [e] at q
      exact q
  · intro hc
    have hab : ¬ a.length = b.length := by rw [dRow_len, dRow_len] at hc; omega
    refine ss_next ?_
    refine fin _ _ _ _ (by simp) ?_
    have e : showL n a b = List.replicate n 97 := by
      unfold showL
      rw [if_neg hab]
    rw [e] at q
    exact q
/-! difference -/
def C_difference : Cp := fun ds R => ∃ (f g : Mask), ds = [dMask f, dMask g] ∧ (okM 4 5 f ∧ okM 4 5 g) ∧ R (dOpt (diffL f g))
theorem sc_difference : FnScope ["mask", "other", "found"] ["mask", "other"] (defScope s_difference) := ⟨rfl, rfl, rfl, by decide +kernel, rfl, by decide +kernel, by decide +kernel⟩
theorem dx_difference (B : Bl mg) (Cc : Cs K mg) (d_need_mask : Dx P w K mg base "need_mask" 4 ["value"] (pureC C_need_mask)) (d_first_difference : Dx P w K mg base "first_difference" 4 ["mask", "other"] (pureC C_first_difference)) (d_showing : Dx P w K mg base "showing" 1 ["length", "one", "two"] (pureC C_showing)) (Fx : Fp K mg "difference" s_difference) : Dx P w K mg base "difference" 5 ["mask", "other"] (pureC C_difference) := by
  obtain ⟨f_need_mask, fd_need_mask, d_need_mask⟩ := d_need_mask
  obtain ⟨f_first_difference, fd_first_difference, d_first_difference⟩ := d_first_difference
  obtain ⟨f_showing, fd_showing, d_showing⟩ := d_showing
  obtain ⟨f, fd, F, gl⟩ := Fx
  refine ⟨f, fd, ?_, gl, F.kp, F.bindsN fun _ _ _ _ _ _ us hl => match us, hl with | [_, _], _ => rfl⟩
  refine fn_pure F sc_difference (fun ds R h => by
    obtain ⟨_, _, rfl, _⟩ := h
    rfl) (fun cdv A outer s H E hr => ⟨_, (pss_cons (ps_expr (kCall K d_need_mask hr (by decide) (by rfl) (pa_cons (pv 0) pa_nil)))
  (pss_cons (ps_expr (kCall K d_need_mask hr (by decide) (by rfl) (pa_cons (pv 1) pa_nil)))
  (pss_cons (ps_set (i := 2) sc_difference.nd rfl (.inl rfl) (kCall K d_first_difference hr (by decide) (by rfl) (pa_cons (pv 0) (pa_cons (pv 1) pa_nil))))
  (pss_one (ps_ret (pe_ifExp (pt_cmpR uIs (pv 2) pe_non (nomark _)) pe_non (kCall K d_showing hr (by decide) (by rfl) (pa_cons (pe_ix (kIx K) (pv 2) pe_int (fun _ _ => rfl)) (pa_cons (pe_ix (kIx K) (pv 2) pe_int (fun _ _ => rfl)) (pa_cons (pe_ix (kIx K) (pv 2) pe_int (fun _ _ => rfl)) pa_nil)))))))))), ?_⟩)
  rintro ds R ⟨f, g, rfl, ⟨hf, hg⟩, q⟩
  dsimp only [cxOf, Cx.nox, Cx.wish, DL.fill, List.map, List.length_cons, List.length_nil, List.length, Nat.reduceAdd, Nat.reduceSub, List.replicate, List.cons_append, List.nil_append]
  walk_at "ev"
  refine e_callP ?_
  walk_at "ev"
  refine ⟨f, rfl, hf, ?_⟩
  walk_at "ev"
  refine e_callP ?_
  walk_at "ev"
  refine ⟨g, rfl, hg, ?_⟩
  walk_at "ev"
  refine e_callP ?_
  walk_at "ev"
  refine ⟨f, g, rfl, ⟨hf, hg⟩, ?_⟩
  walk_at "ev"
  cases h : firstD f g (bnd [f, g] + 1) with
  | none =>
    refine if_T rfl ?_
    walk_at "ev"
    unfold diffL at q
    rw [h] at q
    exact q
  | some n =>
    refine if_F rfl ?_
    obtain ⟨hn, _, _⟩ := firstD_some h
    have hb : bnd [f, g] ≤ 42 := by
      rw [bnd_two]
      have := sumM_le hf
      have := sumM_le hg
      omega
    walk_at "ev"
    refine e_callP ?_
    unfold fdD
    walk_at "ev"
    refine ⟨n, _, _, rfl, ⟨by omega, fun i hi => templ_lt hi⟩, ?_⟩
    walk_at "ev"
    unfold diffL at q
    rw [h] at q
    exact q
/-! law_draw -/
/-- a town: the position, what is left -/
abbrev dTown (t u : Int) : Own := .lst [.int t, .int u]
def okTown (t u : Int) : Prop := 0 ≤ t ∧ 0 ≤ u
def C_draw : Ct := fun as R => ∃ (a b : Addr) (ns : List Int) (t u n : Int), as = [.own false a (.scr ns), .own false b (dTown t u), .dat (.int n)] ∧ (ns.length ≤ 63 ∧ okTown t u ∧ 0 < n ∧ n ≤ 1000) ∧
  ∀ (d t' u' : Int), 0 ≤ d → d < n → okTown t' u' → R (.int d) [.own false a (.scr ns), .own false b (dTown t' u'), .dat (.int n)]
theorem scr_shaped (ns : List Int) : SeqAt.shaped (.list (ns.map PyData.int)) = true := okD_s (okD_of (n := 1) (okN_lst fun d hd => by
  obtain ⟨i, _, rfl⟩ := List.mem_map.mp hd
  rfl) (by decide))
theorem scr_at {ns : List Int} {i : Int} (h0 : 0 ≤ i) (h1 : i < ns.length) : ∃ x, atI ns i = some x := by
  obtain ⟨j, rfl⟩ : ∃ j : Nat, i = (j : Int) := ⟨i.toNat, by omega⟩
  exact ⟨ns[j]'(by omega), atI_nat (List.getElem?_eq_getElem (by omega))⟩
theorem sc_law_draw : FnScope ["script", "town", "many", "one", "at", "mixed"] ["script", "town", "many"] (defScope s_law_draw) := ⟨rfl, rfl, rfl, by decide +kernel, rfl, by decide +kernel, by decide +kernel⟩
theorem dx_law_draw (B : Bl mg) (Cc : Cs K mg) (Fx : Fp K mg "_law_draw" s_law_draw) : Dx P w K mg base "_law_draw" 1 ["script", "town", "many"] C_draw := by
  obtain ⟨f, fd, F, gl⟩ := Fx
  refine ⟨f, fd, ?_, gl, F.kp, F.bindsN fun _ _ _ _ _ _ us hl => match us, hl with | [_, _, _], _ => rfl⟩
  refine fn_by F sc_law_draw (fun ds R h => by
    obtain ⟨_, _, _, _, _, _, rfl, _⟩ := h
    rfl) (fun cdv A outer s H E hr => ⟨_, (pss_cons (ps_if (pt_cmpR op_gt (pe_ix (kIx K) (pv 1) pe_int (fun _ _ => rfl)) pe_int (nomark _))
  (pss_cons (ps_set (i := 3) sc_law_draw.nd rfl (.inl rfl) (pe_op op_mod (pe_ix (kIx K) (pv 1) pe_int (fun _ _ => rfl)) (pv 2)))
  (pss_cons (ps_asg (pe_op op_fdiv (pe_ix (kIx K) (pv 1) pe_int (fun _ _ => rfl)) (pv 2)) (pg_sub (pv 1) pe_int set_list))
  (pss_one (ps_ret (pv 3)))))
  pss_nil)
  (pss_cons (ps_set (i := 4) sc_law_draw.nd rfl (.inl rfl) (pe_ix (kIx K) (pv 1) pe_int (fun _ _ => rfl)))
  (pss_cons (ps_augS (pv 1) pe_int (kGet K) pe_int ip_add set_list)
  (pss_cons (ps_if (pt_cmpR (kEq K hr.units) (pv 0) (pe_lst pa_nil) (nomark _))
  (pss_one (ps_ret (pe_op op_mod (pv 4) (pv 2))))
  pss_nil)
  (pss_cons (ps_if (PW.pt (pw_and (pt_cmpR op_lt (pv 4) (pe_callB (kLen K) (by rfl) B.len PySem.boot_len (pa_cons (pv 0) pa_nil)) (nomark _)) (pw_and1 (pt_cmpR op_ge (pe_ix (kIx K) (pv 0) (pv 4) (fun _ _ => rfl)) (pe_op op_pow pe_int pe_int) (nomark _)))))
  (pss_cons (ps_asg (pe_op op_mod (pe_op op_fdiv (pe_ix (kIx K) (pv 0) (pv 4) (fun _ _ => rfl)) (pv 2)) (pe_op (kMul K) (pe_op op_pow pe_int pe_int) (pe_op op_pow pe_int pe_int))) (pg_sub (pv 1) pe_int set_list))
  (pss_one (ps_ret (pe_op op_mod (pe_ix (kIx K) (pv 0) (pv 4) (fun _ _ => rfl)) (pv 2)))))
  pss_nil)
  (pss_cons (ps_set (i := 5) sc_law_draw.nd rfl (.inl rfl) (pe_op op_mod (pe_op (kAdd K) (pe_op (kAdd K) (pe_op (kMul K) (pe_ix (kIx K) (pv 0) (pe_op op_mod (pv 4) (pe_callB (kLen K) (by rfl) B.len PySem.boot_len (pa_cons (pv 0) pa_nil))) (fun _ _ => rfl)) pe_int) (pe_op (kMul K) pe_int (pv 4))) pe_int) pe_int))
  (pss_one (ps_ret (pe_op op_mod (pe_op op_mod (pe_op op_mod (pe_op op_pow (pv 5) pe_int) pe_int) pe_int) (pv 2)))))))))), ?_⟩)
  rintro as R ⟨a, b, ns, t, u, n, rfl, ⟨hl, ⟨ht, hu⟩, hn, hn2⟩, q⟩
  dsimp only [cxOf, Cx.nox, Cx.wish, DL.fill, List.map, List.length_cons, List.length_nil, List.length, Nat.reduceAdd, Nat.reduceSub, List.replicate, List.cons_append, List.nil_append]
  walk_at "ev"
  refine if_D (fun h => ?_) (fun h => ?_)
  · walk_at "ev"
    refine ss_item ?_
    walk_at "ev"
    refine ⟨_, rfl, _, _, _, rfl, ?_⟩
    walk_at "ev"
    refine ⟨1, 1, _, _, _, rfl, rfl, rfl, ?_⟩
    walk_at "ev"
    exact ⟨_, .own (.own (.dat .nil)), q _ _ _ (Int.emod_nonneg _ (by omega)) (Int.emod_lt_of_pos _ hn) ⟨ht, Int.ediv_nonneg hu (by omega)⟩⟩
  · walk_at "ev"
    refine ss_itemAug rfl ?_
    walk_at "ev"
    refine ⟨0, 0, _, _, _, _, rfl, rfl, rfl, rfl, ?_⟩
    walk_at "ev"
    refine ⟨_, rfl, rfl, ?_⟩
    walk_at "ev"
    refine rr_eqScr rfl (scr_shaped ns) ?_
    walk_at "ev"
    refine if_D (fun h1 => ?_) (fun h1 => ?_)
    · walk_at "ev"
      exact ⟨_, .own (.own (.dat .nil)), q _ _ _ (Int.emod_nonneg _ (by omega)) (Int.emod_lt_of_pos _ hn) ⟨by omega, hu⟩⟩
    · have hpos : 0 < ns.length := List.length_pos_iff.mpr h1
      have rest : ∀ (P' : Po) (S' : List Sl), S' = [.own false a (.scr ns), .own false b (dTown (t + 1) u), .dat (.int n), .no, .dat (.int t), .no] → P'.rt = (fun d S' => ∃ as', FinOk [.own false a (.scr ns), .own false b (dTown t u), .dat (.int n)] S' as' ∧ R d as') →
        SS K (tSeq (tAsg (tOp (rI (fun x j => 0 < j) fun i j => V.int (i % j)) (tOp (uAddR K) (tOp (uAddR K) (tOp (uMulR K) (tOp (rIx K) (tVar 0) (tOp (rI (fun x j => 0 < j) fun i j => V.int (i % j)) (tVar 4) (tCB (uLenR K) (tCons (tVar 0) tNil)))) (tC (V.int 1103515245))) (tOp (uMulR K) (tC (V.int 7919)) (tVar 4))) (tC (V.int 12345))) (tC (V.int 2147483647))) (gName 5))
          (tRet (tOp (rI (fun x j => 0 < j) fun i j => V.int (i % j)) (tOp (rI (fun x j => 0 < j) fun i j => V.int (i % j)) (tOp (rI (fun x j => 0 < j) fun i j => V.int (i % j)) (tOp (rI CPow fun i j => V.int (i ^ j.toNat)) (tVar 5) (tC (V.int 5))) (tC (V.int 2147483647))) (tC (V.int 999983))) (tVar 2)))) S' P' := fun P' S' hS hP => by
        subst hS
        walk_at "ev"
        refine rb_lenScr rfl ?_
        walk_at "ev"
        obtain ⟨x, hx⟩ := scr_at (ns := ns) (i := t % (ns.length : Int)) (Int.emod_nonneg _ (by omega)) (Int.emod_lt_of_pos _ (by omega))
        refine rr_ixScr rfl hx ?_
        walk_at "ev"
        refine rr_mulI (.inr ⟨by decide, by decide⟩) ?_
        walk_at "ev"
        refine rr_mulI (.inl ⟨by decide, by decide⟩) ?_
        walk_at "ev"
        have m0 := Int.emod_nonneg (x * 1103515245 + 7919 * t + 12345) (show (2147483647 : Int) ≠ 0 by decide)
        have m1 := Int.emod_lt_of_pos (x * 1103515245 + 7919 * t + 12345) (show (0 : Int) < 2147483647 by decide)
        refine rr_pow ⟨by decide, by decide, ?_⟩ ?_
        · show _ < 18446744073709551616
          omega
        walk_at "ev"
        rw [hP]
        exact ⟨_, .own (.own (.dat .nil)), q _ _ _ (Int.emod_nonneg _ (by omega)) (Int.emod_lt_of_pos _ hn) ⟨by omega, hu⟩⟩
      walk_at "ev"
      refine rb_lenScr rfl ?_
      walk_at "ev"
      refine if_D (fun h2 => ?_) (fun h2 => ?_)
      · walk_at "ev"
        obtain ⟨x, hx⟩ := scr_at (ns := ns) ht h2
        refine rr_ixScr rfl hx ?_
        walk_at "ev"
        refine rr_pow ⟨by decide, by decide, by decide⟩ ?_
        walk_at "ev"
        refine if_D (fun h3 => ?_) (fun h3 => ?_)
        · refine ss_seq (ss_item ?_)
          walk_at "ev"
          refine rr_ixScr rfl hx ?_
          walk_at "ev"
          refine rr_pow ⟨by decide, by decide, by decide⟩ ?_
          walk_at "ev"
          refine rr_pow ⟨by decide, by decide, by decide⟩ ?_
          refine rr_mulW (by unfold CMulW; decide +kernel) ?_
          refine rr_mod (by decide +kernel) ?_
          refine ⟨_, rfl, _, _, _, rfl, ?_⟩
          walk_at "ev"
          refine ⟨1, 1, _, _, _, rfl, rfl, rfl, ?_⟩
          walk_at "ev"
          refine rr_ixScr rfl hx ?_
          walk_at "ev"
          exact ⟨_, .own (.own (.dat .nil)), q _ _ _ (Int.emod_nonneg _ (by omega)) (Int.emod_lt_of_pos _ hn) ⟨by omega, Int.emod_nonneg _ (by decide +kernel)⟩⟩
        · refine ss_next ?_
          show SS K _ _ _
          exact rest _ _ rfl rfl
      · refine iteF ?_
        refine ss_next ?_
        show SS K _ _ _
        exact rest _ _ rfl rfl
/-! law_pick -/
/-- what may be picked from: a list, a text -/
def pickD : PyData → Option (List PyData)
  | .list xs => some xs
  | .tuple xs => some xs
  | .str z => some (DL.signs z)
  | _ => none
def C_pick : Ct := fun as R => ∃ (a b : Addr) (ns : List Int) (t u : Int) (d : PyData), as = [.own false a (.scr ns), .own false b (dTown t u), .dat d] ∧ (ns.length ≤ 63 ∧ okTown t u ∧ ∃ xs, pickD d = some xs ∧ 0 < xs.length ∧ xs.length ≤ 1000 ∧
  ∀ x t' u', x ∈ xs → okTown t' u' → R x [.own false a (.scr ns), .own false b (dTown t' u'), .dat d])
theorem pick_at {xs : List PyData} {e : Int} (h0 : 0 ≤ e) (h1 : e < xs.length) : ∃ x, atI xs e = some x ∧ x ∈ xs := by
  obtain ⟨j, rfl⟩ : ∃ j : Nat, e = (j : Int) := ⟨e.toNat, by omega⟩
  exact ⟨xs[j]'(by omega), atI_nat (List.getElem?_eq_getElem (by omega)), List.getElem_mem _⟩
theorem sc_law_pick : FnScope ["script", "town", "some"] ["script", "town", "some"] (defScope s_law_pick) := ⟨rfl, rfl, rfl, by decide +kernel, rfl, by decide +kernel, by decide +kernel⟩
theorem dx_law_pick (B : Bl mg) (Cc : Cs K mg) (d_law_draw : Dx P w K mg base "_law_draw" 1 ["script", "town", "many"] C_draw) (Fx : Fp K mg "_law_pick" s_law_pick) : Dx P w K mg base "_law_pick" 2 ["script", "town", "some"] C_pick := by
  obtain ⟨f_law_draw, fd_law_draw, d_law_draw⟩ := d_law_draw
  obtain ⟨f, fd, F, gl⟩ := Fx
  refine ⟨f, fd, ?_, gl, F.kp, F.bindsN fun _ _ _ _ _ _ us hl => match us, hl with | [_, _, _], _ => rfl⟩
  refine fn_by F sc_law_pick (fun ds R h => by
    obtain ⟨_, _, _, _, _, _, rfl, _⟩ := h
    rfl) (fun cdv A outer s H E hr => ⟨_, (pss_one (ps_ret (pe_ix (kIx K) (pv 2) (kCall K d_law_draw hr (by decide) (by rfl) (pa_cons (pv 0) (pa_cons (pv 1) (pa_cons (pe_callB (kLen K) (by rfl) B.len PySem.boot_len (pa_cons (pv 2) pa_nil)) pa_nil)))) (fun _ _ => rfl)))), ?_⟩)
  rintro as R ⟨a, b, ns, t, u, d, rfl, hl, ht, xs, hx, h0, h1, q⟩
  dsimp only [cxOf, Cx.nox, Cx.wish, DL.fill, List.map, List.length_cons, List.length_nil, List.length, Nat.reduceAdd, Nat.reduceSub, List.replicate, List.cons_append, List.nil_append]
  walk_at "ev"
  refine e_call ?_
  walk_at "ev"
  cases d with
  | list ys =>
    cases hx
    walk_at "ev"
    refine ⟨rfl, a, b, ns, t, u, _, rfl, ⟨hl, ht, by omega, by omega⟩, fun e t' u' e0 e1 ht' => ⟨rfl, ?_⟩⟩
    obtain ⟨x, hx1, hx2⟩ := pick_at e0 e1
    refine rr_ixL rfl hx1 ?_
    walk_at "ev"
    exact ⟨_, .own (.own (.dat .nil)), q x t' u' hx2 ht'⟩
  | tuple ys =>
    cases hx
    walk_at "ev"
    refine ⟨rfl, a, b, ns, t, u, _, rfl, ⟨hl, ht, by omega, by omega⟩, fun e t' u' e0 e1 ht' => ⟨rfl, ?_⟩⟩
    obtain ⟨x, hx1, hx2⟩ := pick_at e0 e1
    refine rr_ixT hx1 ?_
    walk_at "ev"
    exact ⟨_, .own (.own (.dat .nil)), q x t' u' hx2 ht'⟩
  | str z =>
    cases hx
    have hz : (DL.signs z).length = z.length := by simp [DL.signs, Str.length]
    walk_at "ev"
    refine rb_lenS (by omega) ?_
    walk_at "ev"
    refine ⟨rfl, a, b, ns, t, u, _, rfl, ⟨hl, ht, by omega, by omega⟩, fun e t' u' e0 e1 ht' => ⟨rfl, ?_⟩⟩
    obtain ⟨j, rfl⟩ : ∃ j : Nat, e = (j : Int) := ⟨e.toNat, by omega⟩
    have hj : j < z.cps.toList.length := by
      have : z.cps.toList.length = z.length := rfl
      omega
    refine rr_ixS (by omega) (atI_nat (List.getElem?_eq_getElem hj)) ?_
    walk_at "ev"
    refine ⟨_, .own (.own (.dat .nil)), q _ t' u' ?_ ht'⟩
    unfold DL.signs
    exact List.mem_map.mpr ⟨_, List.getElem_mem hj, rfl⟩
  | none => cases hx
  | bool _ => cases hx
  | int _ => cases hx
  | dict _ => cases hx
/-! law_mask -/
def nms9 : List Str := ["keep_first", "keep_last", "hide_first", "hide_last", "cut_first", "cut_last", "squeeze", "squeeze", "short"]
theorem nms9_is {z : Str} (h : z ∈ nms9 ++ ([("reverse" : Str)] : List Str)) : z = "reverse" ∨ ∃ k : Nm, z = k.s := by
  simp only [nms9, List.mem_append, List.mem_cons, List.not_mem_nil, or_false] at h
  rcases h with (h | h | h | h | h | h | h | h | h) | h
  · exact .inr ⟨.kf, h⟩
  · exact .inr ⟨.kl, h⟩
  · exact .inr ⟨.hf, h⟩
  · exact .inr ⟨.hl, h⟩
  · exact .inr ⟨.cf, h⟩
  · exact .inr ⟨.cl, h⟩
  · exact .inr ⟨.sq, h⟩
  · exact .inr ⟨.sq, h⟩
  · exact .inr ⟨.sh, h⟩
  · exact .inl h
def C_lmask : Ct := fun as R => ∃ (a b : Addr) (ns : List Int) (t u : Int) (k n : Nat), as = [.own false a (.scr ns), .own false b (dTown t u), .dat (.int k), .dat (.int n)] ∧ (ns.length ≤ 63 ∧ okTown t u ∧ k ≤ 10 ∧ n ≤ 10 ∧
  ∀ m t' u', okM k n m → okTown t' u' → R (dMask m) [.own false a (.scr ns), .own false b (dTown t' u'), .dat (.int k), .dat (.int n)])
theorem sc_law_mask : FnScope ["script", "town", "steps", "most", "names", "made", "k", "name"] ["script", "town", "steps", "most"] (defScope s_law_mask) := ⟨rfl, rfl, rfl, by decide +kernel, rfl, by decide +kernel, by decide +kernel⟩
theorem dx_law_mask (B : Bl mg) (Cc : Cs K mg) (d_law_draw : Dx P w K mg base "_law_draw" 1 ["script", "town", "many"] C_draw) (d_law_pick : Dx P w K mg base "_law_pick" 2 ["script", "town", "some"] C_pick) (Fx : Fp K mg "_law_mask" s_law_mask) : Dx P w K mg base "_law_mask" 3 ["script", "town", "steps", "most"] C_lmask := by
  obtain ⟨f_law_draw, fd_law_draw, d_law_draw⟩ := d_law_draw
  obtain ⟨f_law_pick, fd_law_pick, d_law_pick⟩ := d_law_pick
  obtain ⟨f, fd, F, gl⟩ := Fx
  refine ⟨f, fd, ?_, gl, F.kp, F.bindsN fun _ _ _ _ _ _ us hl => match us, hl with | [_, _, _, _], _ => rfl⟩
  refine fn_by F sc_law_mask (fun ds R h => by
    obtain ⟨_, _, _, _, _, _, _, rfl, _⟩ := h
    rfl) (fun cdv A outer s H E hr => ⟨_, (pss_cons (ps_set (i := 4) sc_law_mask.nd rfl (.inl rfl) (pe_lst (pa_cons pe_str (pa_cons pe_str (pa_cons pe_str (pa_cons pe_str (pa_cons pe_str (pa_cons pe_str pa_nil))))))))
  (pss_cons (ps_expr (kBm K PySem.F.plainAttrs_list PySem.F.slot_list_extend PySem.F.type_list_extend mt_extend (pv 4) (pa_cons (pe_lst (pa_cons pe_str (pa_cons pe_str (pa_cons pe_str pa_nil)))) pa_nil)))
  (pss_cons (ps_set (i := 5) sc_law_mask.nd rfl (.inl rfl) (pe_lst pa_nil))
  (pss_cons (ps_for PassesOwn.never rfl (pi_range1 (by rfl) B.range (pa_cons (kCall K d_law_draw hr (by decide) (by rfl) (pa_cons (pv 0) (pa_cons (pv 1) (pa_cons (pe_op (kAdd K) (pv 2) pe_int) pa_nil)))) pa_nil)) (pg_name (i := 6) sc_law_mask.nd rfl (.inl rfl))
  (pss_cons (ps_set (i := 7) sc_law_mask.nd rfl (.inl rfl) (kCall K d_law_pick hr (by decide) (by rfl) (pa_cons (pv 0) (pa_cons (pv 1) (pa_cons (pe_op (kAdd K) (pv 4) (pe_lst (pa_cons pe_str pa_nil))) pa_nil)))))
  (pss_one (ps_expr (kBm K PySem.F.plainAttrs_list PySem.F.slot_list_append PySem.F.type_list_append mt_append (pv 5) (pa_cons (pe_ifExp (pt_cmpR (kEq K hr.units) (pv 7) pe_str (nomark _)) (pe_tup (pa_cons (pv 7) pa_nil)) (pe_tup (pa_cons (pv 7) (pa_cons (kCall K d_law_draw hr (by decide) (by rfl) (pa_cons (pv 0) (pa_cons (pv 1) (pa_cons (pe_op (kAdd K) (pv 3) pe_int) pa_nil)))) pa_nil)))) pa_nil))))))
  (pss_one (ps_ret (pe_callTy (kTuple K) (by rfl) B.tuple (by decide +kernel) (pa_cons (pv 5) pa_nil)))))))), ?_⟩)
  rintro as R ⟨a, b, ns, t, u, k, n, rfl, hl, ht, hk, hn, q⟩
  dsimp only [cxOf, Cx.nox, Cx.wish, DL.fill, List.map, List.length_cons, List.length_nil, List.length, Nat.reduceAdd, Nat.reduceSub, List.replicate, List.cons_append, List.nil_append]
  refine ss_seq (s_own (n_lst ?_))
  walk_at "ev"
  intro c
  walk_at "ev"
  refine ee_extend rfl ?_
  refine ea_cons (e_lst ?_)
  walk_at "ev"
  refine ⟨_, _, _, rfl, rfl, rfl, by decide, ?_⟩
  refine ss_seq (s_own (n_lst ?_))
  walk_at "ev"
  intro e
  walk_at "ev"
  refine ss_for (ei_range1 (ea_cons (e_call ?_)))
  walk_at "ev"
  refine ⟨rfl, a, b, ns, t, u, _, rfl, ⟨hl, ht, by omega, by omega⟩, fun d t' u' d0 d1 ht' => ⟨rfl, ?_⟩⟩
  walk_at "ev"
  refine ⟨d, rfl, by omega, by omega, fun i S => ∃ t u m x y, S = [.own false a (.scr ns), .own false b (dTown t u), .dat (.int k), .dat (.int n), .own true c (.lst (nms9.map PyData.str)), .own true e (.lst (m.map dStep)), x, y] ∧ okTown t u ∧ m.length = i ∧ ∀ s ∈ m, okS n s, ⟨t', u', [], _, _, rfl, ht', rfl, fun s hs => by cases hs⟩, ?_, ?_⟩
  · rintro i d2 S hd ⟨t, u, m, x, y, rfl, ht, hm, hs⟩
    have hi : i < k + 1 := by
      have := (List.getElem?_eq_some_iff.mp hd).1
      rw [List.length_map, List.length_range] at this
      omega
    refine g_name ⟨rfl, ?_⟩
    refine ss_seq (s_let (e_call ?_))
    walk_at "ev"
    refine rr_of_rn (rn_addL rfl rfl (by decide) ?_)
    walk_at "ev"
    refine ⟨rfl, a, b, ns, t, u, _, rfl, hl, ht, _, rfl, by decide, by decide, fun z t2 u2 hz ht2 => ⟨rfl, ?_⟩⟩
    have hz2 : z ∈ (nms9 ++ ([("reverse" : Str)] : List Str)).map PyData.str := by
      rw [List.map_append]
      exact hz
    obtain ⟨zs, hzs, rfl⟩ := List.mem_map.mp hz2
    walk_at "ev"
    refine ee_append rfl ?_
    walk_at "ev"
    have e4 : ∀ s, (m ++ [s]).map dStep = m.map dStep ++ [dStep s] := fun s => by rw [List.map_append]; rfl
    rcases nms9_is hzs with rfl | ⟨nm, rfl⟩
    · refine if_eqS (fun _ => ?_) (fun z => absurd rfl z)
      walk_at "ev"
      refine ⟨_, _, rfl, rfl, by rw [List.length_map]; omega, t2, u2, m ++ [.rev], _, _, (by rw [e4]; rfl), ht2, by simp [hm], fun s h => ?_⟩
      · rcases List.mem_append.mp h with h | h
        · exact hs s h
        · rw [List.mem_singleton.mp h]
          trivial
    · refine if_eqS (fun z => absurd z (nm_rev nm)) (fun _ => ?_)
      walk_at "ev"
      refine e_call ?_
      walk_at "ev"
      refine ⟨rfl, a, b, ns, t2, u2, _, rfl, ⟨hl, ht2, by omega, by omega⟩, fun d3 t3 u3 d0 d1 ht3 => ⟨rfl, ?_⟩⟩
      walk_at "ev"
      obtain ⟨d3, rfl⟩ : ∃ j : Nat, d3 = (j : Int) := ⟨d3.toNat, by omega⟩
      refine ⟨_, _, rfl, rfl, by rw [List.length_map]; omega, t3, u3, m ++ [.cnt nm d3], _, _, (by rw [e4]; rfl), ht3, by simp [hm], fun s h => ?_⟩
      · rcases List.mem_append.mp h with h | h
        · exact hs s h
        · rw [List.mem_singleton.mp h]
          show d3 ≤ n
          omega
  · rintro S ⟨t, u, m, x, y, rfl, ht, hm, hs⟩
    rw [List.length_map, List.length_range] at hm
    walk_at "ev"
    exact ⟨_, .own (.own (.dat (.dat .nil))), q m t u ⟨by omega, hs⟩ ht⟩
/-! law_string -/
def C_lstring : Ct := fun as R => ∃ (a b : Addr) (ns : List Int) (t u : Int) (z : Str) (n : Nat), as = [.own false a (.scr ns), .own false b (dTown t u), .dat (.str z), .dat (.int n)] ∧ (ns.length ≤ 63 ∧ okTown t u ∧ 0 < z.length ∧ z.length ≤ 40 ∧ n ≤ 40 ∧
  ∀ l t' u', l.length ≤ n → (∀ c ∈ l, c ∈ z.cps.toList) → okTown t' u' → R (.str (mkS l)) [.own false a (.scr ns), .own false b (dTown t' u'), .dat (.str z), .dat (.int n)])
theorem strs_of (l : List Nat) : l.map (fun c => PyData.str ⟨#[c]⟩) = (l.map fun c => mkS [c]).map PyData.str := by
  rw [List.map_map]
  rfl
theorem sc_law_string : FnScope ["script", "town", "letters", "most", "k"] ["script", "town", "letters", "most"] (defScope s_law_string) := ⟨rfl, rfl, rfl, by decide +kernel, rfl, by decide +kernel, by decide +kernel⟩
theorem dx_law_string (B : Bl mg) (Cc : Cs K mg) (d_law_draw : Dx P w K mg base "_law_draw" 1 ["script", "town", "many"] C_draw) (d_law_pick : Dx P w K mg base "_law_pick" 2 ["script", "town", "some"] C_pick) (Fx : Fp K mg "_law_string" s_law_string) : Dx P w K mg base "_law_string" 3 ["script", "town", "letters", "most"] C_lstring := by
  obtain ⟨f_law_draw, fd_law_draw, d_law_draw⟩ := d_law_draw
  obtain ⟨f_law_pick, fd_law_pick, d_law_pick⟩ := d_law_pick
  obtain ⟨f, fd, F, gl⟩ := Fx
  refine ⟨f, fd, ?_, gl, F.kp, F.bindsN fun _ _ _ _ _ _ us hl => match us, hl with | [_, _, _, _], _ => rfl⟩
  refine fn_by F sc_law_string (fun ds R h => by
    obtain ⟨_, _, _, _, _, _, _, rfl, _⟩ := h
    rfl) (fun cdv A outer s H E hr => ⟨_, (pss_one (ps_ret (kJoin K pe_str (pe_lc (own := [("k", 4)]) (g := gName 4) (tt := tYes) rfl sc_law_string.nd  (pi_range1 (by rfl) B.range (pa_cons (kCall K d_law_draw hr (by decide) (by rfl) (pa_cons (pv 0) (pa_cons (pv 1) (pa_cons (pe_op (kAdd K) (pv 3) pe_int) pa_nil)))) pa_nil)) (blkOk_by (by kernel_rfl)) (fun _ _ _ _ _ => (pg_name (i := 4) sc_law_string.nd rfl (Or.inl rfl))) (fun _ _ _ _ _ => pts_nil) (fun _ _ _ _ _ => (kCall K d_law_pick hr (by decide) (by rfl) (pa_cons (pv 0) (pa_cons (pv 1) (pa_cons (pv 2) pa_nil))))))))), ?_⟩)
  rintro as R ⟨a, b, ns, t, u, z, n, rfl, hl, ht, hz0, hz, hn, q⟩
  dsimp only [cxOf, Cx.nox, Cx.wish, DL.fill, List.map, List.length_cons, List.length_nil, List.length, Nat.reduceAdd, Nat.reduceSub, List.replicate, List.cons_append, List.nil_append]
  walk_at "ev"
  refine ee_join ?_
  walk_at "ev"
  refine ⟨_, rfl, e_new (en_lc (gw_name (by simp)) (ei_range1 (ea_cons (e_call ?_))))⟩
  walk_at "ev"
  refine ⟨rfl, a, b, ns, t, u, _, rfl, ⟨hl, ht, by omega, by omega⟩, fun d t' u' d0 d1 ht' => ⟨rfl, ?_⟩⟩
  walk_at "ev"
  refine ⟨d, rfl, by omega, by omega, rfl, by rw [List.length_map, List.length_range]; omega, fun i acc S => ∃ t u l, S = [.own false a (.scr ns), .own false b (dTown t u), .dat (.str z), .dat (.int n), .no] ∧ okTown t u ∧ acc = l.map (fun c => PyData.str ⟨#[c]⟩) ∧ l.length = i ∧ ∀ c ∈ l, c ∈ z.cps.toList, ⟨t', u', [], rfl, ht', rfl, rfl, fun c hc => by cases hc⟩, ?_, ?_⟩
  · rintro i d2 acc S hd ⟨t, u, l, rfl, ht, rfl, hli, hc⟩ _
    refine g_name ⟨rfl, ?_⟩
    refine t_yes (if_T rfl ?_)
    refine e_call ?_
    walk_at "ev"
    have hs : (DL.signs z).length = z.length := by simp [DL.signs, Str.length]
    refine ⟨rfl, a, b, ns, t, u, _, rfl, hl, ht, _, rfl, by omega, by omega, fun y t2 u2 hy ht2 => ⟨rfl, ?_⟩⟩
    unfold DL.signs at hy
    obtain ⟨c, hc2, rfl⟩ := List.mem_map.mp hy
    refine ⟨_, rfl, t2, u2, l ++ [c], rfl, ht2, by rw [List.map_append]; rfl, by simp [hli], fun x hx => ?_⟩
    rcases List.mem_append.mp hx with hx | hx
    · exact hc x hx
    · rw [List.mem_singleton.mp hx]
      exact hc2
  · rintro acc S ⟨t, u, l, rfl, ht, rfl, hli, hc⟩
    rw [List.length_map, List.length_range] at hli
    walk_at "ev"
    refine ⟨l.map fun c => mkS [c], congrArg some (strs_of l), ?_, ?_⟩
    · rw [sum_ones, List.length_map]
      show _ + _ * 0 ≤ _
      omega
    · walk_at "ev"
      rw [MK.join_ones]
      exact ⟨_, .own (.own (.dat (.dat .nil))), q l t u (by omega) hc ht⟩
/-! law_step -/
def C_lstep : Cp := fun ds R => ∃ (s : Stp) (l : List Nat), ds = [dStep s, .str (mkS l)] ∧ (okS 5 s ∧ l.length ≤ 100000) ∧ R (.str (mkS (stepT s l)))
theorem cutS_from (l : List Nat) (n : Nat) : L2.cutS (mkS l) (some (n : Int)) none = mkS (l.drop n) := by rw [cutS_mk, cut_from]
theorem cutS_to (l : List Nat) (n : Nat) : L2.cutS (mkS l) none (some (n : Int)) = mkS (l.take n) := by rw [cutS_mk, cut_to]
theorem repS_st (n : Nat) : repS (Str.ofString "*") (n : Int) = mkS (List.replicate n 42) := by
  rw [show Str.ofString "*" = mkS [42] from star_mk, repS_star]
/-- the text so far, the last sign -/
def lastS (l : List Nat) (i : Nat) : Str := match (l.take i).getLast? with
  | some c => mkS [c]
  | none => mkS []
theorem emp_mk : Str.ofString "" = mkS [] := by decide +kernel
theorem star_ne {c : Nat} : (mkS [c] = Str.ofString "*") ↔ c = 42 := by
  rw [show Str.ofString "*" = mkS [42] from star_mk]
  exact ⟨fun h => by have := mkS_inj h; injection this, fun h => by rw [h]⟩
theorem sqT_next {l : List Nat} {i c n : Nat} (h : l[i]? = some c) : sqG 42 (fun c => decide (c = 42)) n false (l.take (i + 1)) = sqG 42 (fun c => decide (c = 42)) n false (l.take i) ++ (if c = 42 then (if lastS l i = Str.ofString "*" then [] else List.replicate n 42) else [c]) := by
  rw [take_next h, sqG_app]
  congr 1
  by_cases hc : c = 42
  · rw [if_pos (decide_eq_true hc), if_pos hc]
    unfold lastS
    cases q : (l.take i).getLast? with
    | none =>
      have e : ¬ mkS [] = Str.ofString "*" := by decide +kernel
      show (if false = true then _ else _) = if mkS [] = Str.ofString "*" then _ else _
      rw [if_neg e, if_neg (by simp)]
    | some d =>
      show (if decide (d = 42) = true then _ else _) = if mkS [d] = Str.ofString "*" then _ else _
      by_cases hd : d = 42
      · rw [if_pos (decide_eq_true hd), if_pos (star_ne.mpr hd)]
      · rw [if_neg (by simp [hd]), if_neg fun z => hd (star_ne.mp z)]
  · rw [if_neg (by simp [hc]), if_neg hc]
theorem last_next {l : List Nat} {i c : Nat} (h : l[i]? = some c) : lastS l (i + 1) = mkS [c] := by
  unfold lastS
  rw [take_next h]
  simp
theorem sqT_len (n : Nat) (l : List Nat) (i : Nat) (hn : n ≤ 5) : (sqG 42 (fun c => decide (c = 42)) n false (l.take i)).length ≤ 5 * l.length := by
  have h := sqG_len (star := 42) (isS := fun c => decide (c = 42)) n 5 hn (by decide) false (l.take i)
  rw [List.length_take] at h
  exact Nat.le_trans h (Nat.mul_le_mul_left 5 (Nat.min_le_right _ _))
theorem sc_law_step : FnScope ["step", "text", "many", "count", "result", "last", "char"] ["step", "text"] (defScope s_law_step) := ⟨rfl, rfl, rfl, by decide +kernel, rfl, by decide +kernel, by decide +kernel⟩
theorem dx_law_step (B : Bl mg) (Cc : Cs K mg) (Fx : Fp K mg "_law_step" s_law_step) : Dx P w K mg base "_law_step" 1 ["step", "text"] (pureC C_lstep) := by
  obtain ⟨f, fd, F, gl⟩ := Fx
  refine ⟨f, fd, ?_, gl, F.kp, F.bindsN fun _ _ _ _ _ _ us hl => match us, hl with | [_, _], _ => rfl⟩
  refine fn_pure F sc_law_step (fun ds R h => by
    obtain ⟨_, _, rfl, _⟩ := h
    rfl) (fun cdv A outer s H E hr => ⟨_, (pss_cons (ps_par (i := 2) (j := 3) rfl sc_law_step.nd rfl rfl (by decide) rfl rfl (pa_cons (pe_callB (kLen K) (by rfl) B.len PySem.boot_len (pa_cons (pv 1) pa_nil)) (pa_cons (pe_ifExp (pt_cmpR op_gt (pe_callB (kLen K) (by rfl) B.len PySem.boot_len (pa_cons (pv 0) pa_nil)) pe_int (nomark _)) (pe_ix (kIx K) (pv 0) pe_int (fun _ _ => rfl)) pe_int) pa_nil)) (by rfl))
  (pss_cons (ps_if (pt_cmpR (kEq K hr.units) (pe_ix (kIx K) (pv 0) pe_int (fun _ _ => rfl)) pe_str (nomark _))
  (pss_one (ps_ret (kRev K (pv 1))))
  pss_nil)
  (pss_cons (ps_if (pt_cmpR (kEq K hr.units) (pe_ix (kIx K) (pv 0) pe_int (fun _ _ => rfl)) pe_str (nomark _))
  (pss_one (ps_ret (pe_op (kAdd K) (pe_slice (kSl K) (pv 1) po_none (po_some (pv 3))) (pe_op (kMul K) pe_str (pe_callB (call_max2 rfl) (by rfl) B.max (by decide +kernel) (pa_cons (pe_op op_sub (pv 2) (pv 3)) (pa_cons pe_int pa_nil)))))))
  pss_nil)
  (pss_cons (ps_if (pt_cmpR (kEq K hr.units) (pe_ix (kIx K) (pv 0) pe_int (fun _ _ => rfl)) pe_str (nomark _))
  (pss_one (ps_ret (pe_op (kAdd K) (pe_op (kMul K) pe_str (pe_callB (call_max2 rfl) (by rfl) B.max (by decide +kernel) (pa_cons (pe_op op_sub (pv 2) (pv 3)) (pa_cons pe_int pa_nil)))) (pe_slice (kSl K) (pv 1) (po_some (pe_callB (call_max2 rfl) (by rfl) B.max (by decide +kernel) (pa_cons (pe_op op_sub (pv 2) (pv 3)) (pa_cons pe_int pa_nil)))) po_none))))
  pss_nil)
  (pss_cons (ps_if (pt_cmpR (kEq K hr.units) (pe_ix (kIx K) (pv 0) pe_int (fun _ _ => rfl)) pe_str (nomark _))
  (pss_one (ps_ret (pe_op (kAdd K) (pe_op (kMul K) pe_str (pe_callB (call_min2 rfl) (by rfl) B.min (by decide +kernel) (pa_cons (pv 2) (pa_cons (pv 3) pa_nil)))) (pe_slice (kSl K) (pv 1) (po_some (pv 3)) po_none))))
  pss_nil)
  (pss_cons (ps_if (pt_cmpR (kEq K hr.units) (pe_ix (kIx K) (pv 0) pe_int (fun _ _ => rfl)) pe_str (nomark _))
  (pss_one (ps_ret (pe_op (kAdd K) (pe_slice (kSl K) (pv 1) po_none (po_some (pe_callB (call_max2 rfl) (by rfl) B.max (by decide +kernel) (pa_cons (pe_op op_sub (pv 2) (pv 3)) (pa_cons pe_int pa_nil))))) (pe_op (kMul K) pe_str (pe_callB (call_min2 rfl) (by rfl) B.min (by decide +kernel) (pa_cons (pv 2) (pa_cons (pv 3) pa_nil)))))))
  pss_nil)
  (pss_cons (ps_if (pt_cmpR (kEq K hr.units) (pe_ix (kIx K) (pv 0) pe_int (fun _ _ => rfl)) pe_str (nomark _))
  (pss_one (ps_ret (pe_slice (kSl K) (pv 1) (po_some (pv 3)) po_none)))
  pss_nil)
  (pss_cons (ps_if (pt_cmpR (kEq K hr.units) (pe_ix (kIx K) (pv 0) pe_int (fun _ _ => rfl)) pe_str (nomark _))
  (pss_one (ps_ret (pe_slice (kSl K) (pv 1) po_none (po_some (pe_callB (call_max2 rfl) (by rfl) B.max (by decide +kernel) (pa_cons (pe_op op_sub (pv 2) (pv 3)) (pa_cons pe_int pa_nil)))))))
  pss_nil)
  (pss_cons (ps_if (pt_cmpR (kEq K hr.units) (pe_ix (kIx K) (pv 0) pe_int (fun _ _ => rfl)) pe_str (nomark _))
  (pss_one (ps_ret (pe_ifExp (pt_cmpR op_lt (pv 2) (pv 3) (nomark _)) (pe_op (kMul K) pe_str (pv 2)) (pv 1))))
  pss_nil)
  (pss_cons (ps_asg (pe_tup (pa_cons pe_str (pa_cons pe_str pa_nil))) (kTup K (n := 2) rfl (pgs_cons (pg_name (i := 4) sc_law_step.nd rfl (.inl rfl)) (pgs_cons (pg_name (i := 5) sc_law_step.nd rfl (.inl rfl)) pgs_nil))))
  (pss_cons (ps_for PassesOwn.never rfl (kAny K (pv 1)) (pg_name (i := 6) sc_law_step.nd rfl (.inl rfl))
  (pss_cons (ps_if (pt_cmpR (kNotEq K hr.units) (pv 6) pe_str (nomark _))
  (pss_one (ps_set (i := 4) sc_law_step.nd rfl (.inl rfl) (pe_op (kAdd K) (pv 4) (pv 6))))
  (pss_one (ps_if (pt_cmpR (kNotEq K hr.units) (pv 5) pe_str (nomark _))
  (pss_one (ps_set (i := 4) sc_law_step.nd rfl (.inl rfl) (pe_op (kAdd K) (pv 4) (pe_op (kMul K) pe_str (pv 3)))))
  pss_nil)))
  (pss_one (ps_set (i := 5) sc_law_step.nd rfl (.inl rfl) (pv 6)))))
  (pss_one (ps_ret (pv 4)))))))))))))), ?_⟩)
  rintro ds R ⟨s, l, rfl, ⟨hs, hl⟩, q⟩
  dsimp only [cxOf, Cx.nox, Cx.wish, DL.fill, List.map, List.length_cons, List.length_nil, List.length, Nat.reduceAdd, Nat.reduceSub, List.replicate, List.cons_append, List.nil_append]
  cases s with
  | rev =>
    unfold dStep
    walk_at "ev"
    refine rb_lenS (by rw [mkS_len]; omega) ?_
    walk_at "ev"
    refine if_F rfl ?_
    walk_at "ev"
    refine ⟨_, _, rfl, rfl, rfl, ?_⟩
    walk_at "ev"
    refine if_eqS (fun _ => ?_) (fun z => absurd rfl z)
    walk_at "ev"
    refine ee_revU ?_
    walk_at "ev"
    refine ⟨_, rfl, by rw [mkS_len]; omega, ?_⟩
    walk_at "ev"
    exact q
  | cnt k n =>
    have hn : n ≤ 5 := hs
    unfold dStep
    walk_at "ev"
    refine rb_lenS (by rw [mkS_len]; omega) ?_
    walk_at "ev"
    refine if_T rfl ?_
    walk_at "ev"
    refine ⟨_, _, rfl, rfl, rfl, ?_⟩
    walk_at "ev"
    rw [mkS_len]
    cases k <;> (simp only [Nm.s]; repeat (first | (refine if_eqS (fun z => absurd z (by decide +kernel)) (fun _ => ?_); walk_at "ev") | (refine if_eqS (fun _ => ?_) (fun z => absurd rfl z))))
    · walk_at "ev"
      refine rs_S (by rw [mkS_len]; omega) ?_
      rw [cutS_to]
      walk_at "ev"
      rw [max0]
      refine rr_mulS ⟨by omega, by omega, by decide +kernel⟩ ?_
      rw [repS_st]
      refine rr_addS (by rw [mkS_len, mkS_len, List.length_take, List.length_replicate]; omega) ?_
      rw [mkS_app]
      exact q
    · walk_at "ev"
      rw [max0]
      refine rr_mulS ⟨by omega, by omega, by decide +kernel⟩ ?_
      rw [repS_st]
      walk_at "ev"
      rw [max0]
      refine rs_S (by rw [mkS_len]; omega) ?_
      rw [cutS_from]
      refine rr_addS (by rw [mkS_len, mkS_len, List.length_drop, List.length_replicate]; omega) ?_
      rw [mkS_app]
      exact q
    · walk_at "ev"
      rw [min0]
      refine rr_mulS ⟨by omega, by omega, by decide +kernel⟩ ?_
      rw [repS_st]
      walk_at "ev"
      refine rs_S (by rw [mkS_len]; omega) ?_
      rw [cutS_from]
      refine rr_addS (by rw [mkS_len, mkS_len, List.length_drop, List.length_replicate]; omega) ?_
      rw [mkS_app, Nat.min_comm]
      exact q
    · walk_at "ev"
      rw [max0]
      refine rs_S (by rw [mkS_len]; omega) ?_
      rw [cutS_to]
      walk_at "ev"
      rw [min0]
      refine rr_mulS ⟨by omega, by omega, by decide +kernel⟩ ?_
      rw [repS_st]
      refine rr_addS (by rw [mkS_len, mkS_len, List.length_take, List.length_replicate]; omega) ?_
      rw [mkS_app, Nat.min_comm]
      exact q
    · walk_at "ev"
      refine rs_S (by rw [mkS_len]; omega) ?_
      rw [cutS_from]
      exact q
    · walk_at "ev"
      rw [max0]
      refine rs_S (by rw [mkS_len]; omega) ?_
      rw [cutS_to]
      exact q
    · walk_at "ev"
      refine ss_for (ei_S ?_)
      walk_at "ev"
      have e0 : sqG 42 (fun c => decide (c = 42)) n false (l.take 0) = [] := rfl
      refine ⟨_, rfl, fun i S => ∃ x, S = [.dat (.tuple [.str "squeeze", .int n]), .dat (.str (mkS l)), .dat (.int l.length), .dat (.int n), .dat (.str (mkS (sqG 42 (fun c => decide (c = 42)) n false (l.take i)))), .dat (.str (lastS l i)), x], ⟨_, (by rw [emp_mk]; rfl)⟩, ?_, ?_⟩
      · rintro i d S hd ⟨x, rfl⟩
        unfold DL.signs at hd
        rw [mkS_tl, List.getElem?_map] at hd
        obtain ⟨c, hc, rfl⟩ : ∃ c, l[i]? = some c ∧ d = .str ⟨#[c]⟩ := by
          cases h : l[i]? with
          | none => rw [h] at hd; cases hd
          | some c => rw [h] at hd; exact ⟨c, rfl, (Option.some.inj hd).symm⟩
        have hb := sqT_len n l i hn
        have hx := sqT_next (n := n) hc
        have hy := last_next hc
        refine g_name ⟨rfl, ?_⟩
        walk_at "ev"
        refine if_neS (fun h1 => ?_) (fun h1 => ?_)
        · have h2 : ¬ c = 42 := fun z => h1 (star_ne.mpr z)
          rw [if_neg h2] at hx
          walk_at "ev"
          refine rr_addS (j := mkS [c]) (by rw [mkS_len, mkS_len]; show _ + 1 ≤ _; omega) ?_
          rw [mkS_app, ← hx]
          walk_at "ev"
          dsimp only
          rw [hy]
          exact ⟨_, rfl⟩
        · have h2 : c = 42 := star_ne.mp h1
          rw [if_pos h2] at hx
          walk_at "ev"
          refine if_neS (fun h3 => ?_) (fun h3 => ?_)
          · rw [if_neg h3] at hx
            walk_at "ev"
            refine rr_mulS ⟨by omega, by omega, by decide +kernel⟩ ?_
            rw [repS_st]
            refine rr_addS (by rw [mkS_len, mkS_len, List.length_replicate]; omega) ?_
            rw [mkS_app, ← hx]
            walk_at "ev"
            dsimp only
            rw [hy]
            exact ⟨_, rfl⟩
          · rw [if_pos h3, List.append_nil] at hx
            walk_at "ev"
            dsimp only
            rw [hy, hx]
            exact ⟨_, rfl⟩
      · rintro S ⟨x, rfl⟩
        walk_at "ev"
        have e1 : (DL.signs (mkS l)).length = l.length := by
          unfold DL.signs
          rw [mkS_tl, List.length_map]
        rw [e1, List.take_length]
        exact q
    · walk_at "ev"
      refine if_D (fun h => ?_) (fun h => ?_)
      · walk_at "ev"
        refine rr_mulS ⟨by omega, by omega, by decide +kernel⟩ ?_
        rw [repS_st]
        have e : stepT (.cnt .sh n) l = List.replicate l.length 42 := if_pos (by omega)
        rw [e] at q
        exact q
      · walk_at "ev"
        have e : stepT (.cnt .sh n) l = l := if_neg (by omega)
        rw [e] at q
        exact q
/-! law_run -/
def C_lrun : Cp := fun ds R => ∃ (m : Mask) (l : List Nat), ds = [dMask m, .str (mkS l)] ∧ (okM 4 5 m ∧ l.length ≤ 150) ∧ R (.str (mkS (runT m l)))
theorem runT_len {m : Mask} (h : okM 4 5 m) (l : List Nat) : (runT m l).length ≤ 625 * l.length := by
  have e := runG_len (star := 42) (isS := fun c => decide (c = 42)) 5 (by decide) m h.2 l
  exact Nat.le_trans e (Nat.mul_le_mul_right _ (pow5 h.1))
theorem sc_law_run : FnScope ["mask", "text", "step"] ["mask", "text"] (defScope s_law_run) := ⟨rfl, rfl, rfl, by decide +kernel, rfl, by decide +kernel, by decide +kernel⟩
theorem dx_law_run (B : Bl mg) (Cc : Cs K mg) (d_law_step : Dx P w K mg base "_law_step" 1 ["step", "text"] (pureC C_lstep)) (Fx : Fp K mg "_law_run" s_law_run) : Dx P w K mg base "_law_run" 2 ["mask", "text"] (pureC C_lrun) := by
  obtain ⟨f_law_step, fd_law_step, d_law_step⟩ := d_law_step
  obtain ⟨f, fd, F, gl⟩ := Fx
  refine ⟨f, fd, ?_, gl, F.kp, F.bindsN fun _ _ _ _ _ _ us hl => match us, hl with | [_, _], _ => rfl⟩
  refine fn_pure F sc_law_run (fun ds R h => by
    obtain ⟨_, _, rfl, _⟩ := h
    rfl) (fun cdv A outer s H E hr => ⟨_, (pss_cons (ps_for PassesOwn.never rfl (kAny K (pv 0)) (pg_name (i := 2) sc_law_run.nd rfl (.inl rfl))
  (pss_one (ps_set (i := 1) sc_law_run.nd rfl (.inl rfl) (kCall K d_law_step hr (by decide) (by rfl) (pa_cons (pv 2) (pa_cons (pv 1) pa_nil))))))
  (pss_one (ps_ret (pv 1)))), ?_⟩)
  rintro ds R ⟨m, l, rfl, ⟨hm, hl⟩, q⟩
  dsimp only [cxOf, Cx.nox, Cx.wish, DL.fill, List.map, List.length_cons, List.length_nil, List.length, Nat.reduceAdd, Nat.reduceSub, List.replicate, List.cons_append, List.nil_append]
  refine ss_seq (ss_for (ei_T ?_))
  walk_at "ev"
  refine ⟨_, rfl, fun i S => ∃ x, S = [.dat (dMask m), .dat (.str (mkS (runT (m.take i) l))), x], ⟨_, rfl⟩, ?_, ?_⟩
  · rintro i d S hd ⟨x, rfl⟩
    rw [List.getElem?_map] at hd
    obtain ⟨s, hs, rfl⟩ : ∃ s, m[i]? = some s ∧ d = dStep s := by
      cases h : m[i]? with
      | none => rw [h] at hd; cases hd
      | some s => rw [h] at hd; exact ⟨s, rfl, (Option.some.inj hd).symm⟩
    refine g_name ⟨rfl, ?_⟩
    refine s_let (e_callP ?_)
    walk_at "ev"
    have hb : (runT (m.take i) l).length ≤ 625 * l.length := runT_len (m := m.take i) ⟨by rw [List.length_take]; have := hm.1; omega, fun s hs => hm.2 s (List.mem_of_mem_take hs)⟩ l
    refine ⟨s, _, rfl, ⟨hm.2 s (List.mem_of_getElem? hs), by omega⟩, ?_⟩
    walk_at "ev"
    have e1 : runT (m.take (i + 1)) l = stepT s (runT (m.take i) l) := by
      rw [take_next hs]
      exact List.foldl_append
    dsimp only
    rw [e1]
    exact ⟨_, rfl⟩
  · rintro S ⟨x, rfl⟩
    walk_at "ev"
    rw [List.length_map, List.take_length]
    exact q
/-! law_release -/
def C_lrel : Ct := fun as R => ∃ (a b : Addr) (ns : List Int) (t u : Int) (j k n : Nat), as = [.own false a (.scr ns), .own false b (dTown t u), .dat (.int j), .dat (.int k), .dat (.int n)] ∧ (ns.length ≤ 63 ∧ okTown t u ∧ j ≤ 10 ∧ k ≤ 10 ∧ n ≤ 10 ∧
  ∀ r t' u', r.length ≤ j → (∀ m ∈ r, okM k n m) → okTown t' u' → R (dRel r) [.own false a (.scr ns), .own false b (dTown t' u'), .dat (.int j), .dat (.int k), .dat (.int n)])
theorem sc_law_release : FnScope ["script", "town", "many", "steps", "most", "k"] ["script", "town", "many", "steps", "most"] (defScope s_law_release) := ⟨rfl, rfl, rfl, by decide +kernel, rfl, by decide +kernel, by decide +kernel⟩
theorem dx_law_release (B : Bl mg) (Cc : Cs K mg) (d_law_draw : Dx P w K mg base "_law_draw" 1 ["script", "town", "many"] C_draw) (d_law_mask : Dx P w K mg base "_law_mask" 3 ["script", "town", "steps", "most"] C_lmask) (Fx : Fp K mg "_law_release" s_law_release) : Dx P w K mg base "_law_release" 4 ["script", "town", "many", "steps", "most"] C_lrel := by
  obtain ⟨f_law_draw, fd_law_draw, d_law_draw⟩ := d_law_draw
  obtain ⟨f_law_mask, fd_law_mask, d_law_mask⟩ := d_law_mask
  obtain ⟨f, fd, F, gl⟩ := Fx
  refine ⟨f, fd, ?_, gl, F.kp, F.bindsN fun _ _ _ _ _ _ us hl => match us, hl with | [_, _, _, _, _], _ => rfl⟩
  refine fn_by F sc_law_release (fun ds R h => by
    obtain ⟨_, _, _, _, _, _, _, _, rfl, _⟩ := h
    rfl) (fun cdv A outer s H E hr => ⟨_, (pss_one (ps_ret (pe_callTy (kTuple K) (by rfl) B.tuple (by decide +kernel) (pa_cons (pe_lc (own := [("k", 5)]) (g := gName 5) (tt := tYes) rfl sc_law_release.nd  (pi_range1 (by rfl) B.range (pa_cons (kCall K d_law_draw hr (by decide) (by rfl) (pa_cons (pv 0) (pa_cons (pv 1) (pa_cons (pe_op (kAdd K) (pv 2) pe_int) pa_nil)))) pa_nil)) (blkOk_by (by kernel_rfl)) (fun _ _ _ _ _ => (pg_name (i := 5) sc_law_release.nd rfl (Or.inl rfl))) (fun _ _ _ _ _ => pts_nil) (fun _ _ _ _ _ => (kCall K d_law_mask hr (by decide) (by rfl) (pa_cons (pv 0) (pa_cons (pv 1) (pa_cons (pv 3) (pa_cons (pv 4) pa_nil))))))) pa_nil)))), ?_⟩)
  rintro as R ⟨a, b, ns, t, u, j, k, n, rfl, hl, ht, hj, hk, hn, q⟩
  dsimp only [cxOf, Cx.nox, Cx.wish, DL.fill, List.map, List.length_cons, List.length_nil, List.length, Nat.reduceAdd, Nat.reduceSub, List.replicate, List.cons_append, List.nil_append]
  walk_at "ev"
  refine e_new (en_lc (gw_name (by simp)) (ei_range1 (ea_cons (e_call ?_))))
  walk_at "ev"
  refine ⟨rfl, a, b, ns, t, u, _, rfl, ⟨hl, ht, by omega, by omega⟩, fun d t' u' d0 d1 ht' => ⟨rfl, ?_⟩⟩
  dsimp only [updA, came, lent, List.set, List.getD_cons_zero, List.getD_cons_succ, List.getD, List.getElem?_cons_zero, List.getElem?_cons_succ, Option.getD_some, Option.getD]
  walk_at "ev"
  refine ⟨d, rfl, by omega, by omega, rfl, by rw [List.length_map, List.length_range]; omega, fun i acc S => ∃ t u r, S = [.own false a (.scr ns), .own false b (dTown t u), .dat (.int j), .dat (.int k), .dat (.int n), .no] ∧ okTown t u ∧ acc = r.map dMask ∧ r.length = i ∧ ∀ m ∈ r, okM k n m, ⟨t', u', [], rfl, ht', rfl, rfl, fun c hc => by cases hc⟩, ?_, ?_⟩
  · rintro i d2 acc S hd ⟨t, u, r, rfl, ht, rfl, hli, hc⟩ _
    refine g_name ⟨rfl, ?_⟩
    dsimp only [updA, came, lent, List.set, List.getD_cons_zero, List.getD_cons_succ, List.getD, List.getElem?_cons_zero, List.getElem?_cons_succ, Option.getD_some, Option.getD]
    refine t_yes (if_T rfl ?_)
    refine e_call ?_
    walk_at "ev"
    refine ⟨rfl, a, b, ns, t, u, k, n, rfl, hl, ht, hk, hn, fun m t u hm ht => ⟨rfl, ?_⟩⟩
    dsimp only [updA, came, lent, List.set, List.getD_cons_zero, List.getD_cons_succ, List.getD, List.getElem?_cons_zero, List.getElem?_cons_succ, Option.getD_some, Option.getD]
    refine ⟨_, rfl, t, u, r ++ [m], rfl, ht, by rw [List.map_append]; rfl, by simp [hli], fun x hx => ?_⟩
    rcases List.mem_append.mp hx with hx | hx
    · exact hc x hx
    · rw [List.mem_singleton.mp hx]
      exact hm
  · rintro acc S ⟨t, u, r, rfl, ht, rfl, hli, hc⟩
    rw [List.length_map, List.length_range] at hli
    walk_at "ev"
    exact ⟨_, .own (.own (.dat (.dat (.dat .nil)))), q r t u (by omega) hc ht⟩
/-! law_mirrored -/
def C_lmir : Cp := fun ds R => ∃ (m : Mask), ds = [dMask m] ∧ okM 4 5 m ∧ R (dMask (mirM m))
/-- the parts of a step's name, and the mirrored name -/
def p1 : Stp → Str
  | .cnt k _ => (Txt.partition k.s (Str.ofString "_")).1
  | .rev => (Txt.partition (Str.ofString "reverse") (Str.ofString "_")).1
def stN : Stp → Str
  | .cnt k _ => k.s
  | .rev => Str.ofString "reverse"
theorem part_no : ∀ k : Nm, (k = .sq ∨ k = .sh) → (Txt.partition k.s (Str.ofString "_")).1 = k.s ∧ (Txt.partition k.s (Str.ofString "_")).2.2 = Str.ofString "" := by
  intro k h
  rcases h with rfl | rfl <;> exact ⟨by decide +kernel, by decide +kernel⟩
theorem part_rev : (Txt.partition (Str.ofString "reverse") (Str.ofString "_")).1 = Str.ofString "reverse" ∧ (Txt.partition (Str.ofString "reverse") (Str.ofString "_")).2.2 = Str.ofString "" := ⟨by decide +kernel, by decide +kernel⟩
theorem part_first : ∀ k : Nm, (k = .kf ∨ k = .hf ∨ k = .cf) → (Txt.partition k.s (Str.ofString "_")).2.2 = Str.ofString "first" ∧ (Txt.partition k.s (Str.ofString "_")).1 ++ Str.ofString "_" ++ Str.ofString "last" = (mirN k).s ∧ (Txt.partition k.s (Str.ofString "_")).1.length ≤ 10 := by
  intro k h
  rcases h with rfl | rfl | rfl <;> exact ⟨by decide +kernel, by decide +kernel, by decide +kernel⟩
theorem part_last : ∀ k : Nm, (k = .kl ∨ k = .hl ∨ k = .cl) → (Txt.partition k.s (Str.ofString "_")).2.2 = Str.ofString "last" ∧ (Txt.partition k.s (Str.ofString "_")).1 ++ Str.ofString "_" ++ Str.ofString "first" = (mirN k).s ∧ (Txt.partition k.s (Str.ofString "_")).1.length ≤ 10 := by
  intro k h
  rcases h with rfl | rfl | rfl <;> exact ⟨by decide +kernel, by decide +kernel, by decide +kernel⟩
theorem ne_first : ¬ Str.ofString "first" = Str.ofString "" := by decide +kernel
theorem ne_last : ¬ Str.ofString "last" = Str.ofString "" := by decide +kernel
theorem last_first : ¬ Str.ofString "last" = Str.ofString "first" := by decide +kernel
theorem nm_len (k : Nm) : k.s.length ≤ 20 := by cases k <;> decide +kernel
theorem rev_len : (Str.ofString "reverse").length ≤ 20 := by decide +kernel
theorem us_len : ((Str.ofString "_").length == 0) = false := by decide +kernel
theorem us_1 : (Str.ofString "_").length = 1 := by decide +kernel
theorem la_4 : (Str.ofString "last").length = 4 := by decide +kernel
theorem fi_5 : (Str.ofString "first").length = 5 := by decide +kernel
theorem strl (a b : Str) : (a ++ b).length = a.length + b.length := by
  show (a.cps ++ b.cps).size = _
  simp [Str.length]
theorem sc_law_mirrored : FnScope ["mask", "made", "step", "name", "found", "end"] ["mask"] (defScope s_law_mirrored) := ⟨rfl, rfl, rfl, by decide +kernel, rfl, by decide +kernel, by decide +kernel⟩
theorem dx_law_mirrored (B : Bl mg) (Cc : Cs K mg) (Fx : Fp K mg "_law_mirrored" s_law_mirrored) : Dx P w K mg base "_law_mirrored" 1 ["mask"] (pureC C_lmir) := by
  obtain ⟨f, fd, F, gl⟩ := Fx
  refine ⟨f, fd, ?_, gl, F.kp, F.bindsN fun _ _ _ _ _ _ us hl => match us, hl with | [_], _ => rfl⟩
  refine fn_pure F sc_law_mirrored (fun ds R h => by
    obtain ⟨_, rfl, _⟩ := h
    rfl) (fun cdv A outer s H E hr => ⟨_, (pss_cons (ps_set (i := 1) sc_law_mirrored.nd rfl (.inl rfl) (pe_lst pa_nil))
  (pss_cons (ps_for PassesOwn.never rfl (kAny K (pv 0)) (pg_name (i := 2) sc_law_mirrored.nd rfl (.inl rfl))
  (pss_cons (ps_asg (pPart (pe_ix (kIx K) (pv 2) pe_int (fun _ _ => rfl)) pe_str) (kTup K (n := 3) rfl (pgs_cons (pg_name (i := 3) sc_law_mirrored.nd rfl (.inl rfl)) (pgs_cons (pg_name (i := 4) sc_law_mirrored.nd rfl (.inl rfl)) (pgs_cons (pg_name (i := 5) sc_law_mirrored.nd rfl (.inl rfl)) pgs_nil)))))
  (pss_cons (ps_if (pt_cmpR (kNotEq K hr.units) (pv 5) pe_str (nomark _))
  (pss_one (ps_set (i := 3) sc_law_mirrored.nd rfl (.inl rfl) (pe_op (kAdd K) (pe_op (kAdd K) (pv 3) pe_str) (pe_ifExp (pt_cmpR (kEq K hr.units) (pv 5) pe_str (nomark _)) pe_str pe_str))))
  pss_nil)
  (pss_one (ps_expr (kBm K PySem.F.plainAttrs_list PySem.F.slot_list_append PySem.F.type_list_append mt_append (pv 1) (pa_cons (pe_op (kAdd K) (pe_tup (pa_cons (pv 3) pa_nil)) (pe_slice (kSl K) (pv 2) (po_some pe_int) po_none)) pa_nil)))))))
  (pss_one (ps_ret (pe_callTy (kTuple K) (by rfl) B.tuple (by decide +kernel) (pa_cons (pv 1) pa_nil)))))), ?_⟩)
  rintro ds R ⟨m, rfl, hm, q⟩
  dsimp only [cxOf, Cx.nox, Cx.wish, DL.fill, List.map, List.length_cons, List.length_nil, List.length, Nat.reduceAdd, Nat.reduceSub, List.replicate, List.cons_append, List.nil_append]
  refine ss_seq (s_own (n_lst ?_))
  walk_at "ev"
  intro c
  dsimp only [updA, came, lent, List.set, List.getD_cons_zero, List.getD_cons_succ, List.getD, List.getElem?_cons_zero, List.getElem?_cons_succ, Option.getD_some, Option.getD]
  refine ss_seq (ss_for (ei_T ?_))
  walk_at "ev"
  refine ⟨_, rfl, fun i S => ∃ x2 x3 x4 x5, S = [.dat (dMask m), .own true c (.lst ((m.take i).map fun s => dStep (mirS s))), x2, x3, x4, x5], ⟨_, _, _, _, rfl⟩, ?_, ?_⟩
  · rintro i d S hd ⟨x2, x3, x4, x5, rfl⟩
    obtain ⟨s, hs, hsi, rfl⟩ := place hd
    have hok := hm.2 s hs
    have hm4 := hm.1
    have hi : i < m.length := (List.getElem?_eq_some_iff.mp hsi).1
    refine g_name ⟨rfl, ?_⟩
    dsimp only [updA, came, lent, List.set, List.getD_cons_zero, List.getD_cons_succ, List.getD, List.getElem?_cons_zero, List.getElem?_cons_succ, Option.getD_some, Option.getD]
    have fin : ∀ (nm : Str) (x4 x5 : Sl), (∃ ys, dStep (mirS s) = .tuple (.str nm :: ys) ∧ ∃ nm0, dStep s = .tuple (.str nm0 :: ys)) → SS K (tDrop (tBM K "list" rAppend (tVar 1) (tCons (tOp (uAddR K) (tTup (tCons (tVar 3) tNil)) (tSl (uSlR K) (tVar 2) (tPart (tC (V.int 1))) tNoPart)) tNil))) [.dat (dMask m), .own true c (.lst ((m.take i).map fun s => dStep (mirS s))), .dat (dStep s), .dat (.str nm), x4, x5] ⟨fun S => ∃ x2 x3 x4 x5, S = [.dat (dMask m), .own true c (.lst ((m.take (i + 1)).map fun s => dStep (mirS s))), x2, x3, x4, x5], fun d x => R d, fun S1 => SS K (tRet (tCB (rTupleOf K) (tCons (tVar 1) tNil))) S1 { nx := fun x => R PyData.none, rt := fun d x => R d }, fun S => ∃ x2 x3 x4 x5, S = [.dat (dMask m), .own true c (.lst ((m.take (i + 1)).map fun s => dStep (mirS s))), x2, x3, x4, x5]⟩ := by
      rintro nm x4 x5 ⟨ys, e1, nm0, e2⟩
      have hyl : ys.length ≤ 10 := by
        have : (PyData.str nm0 :: ys).length ≤ 2 := by
          cases s with
          | rev => rw [← PyData.tuple.inj e2]; simp
          | cnt k n => rw [← PyData.tuple.inj e2]; simp
        simp at this
        omega
      walk_at "ev"
      refine ee_append rfl ?_
      walk_at "ev"
      rw [e2]
      refine rs_T ?_
      rw [show (1 : Int) = ((1 : Nat) : Int) from rfl, cut_from, show List.drop 1 (PyData.str nm0 :: ys) = ys from rfl]
      refine rr_addT (by simp; omega) ?_
      walk_at "ev"
      refine ⟨_, _, rfl, rfl, by rw [List.length_map, List.length_take]; omega, ?_⟩
      dsimp only [updA, came, lent, List.set, List.getD_cons_zero, List.getD_cons_succ, List.getD, List.getElem?_cons_zero, List.getElem?_cons_succ, Option.getD_some, Option.getD]
      rw [List.take_add_one, hsi, List.map_append, show List.map (fun s => dStep (mirS s)) (some s).toList = [PyData.tuple (PyData.str nm :: ys)] from by rw [← e1]; rfl]
      exact ⟨_, _, _, _, rfl⟩
    refine ss_seq (ss_asg (ee_part ?_))
    cases s with
    | rev =>
      unfold dStep
      walk_at "ev"
      refine ⟨_, rfl, ?_⟩
      walk_at "ev"
      refine ⟨_, rfl, us_len, Nat.le_trans rev_len (by decide), ?_⟩
      refine ⟨_, rfl, gg_tup rfl (gg_cons (g_name ⟨rfl, gg_cons (g_name ⟨rfl, gg_cons (g_name ⟨rfl, gg_nil ?_⟩)⟩)⟩))⟩
      dsimp only [updA, came, lent, List.set, List.getD_cons_zero, List.getD_cons_succ, List.getD, List.getElem?_cons_zero, List.getElem?_cons_succ, Option.getD_some, Option.getD]
      walk_at "ev"
      rw [part_rev.1, part_rev.2]
      refine if_neS (fun z => absurd rfl z) (fun _ => ss_next ?_)
      exact fin _ _ _ ⟨[], rfl, _, rfl⟩
    | cnt k n =>
      unfold dStep
      walk_at "ev"
      refine ⟨_, rfl, ?_⟩
      walk_at "ev"
      refine ⟨_, rfl, us_len, Nat.le_trans (nm_len k) (by decide), ?_⟩
      refine ⟨_, rfl, gg_tup rfl (gg_cons (g_name ⟨rfl, gg_cons (g_name ⟨rfl, gg_cons (g_name ⟨rfl, gg_nil ?_⟩)⟩)⟩))⟩
      dsimp only [updA, came, lent, List.set, List.getD_cons_zero, List.getD_cons_succ, List.getD, List.getElem?_cons_zero, List.getElem?_cons_succ, Option.getD_some, Option.getD]
      walk_at "ev"
      have kinds : (k = .sq ∨ k = .sh) ∨ (k = .kf ∨ k = .hf ∨ k = .cf) ∨ (k = .kl ∨ k = .hl ∨ k = .cl) := by cases k <;> simp
      rcases kinds with h | h | h
      · obtain ⟨e1, e2⟩ := part_no k h
        rw [e1, e2]
        refine if_neS (fun z => absurd rfl z) (fun _ => ss_next ?_)
        refine fin _ _ _ ⟨[.int (n : Nat)], ?_, _, rfl⟩
        rcases h with rfl | rfl <;> rfl
      · obtain ⟨e1, e2, e3⟩ := part_first k h
        rw [e1]
        refine if_neS (fun _ => ?_) (fun z => absurd z ne_first)
        walk_at "ev"
        refine rr_addS (by rw [us_1]; omega) ?_
        walk_at "ev"
        refine if_eqS (fun _ => ?_) (fun z => absurd rfl z)
        walk_at "ev"
        refine rr_addS (by rw [strl, us_1, la_4]; omega) ?_
        rw [e2]
        refine letP_i rfl ?_
        dsimp only [updA, came, lent, List.set, List.getD_cons_zero, List.getD_cons_succ, List.getD, List.getElem?_cons_zero, List.getElem?_cons_succ, Option.getD_some, Option.getD]
        exact fin _ _ _ ⟨[.int (n : Nat)], rfl, _, rfl⟩
      · obtain ⟨e1, e2, e3⟩ := part_last k h
        rw [e1]
        refine if_neS (fun _ => ?_) (fun z => absurd z ne_last)
        walk_at "ev"
        refine rr_addS (by rw [us_1]; omega) ?_
        walk_at "ev"
        refine if_eqS (fun z => absurd z last_first) (fun _ => ?_)
        walk_at "ev"
        refine rr_addS (by rw [strl, us_1, fi_5]; omega) ?_
        rw [e2]
        refine letP_i rfl ?_
        dsimp only [updA, came, lent, List.set, List.getD_cons_zero, List.getD_cons_succ, List.getD, List.getElem?_cons_zero, List.getElem?_cons_succ, Option.getD_some, Option.getD]
        exact fin _ _ _ ⟨[.int (n : Nat)], rfl, _, rfl⟩
  · rintro S ⟨x2, x3, x4, x5, rfl⟩
    dsimp only
    rw [List.length_map, List.take_length]
    walk_at "ev"
    rw [show m.map (fun s => dStep (mirS s)) = (mirM m).map dStep from by unfold mirM; rw [List.map_map]; rfl]
    exact q
/-! law -/
theorem abc_ok : ∀ c ∈ (Str.ofString "abc").cps.toList, 97 ≤ c ∧ c ≤ 122 := by decide +kernel
theorem red_mir (r : Rel) : redL (mirR r) = redL r := by
  unfold redL
  have hl : (mirR r).length = r.length := List.length_map _
  rw [hl]
  refine List.filter_congr fun i hi => ?_
  have hi := List.mem_range.mp hi
  have h1 : (mirR r).getD i [] = mirM (r.getD i []) := by
    unfold mirR
    rw [List.getD_eq_getElem?_getD, List.getD_eq_getElem?_getD, List.getElem?_map, List.getElem?_eq_getElem hi]
    rfl
  have h2 : without (mirR r) i = mirR (without r i) := by
    unfold without mirR
    rw [List.map_append, List.map_take, List.map_drop]
  show (scex (without (mirR r) i) ((mirR r).getD i [])).isNone = (scex (without r i) (r.getD i [])).isNone
  rw [h1, h2]
  exact det_mir _ _
theorem isNone_opt (o : Option (List Nat)) : DL.isNone (dOpt o) = o.isNone := by cases o <;> rfl
theorem diff_mir {f g : Mask} (hf : okM 4 5 f) (hg : okM 4 5 g) : (diffL (mirM f) (mirM g)).isNone = (diffL f g).isNone ∧ ∀ l l', diffL f g = some l → diffL (mirM f) (mirM g) = some l' → l.length = l'.length := by
  have h := long_mir hf hg
  have hb : ∀ {f g : Mask}, okM 4 5 f → okM 4 5 g → ∀ l, diffL f g = some l → l.length < 99 := fun hf hg l h => by
    have := (diffL_some h).1.2.2
    have := bnd_le hf hg
    omega
  unfold longL at h
  cases h1 : diffL f g with
  | none =>
    cases h2 : diffL (mirM f) (mirM g) with
    | none => exact ⟨rfl, fun l l' z => by cases z⟩
    | some l =>
      rw [h1, h2] at h
      have := hb (mir_ok hf) (mir_ok hg) l h2
      have h : l.length = 99 := h
      omega
  | some l =>
    cases h2 : diffL (mirM f) (mirM g) with
    | none =>
      rw [h1, h2] at h
      have := hb hf hg l h1
      have h : 99 = l.length := h
      omega
    | some l' =>
      rw [h1, h2] at h
      refine ⟨rfl, fun a b z1 z2 => ?_⟩
      cases z1
      cases z2
      exact h.symm
theorem dRow_turn (m : Mask) (n : Nat) : (dRow (templ (mirM m) n)) = ((dRow (templ m n)).map fun d => match d with | .int i => PyData.int ((n : Int) - 1 - i) | d => d).reverse := by
  rw [templ_mir]
  unfold dRow
  rw [List.map_reverse, List.map_map, List.map_map]
  congr 1
  refine List.map_congr_left fun c hc => ?_
  cases c with
  | none => rfl
  | some i =>
    have := templ_lt hc
    show PyData.int ((n - 1 - i : Nat) : Int) = PyData.int ((n : Int) - 1 - (i : Int))
    congr 1
    omega
theorem dRowL_okD (r : List (Option Nat)) : okD (.list (dRow r)) = true := okD_of (n := 1) (okN_lst fun d hd => by
  obtain ⟨c, _, rfl⟩ := List.mem_map.mp hd
  exact dCell_ok c) (by decide)
theorem okD_refl {d : PyData} (h : okD d = true) : PyData.eqv d d = true := SeqAt.eqv_refl _ (SeqAt.canLay_of_shaped (okD_s h))
theorem dNs_okD (ns : List Nat) : okD (.list (dNs ns)) = true := dNn_okD ns
theorem sc_law : FnScope ["script", "town", "release", "text", "there", "back", "mask", "other", "many", "turned", "one", "two", "first", "then", "at"] ["script"] (defScope s_law) := ⟨rfl, rfl, rfl, by decide +kernel, rfl, by decide +kernel, by decide +kernel⟩
theorem ok_law (B : Bl mg) (Cc : Cs K mg) (d_law_string : Dx P w K mg base "_law_string" 3 ["script", "town", "letters", "most"] C_lstring) (d_law_release : Dx P w K mg base "_law_release" 4 ["script", "town", "many", "steps", "most"] C_lrel) (d_law_mirrored : Dx P w K mg base "_law_mirrored" 1 ["mask"] (pureC C_lmir)) (d_apply : Dx P w K mg base "apply" 5 ["mask", "string"] (pureC C_apply)) (d_law_run : Dx P w K mg base "_law_run" 2 ["mask", "text"] (pureC C_lrun)) (d_template : Dx P w K mg base "template" 5 ["mask", "length"] (pureC C_template)) (d_known : Dx P w K mg base "known" 7 ["release", "string"] (pureC C_known)) (d_known_from_end : Dx P w K mg base "known_from_end" 6 ["release", "string"] (pureC C_known_from_end)) (d_lengths : Dx P w K mg base "lengths" 6 ["release", "string"] (pureC C_lengths)) (d_group_size : Dx P w K mg base "group_size" 6 ["release", "string", "letters"] (pureC C_group_size)) (d_redundant : Dx P w K mg base "redundant" 6 ["release"] (pureC C_redundant)) (d_difference : Dx P w K mg base "difference" 5 ["mask", "other"] (pureC C_difference)) {f : Addr} {fd : FuncData} (F : FnP K "law" s_law f fd) : FnOk P w K mg base CX0 8 f fd ["script"] (spC K C_law) := by
  obtain ⟨f_law_string, fd_law_string, d_law_string⟩ := d_law_string
  obtain ⟨f_law_release, fd_law_release, d_law_release⟩ := d_law_release
  obtain ⟨f_law_mirrored, fd_law_mirrored, d_law_mirrored⟩ := d_law_mirrored
  obtain ⟨f_apply, fd_apply, d_apply⟩ := d_apply
  obtain ⟨f_law_run, fd_law_run, d_law_run⟩ := d_law_run
  obtain ⟨f_template, fd_template, d_template⟩ := d_template
  obtain ⟨f_known, fd_known, d_known⟩ := d_known
  obtain ⟨f_known_from_end, fd_known_from_end, d_known_from_end⟩ := d_known_from_end
  obtain ⟨f_lengths, fd_lengths, d_lengths⟩ := d_lengths
  obtain ⟨f_group_size, fd_group_size, d_group_size⟩ := d_group_size
  obtain ⟨f_redundant, fd_redundant, d_redundant⟩ := d_redundant
  obtain ⟨f_difference, fd_difference, d_difference⟩ := d_difference
  refine fn_by F sc_law (fun ds R h => by
    obtain ⟨_, _, rfl, _⟩ := h
    rfl) (fun cdv A outer s H E hr => ⟨_, (pss_cons (ps_set (i := 1) sc_law.nd rfl (.inl rfl) (pe_lst (pa_cons pe_int (pa_cons pe_int pa_nil))))
  (pss_cons (ps_par (i := 2) (j := 3) rfl sc_law.nd rfl rfl (by decide) rfl rfl (pa_cons (kCall K d_law_release hr (by decide) (by rfl) (pa_cons (pv 0) (pa_cons (pv 1) (pa_cons pe_int (pa_cons pe_int (pa_cons pe_int pa_nil)))))) (pa_cons (kCall K d_law_string hr (by decide) (by rfl) (pa_cons (pv 0) (pa_cons (pv 1) (pa_cons pe_str (pa_cons pe_int pa_nil))))) pa_nil)) (by rfl))
  (pss_cons (ps_par (i := 4) (j := 5) rfl sc_law.nd rfl rfl (by decide) rfl rfl (pa_cons (pe_callTy (kTuple K) (by rfl) B.tuple (by decide +kernel) (pa_cons (pe_lc (own := [("mask", 6)]) (g := gName 6) (tt := tYes) rfl sc_law.nd  (kAny K (pv 2)) (blkOk_by (by kernel_rfl)) (fun _ _ _ _ _ => (pg_name (i := 6) sc_law.nd rfl (Or.inl rfl))) (fun _ _ _ _ _ => pts_nil) (fun _ _ _ _ _ => (kCall K d_law_mirrored hr (by decide) (by rfl) (pa_cons (pv 6) pa_nil)))) pa_nil)) (pa_cons (kRev K (pv 3)) pa_nil)) (by rfl))
  (pss_cons (ps_for PassesOwn.never rfl (kZp K (by rfl) B.zip (pa_cons (pv 2) (pa_cons (pv 4) pa_nil))) (kTup K (n := 2) rfl (pgs_cons (pg_name (i := 6) sc_law.nd rfl (.inl rfl)) (pgs_cons (pg_name (i := 7) sc_law.nd rfl (.inl rfl)) pgs_nil)))
  (pss_cons (ps_if (PW.pt (pw_or (pt_cmpR (kNotEq K hr.units) (kCall K d_apply hr (by decide) (by rfl) (pa_cons (pv 7) (pa_cons (pv 5) pa_nil))) (kRev K (kCall K d_apply hr (by decide) (by rfl) (pa_cons (pv 6) (pa_cons (pv 3) pa_nil)))) (nomark _)) (pw_or1 (pt_cmpR (kNotEq K hr.units) (kCall K d_apply hr (by decide) (by rfl) (pa_cons (pv 7) (pa_cons (pv 5) pa_nil))) (kCall K d_law_run hr (by decide) (by rfl) (pa_cons (pv 7) (pa_cons (pv 5) pa_nil))) (nomark _)))))
  (pss_one (ps_ret pe_bl))
  pss_nil)
  (pss_cons (ps_set (i := 8) sc_law.nd rfl (.inr rfl) (pe_callB (kLen K) (by rfl) B.len PySem.boot_len (pa_cons (pv 3) pa_nil)))
  (pss_cons (ps_setLc (i := 9) (own := [("at", 14)]) (g := gName 14) (tt := tYes) rfl sc_law.nd rfl rfl (sw_true rfl rfl rfl (by decide +kernel)) (kAny K (kCall K d_template hr (by decide) (by rfl) (pa_cons (pv 6) (pa_cons (pv 8) pa_nil)))) (blkOk_by (by kernel_rfl)) (fun _ _ _ _ _ => (pg_name (i := 14) sc_law.nd rfl (Or.inl rfl))) (fun _ _ _ _ _ => pts_nil) (fun _ _ _ _ _ => (pe_ifExp (pt_cmpR uIs (pv 14) pe_non (nomark _)) pe_non (pe_op op_sub (pe_op op_sub (pv 8) pe_int) (pv 14)))))
  (pss_one (ps_if (pt_cmpR (kNotEq K hr.units) (pe_callTy (kList K rfl) (by rfl) B.list (by decide +kernel) (pa_cons (kCall K d_template hr (by decide) (by rfl) (pa_cons (pv 7) (pa_cons (pv 8) pa_nil))) pa_nil)) (kRev K (pv 9)) (nomark _))
  (pss_one (ps_ret pe_bl))
  pss_nil))))))
  (pss_cons (ps_if (pt_cmpR (kNotEq K hr.units) (kCall K d_known hr (by decide) (by rfl) (pa_cons (pv 4) (pa_cons (pv 5) pa_nil))) (kCall K d_known_from_end hr (by decide) (by rfl) (pa_cons (pv 2) (pa_cons (pv 3) pa_nil))) (nomark _))
  (pss_one (ps_ret pe_bl))
  pss_nil)
  (pss_cons (ps_if (pt_cmpR (kNotEq K hr.units) (kCall K d_known_from_end hr (by decide) (by rfl) (pa_cons (pv 4) (pa_cons (pv 5) pa_nil))) (kCall K d_known hr (by decide) (by rfl) (pa_cons (pv 2) (pa_cons (pv 3) pa_nil))) (nomark _))
  (pss_one (ps_ret pe_bl))
  pss_nil)
  (pss_cons (ps_if (pt_cmpR (kNotEq K hr.units) (kCall K d_lengths hr (by decide) (by rfl) (pa_cons (pv 4) (pa_cons (pv 5) pa_nil))) (kCall K d_lengths hr (by decide) (by rfl) (pa_cons (pv 2) (pa_cons (pv 3) pa_nil))) (nomark _))
  (pss_one (ps_ret pe_bl))
  pss_nil)
  (pss_cons (ps_if (pt_cmpR (kNotEq K hr.units) (kCall K d_group_size hr (by decide) (by rfl) (pa_cons (pv 4) (pa_cons (pv 5) (pa_cons pe_int pa_nil)))) (kCall K d_group_size hr (by decide) (by rfl) (pa_cons (pv 2) (pa_cons (pv 3) (pa_cons pe_int pa_nil)))) (nomark _))
  (pss_one (ps_ret pe_bl))
  pss_nil)
  (pss_cons (ps_if (pt_cmpR (kNotEq K hr.units) (kCall K d_redundant hr (by decide) (by rfl) (pa_cons (pv 4) pa_nil)) (kCall K d_redundant hr (by decide) (by rfl) (pa_cons (pv 2) pa_nil)) (nomark _))
  (pss_one (ps_ret pe_bl))
  pss_nil)
  (pss_cons (ps_for PassesOwn.never rfl (kZp K (by rfl) B.zip (pa_cons (pv 2) (pa_cons (pe_slice (kSl K) (pv 2) (po_some pe_int) po_none) pa_nil))) (kTup K (n := 2) rfl (pgs_cons (pg_name (i := 10) sc_law.nd rfl (.inl rfl)) (pgs_cons (pg_name (i := 11) sc_law.nd rfl (.inl rfl)) pgs_nil)))
  (pss_cons (ps_par (i := 12) (j := 13) rfl sc_law.nd rfl rfl (by decide) rfl rfl (pa_cons (kCall K d_difference hr (by decide) (by rfl) (pa_cons (pv 10) (pa_cons (pv 11) pa_nil))) (pa_cons (kCall K d_difference hr (by decide) (by rfl) (pa_cons (kCall K d_law_mirrored hr (by decide) (by rfl) (pa_cons (pv 10) pa_nil)) (pa_cons (kCall K d_law_mirrored hr (by decide) (by rfl) (pa_cons (pv 11) pa_nil)) pa_nil))) pa_nil)) (by rfl))
  (pss_one (ps_if (PW.pt (pw_or (pt_cmpR (kNotEq K hr.units) (pe_cmpR uIs (pv 12) pe_non (nomark _)) (pe_cmpR uIs (pv 13) pe_non (nomark _)) (nomark _)) (pw_or1 (PW.pt (pw_and (pt_cmpR uIsNot (pv 12) pe_non (nomark _)) (pw_and1 (pt_cmpR (kNotEq K hr.units) (pe_callB (kLen K) (by rfl) B.len PySem.boot_len (pa_cons (pv 12) pa_nil)) (pe_callB (kLen K) (by rfl) B.len PySem.boot_len (pa_cons (pv 13) pa_nil)) (nomark _))))))))
  (pss_one (ps_ret pe_bl))
  pss_nil))))
  (pss_one (ps_ret pe_bl)))))))))))), ?_⟩)
  rintro as R ⟨a, ns, rfl, hl, q⟩
  dsimp only [cxOf, Cx.nox, Cx.wish, DL.fill, List.map, List.length_cons, List.length_nil, List.length, Nat.reduceAdd, Nat.reduceSub, List.replicate, List.cons_append, List.nil_append]
  refine ss_seq (s_own (n_lst ?_))
  walk_at "ev"
  intro b
  dsimp only [updA, came, lent, List.set, List.getD_cons_zero, List.getD_cons_succ, List.getD, List.getElem?_cons_zero, List.getElem?_cons_succ, Option.getD_some, Option.getD]
  refine ss_seq (s_par (ea_cons (e_call ?_)))
  walk_at "ev"
  refine ⟨rfl, a, b, ns, 0, 0, 3, 3, 4, rfl, hl, ⟨by decide, by decide⟩, by decide, by decide, by decide, fun r t u hr1 hr2 ht => ⟨rfl, ?_⟩⟩
  dsimp only [updA, came, lent, List.set, List.getD_cons_zero, List.getD_cons_succ, List.getD, List.getElem?_cons_zero, List.getElem?_cons_succ, Option.getD_some, Option.getD]
  refine ea_cons (e_call ?_)
  walk_at "ev"
  refine ⟨rfl, a, b, ns, t, u, _, 9, rfl, hl, ht, by decide +kernel, by decide +kernel, by decide, fun s t u hs hc ht => ⟨rfl, ?_⟩⟩
  dsimp only [updA, came, lent, List.set, List.getD_cons_zero, List.getD_cons_succ, List.getD, List.getElem?_cons_zero, List.getElem?_cons_succ, Option.getD_some, Option.getD]
  walk_at "ev"
  refine ⟨_, _, rfl, rfl, rfl, ?_⟩
  dsimp only [updA, came, lent, List.set, List.getD_cons_zero, List.getD_cons_succ, List.getD, List.getElem?_cons_zero, List.getElem?_cons_succ, Option.getD_some, Option.getD]
  have hT : okT s := fun c h => abc_ok c (hc c h)
  have hT' := okT_rev hT
  have hs' : s.reverse.length ≤ 9 := by rw [List.length_reverse]; exact hs
  have kr : okR r := ⟨by omega, fun f hf => okM_mono (hr2 f hf) (by decide) (by decide)⟩
  have kr' := mirR_ok kr
  refine ss_seq (s_par (ea_cons ?_))
  walk_at "ev"
  refine e_new (n_mapI (gw_name (by simp)) (ei_T ?_))
  walk_at "ev"
  refine ⟨_, rfl, rfl, by rw [List.length_map]; omega, (mirR r).map dMask, by unfold mirR; simp, fun i d e hd he => ?_, ?_⟩
  · unfold mirR at he
    rw [List.map_map] at he
    obtain ⟨m, hm, _, rfl, rfl⟩ := places hd he
    refine g_name ⟨rfl, ?_⟩
    refine e_callP ?_
    walk_at "ev"
    exact ⟨m, rfl, kr.2 m hm, rfl, rfl⟩
  walk_at "ev"
  refine ee_revU ?_
  walk_at "ev"
  refine ⟨_, rfl, by rw [mkS_len]; omega, ?_⟩
  rw [revS_mk]
  walk_at "ev"
  refine ⟨_, _, rfl, rfl, rfl, ?_⟩
  dsimp only [updA, came, lent, List.set, List.getD_cons_zero, List.getD_cons_succ, List.getD, List.getElem?_cons_zero, List.getElem?_cons_succ, Option.getD_some, Option.getD]
  refine ss_seq (ss_for (ei_zp ?_))
  walk_at "ev"
  refine ⟨_, _, _, _, rfl, rfl, rfl, fun i S => ∃ x6 x7 x8 x9, S = [.own false a (.scr ns), .own true b (dTown t u), .dat (dRel r), .dat (.str (mkS s)), .dat (.tuple ((mirR r).map dMask)), .dat (.str (mkS s.reverse)), x6, x7, x8, x9, .no, .no, .no, .no, .no], ⟨_, _, _, _, rfl⟩, ?_, ?_⟩
  · rintro i d S hd ⟨x6, x7, x8, x9, rfl⟩
    have hd2 : (zipD (r.map dMask) ((mirR r).map dMask))[i]? = some d := hd
    rw [zipD_map] at hd2
    obtain ⟨⟨m, m'⟩, hz, hzi, rfl⟩ := place hd2
    have hm : m ∈ r ∧ m' = mirM m := by
      unfold mirR at hzi
      rw [List.zip_map_right, List.getElem?_map] at hzi
      cases hq : (r.zip r)[i]? with
      | none => rw [hq] at hzi; cases hzi
      | some p =>
        rw [hq] at hzi
        have hp := List.mem_of_getElem? hq
        have e1 : p.1 = p.2 := by
          have := List.getElem?_zip_eq_some.mp hq
          rw [this.1] at this
          exact Option.some.inj this.2
        have e2 := Option.some.inj hzi
        have e3 : p.1 = m := congrArg Prod.fst e2
        have e4 : mirM p.2 = m' := congrArg Prod.snd e2
        rw [← e3, ← e4, ← e1]
        exact ⟨(List.of_mem_zip hp).1, rfl⟩
    obtain ⟨hm, rfl⟩ := hm
    have km := kr.2 m hm
    have km' := mir_ok km
    refine gg_tup rfl (gg_cons (g_name ⟨rfl, gg_cons (g_name ⟨rfl, gg_nil ?_⟩)⟩))
    dsimp only [updA, came, lent, List.set, List.getD_cons_zero, List.getD_cons_succ, List.getD, List.getElem?_cons_zero, List.getElem?_cons_succ, Option.getD_some, Option.getD]
    have hrl := runT_len km s
    walk_at "ev"
    refine e_callP ?_
    walk_at "ev"
    refine ⟨mirM m, s.reverse, rfl, ⟨km', hT', by omega⟩, ?_⟩
    walk_at "ev"
    refine ee_revU (e_callP ?_)
    walk_at "ev"
    refine ⟨m, s, rfl, ⟨km, hT, by omega⟩, ?_⟩
    refine ⟨_, rfl, by rw [mkS_len]; omega, ?_⟩
    rw [revS_mk, run_mirT]
    walk_at "ev"
    refine if_neS (fun z => absurd rfl z) (fun _ => ?_)
    walk_at "ev"
    refine e_callP ?_
    walk_at "ev"
    refine ⟨mirM m, s.reverse, rfl, ⟨km', hT', by omega⟩, ?_⟩
    walk_at "ev"
    refine e_callP ?_
    walk_at "ev"
    refine ⟨mirM m, s.reverse, rfl, ⟨km', by omega⟩, ?_⟩
    walk_at "ev"
    refine if_neS (fun z => absurd rfl z) (fun _ => ss_next ?_)
    walk_at "ev"
    refine rb_lenS (by rw [mkS_len]; omega) ?_
    rw [mkS_len]
    walk_at "ev"
    dsimp only [updA, came, lent, List.set, List.getD_cons_zero, List.getD_cons_succ, List.getD, List.getElem?_cons_zero, List.getElem?_cons_succ, Option.getD_some, Option.getD]
    refine s_let (e_new (n_mapI (gw_name (by simp)) (ei_T (e_callP ?_))))
    walk_at "ev"
    refine ⟨m, s.length, rfl, ⟨km, by omega⟩, ?_⟩
    have htl := templ_len km s.length
    refine ⟨_, rfl, rfl, by rw [dRow_len]; omega, (dRow (templ m s.length)).map fun d => match d with | .int i => PyData.int ((s.length : Int) - 1 - i) | d => d, by simp, fun i d e hd he => ?_, ?_⟩
    · unfold dRow at hd he
      rw [List.map_map] at he
      obtain ⟨c, hcm, _, rfl, rfl⟩ := places hd he
      refine g_name ⟨rfl, ?_⟩
      dsimp only [updA, came, lent, List.set, List.getD_cons_zero, List.getD_cons_succ, List.getD, List.getElem?_cons_zero, List.getElem?_cons_succ, Option.getD_some, Option.getD]
      walk_at "ev"
      rw [isNone_cell]
      cases c with
      | none =>
        refine if_T rfl ?_
        walk_at "ev"
        exact ⟨rfl, rfl⟩
      | some i =>
        refine if_F rfl ?_
        unfold dCell
        walk_at "ev"
        exact ⟨rfl, rfl⟩
    walk_at "ev"
    dsimp only [updA, came, lent, List.set, List.getD_cons_zero, List.getD_cons_succ, List.getD, List.getElem?_cons_zero, List.getElem?_cons_succ, Option.getD_some, Option.getD]
    refine e_callP ?_
    walk_at "ev"
    refine ⟨mirM m, s.length, rfl, ⟨km', by omega⟩, ?_⟩
    walk_at "ev"
    refine rb_of_rbn (rbn_listT ?_)
    walk_at "ev"
    refine ee_revL ?_
    walk_at "ev"
    refine ⟨_, rfl, ?_⟩
    rw [← dRow_turn]
    refine rr_neD (dRowL_okD _) (dRowL_okD _) ?_
    rw [okD_refl (dRowL_okD _)]
    walk_at "ev"
    refine if_F rfl (ss_next ?_)
    exact ⟨_, _, _, _, rfl⟩
  rintro S ⟨x6, x7, x8, x9, rfl⟩
  dsimp only
  walk_at "ev"
  refine e_callP ?_
  walk_at "ev"
  refine ⟨mirR r, s.reverse, rfl, ⟨kr', hT', by omega⟩, ?_⟩
  walk_at "ev"
  refine e_callP ?_
  walk_at "ev"
  refine ⟨r, s, rfl, ⟨kr, hT, by omega⟩, ?_⟩
  rw [kno_mir hT]
  refine rr_neD (dPs_okD (kfe_small hT)) (dPs_okD (kfe_small hT)) ?_
  rw [okD_refl (dPs_okD (kfe_small hT))]
  walk_at "ev"
  refine if_F rfl (ss_next ?_)
  walk_at "ev"
  refine e_callP ?_
  walk_at "ev"
  refine ⟨mirR r, s.reverse, rfl, ⟨kr', hT', by omega⟩, ?_⟩
  walk_at "ev"
  refine e_callP ?_
  walk_at "ev"
  refine ⟨r, s, rfl, ⟨kr, hT, by omega⟩, ?_⟩
  rw [kfe_mir hT]
  refine rr_neD (dPs_okD (kno_small hT)) (dPs_okD (kno_small hT)) ?_
  rw [okD_refl (dPs_okD (kno_small hT))]
  walk_at "ev"
  refine if_F rfl (ss_next ?_)
  walk_at "ev"
  refine e_callP ?_
  walk_at "ev"
  refine ⟨mirR r, s.reverse, rfl, ⟨kr', hT', by omega⟩, ?_⟩
  walk_at "ev"
  refine e_callP ?_
  walk_at "ev"
  refine ⟨r, s, rfl, ⟨kr, hT, by omega⟩, ?_⟩
  rw [len_mir hT]
  refine rr_neD (dLen_okD _) (dLen_okD _) ?_
  rw [okD_refl (dLen_okD _)]
  walk_at "ev"
  refine if_F rfl (ss_next ?_)
  walk_at "ev"
  refine e_callP ?_
  walk_at "ev"
  refine ⟨mirR r, s.reverse, 3, rfl, ⟨kr', hT', by omega, by decide, by decide⟩, ?_⟩
  walk_at "ev"
  refine e_callP ?_
  walk_at "ev"
  refine ⟨r, s, 3, rfl, ⟨kr, hT, by omega, by decide, by decide⟩, ?_⟩
  rw [List.length_reverse, grp_mir]
  walk_at "ev"
  refine if_neI (fun z => absurd rfl z) (fun _ => ss_next ?_)
  walk_at "ev"
  refine e_callP ?_
  walk_at "ev"
  refine ⟨mirR r, rfl, kr', ?_⟩
  walk_at "ev"
  refine e_callP ?_
  walk_at "ev"
  refine ⟨r, rfl, kr, ?_⟩
  rw [red_mir]
  refine rr_neD (dNs_okD _) (dNs_okD _) ?_
  rw [okD_refl (dNs_okD _)]
  walk_at "ev"
  refine if_F rfl (ss_next ?_)
  refine ss_seq (ss_for (ei_zp ?_))
  walk_at "ev"
  refine rs_T ?_
  rw [show (1 : Int) = ((1 : Nat) : Int) from rfl, cut_from, ← List.map_drop]
  walk_at "ev"
  refine ⟨_, _, _, _, rfl, rfl, rfl, fun i S => ∃ x10 x11 x12 x13, S = [.own false a (.scr ns), .own true b (dTown t u), .dat (dRel r), .dat (.str (mkS s)), .dat (.tuple ((mirR r).map dMask)), .dat (.str (mkS s.reverse)), x6, x7, x8, x9, x10, x11, x12, x13, .no], ⟨_, _, _, _, rfl⟩, ?_, ?_⟩
  · rintro i d S hd ⟨x10, x11, x12, x13, rfl⟩
    have hd2 : (zipD (r.map dMask) ((r.drop 1).map dMask))[i]? = some d := hd
    rw [zipD_map] at hd2
    obtain ⟨⟨f, g⟩, hz, _, rfl⟩ := place hd2
    have hmem := List.of_mem_zip hz
    have kf := kr.2 f hmem.1
    have kg := kr.2 g (List.mem_of_mem_drop hmem.2)
    have kf' := mir_ok kf
    have kg' := mir_ok kg
    obtain ⟨d1, d2⟩ := diff_mir kf kg
    refine gg_tup rfl (gg_cons (g_name ⟨rfl, gg_cons (g_name ⟨rfl, gg_nil ?_⟩)⟩))
    dsimp only [updA, came, lent, List.set, List.getD_cons_zero, List.getD_cons_succ, List.getD, List.getElem?_cons_zero, List.getElem?_cons_succ, Option.getD_some, Option.getD]
    refine ss_seq (s_par (ea_cons (e_callP ?_)))
    walk_at "ev"
    refine ⟨f, g, rfl, ⟨kf, kg⟩, ?_⟩
    refine ea_cons (e_callP (ea_cons (e_callP ?_)))
    walk_at "ev"
    refine ⟨f, rfl, kf, ?_⟩
    refine ea_cons (e_callP ?_)
    walk_at "ev"
    refine ⟨g, rfl, kg, ?_⟩
    walk_at "ev"
    refine ⟨mirM f, mirM g, rfl, ⟨kf', kg'⟩, ?_⟩
    walk_at "ev"
    refine ⟨_, _, rfl, rfl, rfl, ?_⟩
    dsimp only [updA, came, lent, List.set, List.getD_cons_zero, List.getD_cons_succ, List.getD, List.getElem?_cons_zero, List.getElem?_cons_succ, Option.getD_some, Option.getD]
    walk_at "ev"
    rw [isNone_opt, isNone_opt, d1]
    refine if_F (by cases (diffL f g).isNone <;> rfl) ?_
    walk_at "ev"
    rw [isNone_opt]
    cases h1 : diffL f g with
    | none => exact if_F rfl (iteF (ss_next ⟨_, _, _, _, rfl⟩))
    | some l =>
      refine if_T rfl ?_
      cases h2 : diffL (mirM f) (mirM g) with
      | none => rw [h1, h2] at d1; cases d1
      | some l' =>
        have e := d2 l l' h1 h2
        have b1 := (diffL_some h1).1.2.2
        have b2 := (diffL_some h2).1.2.2
        have b3 := bnd_le kf kg
        have b4 := bnd_le kf' kg'
        unfold dOpt
        walk_at "ev"
        refine rb_lenS (by rw [mkS_len]; omega) ?_
        walk_at "ev"
        refine rb_lenS (by rw [mkS_len]; omega) ?_
        rw [mkS_len, mkS_len, e]
        walk_at "ev"
        refine if_neI (fun z => absurd rfl z) (fun _ => ss_next ⟨_, _, _, _, rfl⟩)
  rintro S ⟨x10, x11, x12, x13, rfl⟩
  dsimp only
  walk_at "ev"
  exact ⟨_, .own .nil, q _⟩
end
theorem facts {P : Program} {w : World} {K : PySem.W.Frag} {h : Heap} {mg : Str → Option Value} {f : Addr} (X : K.In h) (G : h.Ns mainGlobals mg) (hfa : mg ("law" : Str) = some (.ref f)) (c : SaysM faL fnL chkL K) :
    ∃ fd : FuncData, (∀ (s : Shared) (v : Value), BindsTo s fd ⟨[v], []⟩ [("script", v)]) ∧ ∀ base : Heap, K.In base → base.Ns mainGlobals mg → FnOk P w K mg base CX0 8 f fd ["script"] (spC K C_law) := by
  have B : Bl mg := ⟨He.free_ok X G (c.fact 43 (f := .free "len") rfl), He.free_ok X G (c.fact 44 (f := .free "range") rfl), He.free_ok X G (c.fact 45 (f := .free "isinstance") rfl), He.free_ok X G (c.fact 46 (f := .free "enumerate") rfl), He.free_ok X G (c.fact 47 (f := .free "zip") rfl), He.free_ok X G (c.fact 48 (f := .free "all") rfl), He.free_ok X G (c.fact 49 (f := .free "any") rfl), He.free_ok X G (c.fact 50 (f := .free "sum") rfl), He.free_ok X G (c.fact 51 (f := .free "max") rfl), He.free_ok X G (c.fact 52 (f := .free "min") rfl), He.free_ok X G (c.fact 53 (f := .free "list") rfl), He.free_ok X G (c.fact 54 (f := .free "tuple") rfl), He.free_ok X G (c.fact 55 (f := .free "int") rfl), He.free_ok X G (c.fact 56 (f := .free "str") rfl), He.free_ok X G (c.fact 57 (f := .free "bool") rfl), He.free_ok X G (c.fact 58 (f := .free "sorted") rfl), He.free_ok X G (c.fact 59 (f := .free "set") rfl), He.free_ok X G (c.fact 60 (f := .free "dict") rfl)⟩
  have ck : chkL K = true := c.bits.2
  unfold chkL at ck
  simp only [Bool.and_eq_true] at ck
  obtain ⟨ckN, ck_NAMES⟩ := ck
  have cs_LETTERS : ∃ u, mg "LETTERS" = some u ∧ RelV (.str "abcdefghijklmnopqrstuvwxyz") u := by
    obtain ⟨t, e⟩ := He.str_ok X G (c.fact 61 (f := .str "LETTERS" "abcdefghijklmnopqrstuvwxyz") rfl)
    exact ⟨_, e, t, rfl⟩
  have cs_LONGEST : ∃ u, mg "LONGEST" = some u ∧ RelV (.int 40) u := by
    obtain ⟨t, e⟩ := He.int_ok X G (c.fact 62 (f := .int "LONGEST" 40) rfl)
    exact ⟨_, e, t, rfl⟩
  have cs_STEPS : ∃ u, mg "STEPS" = some u ∧ RelV (.int 4) u := by
    obtain ⟨t, e⟩ := He.int_ok X G (c.fact 63 (f := .int "STEPS" 4) rfl)
    exact ⟨_, e, t, rfl⟩
  have cs_NUMBER : ∃ u, mg "NUMBER" = some u ∧ RelV (.int 5) u := by
    obtain ⟨t, e⟩ := He.int_ok X G (c.fact 64 (f := .int "NUMBER" 5) rfl)
    exact ⟨_, e, t, rfl⟩
  have cs_NAMES : ∃ u, (mg "NAMES" = some (.ref u) ∧ RelV (.ref u) (.ref u)) ∧ ∀ F, SqT K F u ((["keep_first", "keep_last", "hide_first", "hide_last", "cut_first", "cut_last", "squeeze", "short"] : List Str).map V.str) := ⟨_, ⟨He.glo_ok X G (c.fact 65 (f := .glo "NAMES") rfl), rfl⟩, fun F => He.tupB_ok ck_NAMES F⟩
  have cs_MASKS : ∃ u, mg "MASKS" = some u ∧ RelV (.int 3) u := by
    obtain ⟨t, e⟩ := He.int_ok X G (c.fact 66 (f := .int "MASKS" 3) rfl)
    exact ⟨_, e, t, rfl⟩
  have Cc : Cs K mg := ⟨cs_LETTERS, cs_LONGEST, cs_STEPS, cs_NUMBER, cs_NAMES, cs_MASKS⟩
  have F_is_count : Fp K mg "is_count" s_is_count := by
    obtain ⟨fd, F⟩ := c.def_ 0 (d := mkD "is_count" s_is_count) rfl
    exact ⟨_, fd, F, He.glo_ok X G (c.fact 0 (f := .glo "is_count") rfl)⟩
  have F_is_step : Fp K mg "is_step" s_is_step := by
    obtain ⟨fd, F⟩ := c.def_ 1 (d := mkD "is_step" s_is_step) rfl
    exact ⟨_, fd, F, He.glo_ok X G (c.fact 1 (f := .glo "is_step") rfl)⟩
  have F_is_mask : Fp K mg "is_mask" s_is_mask := by
    obtain ⟨fd, F⟩ := c.def_ 2 (d := mkD "is_mask" s_is_mask) rfl
    exact ⟨_, fd, F, He.glo_ok X G (c.fact 2 (f := .glo "is_mask") rfl)⟩
  have F_is_string : Fp K mg "is_string" s_is_string := by
    obtain ⟨fd, F⟩ := c.def_ 3 (d := mkD "is_string" s_is_string) rfl
    exact ⟨_, fd, F, He.glo_ok X G (c.fact 3 (f := .glo "is_string") rfl)⟩
  have F_need_mask : Fp K mg "need_mask" s_need_mask := by
    obtain ⟨fd, F⟩ := c.def_ 4 (d := mkD "need_mask" s_need_mask) rfl
    exact ⟨_, fd, F, He.glo_ok X G (c.fact 4 (f := .glo "need_mask") rfl)⟩
  have F_need_string : Fp K mg "need_string" s_need_string := by
    obtain ⟨fd, F⟩ := c.def_ 5 (d := mkD "need_string" s_need_string) rfl
    exact ⟨_, fd, F, He.glo_ok X G (c.fact 5 (f := .glo "need_string") rfl)⟩
  have F_squeezed : Fp K mg "squeezed" s_squeezed := by
    obtain ⟨fd, F⟩ := c.def_ 6 (d := mkD "squeezed" s_squeezed) rfl
    exact ⟨_, fd, F, He.glo_ok X G (c.fact 6 (f := .glo "squeezed") rfl)⟩
  have F_hidden : Fp K mg "hidden" s_hidden := by
    obtain ⟨fd, F⟩ := c.def_ 7 (d := mkD "hidden" s_hidden) rfl
    exact ⟨_, fd, F, He.glo_ok X G (c.fact 7 (f := .glo "hidden") rfl)⟩
  have F_stepped : Fp K mg "stepped" s_stepped := by
    obtain ⟨fd, F⟩ := c.def_ 8 (d := mkD "stepped" s_stepped) rfl
    exact ⟨_, fd, F, He.glo_ok X G (c.fact 8 (f := .glo "stepped") rfl)⟩
  have F_template_of : Fp K mg "template_of" s_template_of := by
    obtain ⟨fd, F⟩ := c.def_ 9 (d := mkD "template_of" s_template_of) rfl
    exact ⟨_, fd, F, He.glo_ok X G (c.fact 9 (f := .glo "template_of") rfl)⟩
  have F_output_of : Fp K mg "output_of" s_output_of := by
    obtain ⟨fd, F⟩ := c.def_ 10 (d := mkD "output_of" s_output_of) rfl
    exact ⟨_, fd, F, He.glo_ok X G (c.fact 10 (f := .glo "output_of") rfl)⟩
  have F_apply : Fp K mg "apply" s_apply := by
    obtain ⟨fd, F⟩ := c.def_ 11 (d := mkD "apply" s_apply) rfl
    exact ⟨_, fd, F, He.glo_ok X G (c.fact 11 (f := .glo "apply") rfl)⟩
  have F_template : Fp K mg "template" s_template := by
    obtain ⟨fd, F⟩ := c.def_ 12 (d := mkD "template" s_template) rfl
    exact ⟨_, fd, F, He.glo_ok X G (c.fact 12 (f := .glo "template") rfl)⟩
  have F_bound : Fp K mg "bound" s_bound := by
    obtain ⟨fd, F⟩ := c.def_ 13 (d := mkD "bound" s_bound) rfl
    exact ⟨_, fd, F, He.glo_ok X G (c.fact 13 (f := .glo "bound") rfl)⟩
  have F_is_release : Fp K mg "is_release" s_is_release := by
    obtain ⟨fd, F⟩ := c.def_ 14 (d := mkD "is_release" s_is_release) rfl
    exact ⟨_, fd, F, He.glo_ok X G (c.fact 14 (f := .glo "is_release") rfl)⟩
  have F_need_release : Fp K mg "need_release" s_need_release := by
    obtain ⟨fd, F⟩ := c.def_ 15 (d := mkD "need_release" s_need_release) rfl
    exact ⟨_, fd, F, He.glo_ok X G (c.fact 15 (f := .glo "need_release") rfl)⟩
  have F_head : Fp K mg "head" s_head := by
    obtain ⟨fd, F⟩ := c.def_ 16 (d := mkD "head" s_head) rfl
    exact ⟨_, fd, F, He.glo_ok X G (c.fact 16 (f := .glo "head") rfl)⟩
  have F_are_similar : Fp K mg "are_similar" s_are_similar := by
    obtain ⟨fd, F⟩ := c.def_ 17 (d := mkD "are_similar" s_are_similar) rfl
    exact ⟨_, fd, F, He.glo_ok X G (c.fact 17 (f := .glo "are_similar") rfl)⟩
  have F_equated : Fp K mg "equated" s_equated := by
    obtain ⟨fd, F⟩ := c.def_ 18 (d := mkD "equated" s_equated) rfl
    exact ⟨_, fd, F, He.glo_ok X G (c.fact 18 (f := .glo "equated") rfl)⟩
  have F_strings_of : Fp K mg "strings_of" s_strings_of := by
    obtain ⟨fd, F⟩ := c.def_ 19 (d := mkD "strings_of" s_strings_of) rfl
    exact ⟨_, fd, F, He.glo_ok X G (c.fact 19 (f := .glo "strings_of") rfl)⟩
  have F_parted : Fp K mg "parted" s_parted := by
    obtain ⟨fd, F⟩ := c.def_ 20 (d := mkD "parted" s_parted) rfl
    exact ⟨_, fd, F, He.glo_ok X G (c.fact 20 (f := .glo "parted") rfl)⟩
  have F_smallest_counterexample : Fp K mg "smallest_counterexample" s_smallest_counterexample := by
    obtain ⟨fd, F⟩ := c.def_ 21 (d := mkD "smallest_counterexample" s_smallest_counterexample) rfl
    exact ⟨_, fd, F, He.glo_ok X G (c.fact 21 (f := .glo "smallest_counterexample") rfl)⟩
  have F_redundant : Fp K mg "redundant" s_redundant := by
    obtain ⟨fd, F⟩ := c.def_ 22 (d := mkD "redundant" s_redundant) rfl
    exact ⟨_, fd, F, He.glo_ok X G (c.fact 22 (f := .glo "redundant") rfl)⟩
  have F_group_size : Fp K mg "group_size" s_group_size := by
    obtain ⟨fd, F⟩ := c.def_ 23 (d := mkD "group_size" s_group_size) rfl
    exact ⟨_, fd, F, He.glo_ok X G (c.fact 23 (f := .glo "group_size") rfl)⟩
  have F_shown_letters : Fp K mg "shown_letters" s_shown_letters := by
    obtain ⟨fd, F⟩ := c.def_ 24 (d := mkD "shown_letters" s_shown_letters) rfl
    exact ⟨_, fd, F, He.glo_ok X G (c.fact 24 (f := .glo "shown_letters") rfl)⟩
  have F_possible : Fp K mg "possible" s_possible := by
    obtain ⟨fd, F⟩ := c.def_ 25 (d := mkD "possible" s_possible) rfl
    exact ⟨_, fd, F, He.glo_ok X G (c.fact 25 (f := .glo "possible") rfl)⟩
  have F_lengths : Fp K mg "lengths" s_lengths := by
    obtain ⟨fd, F⟩ := c.def_ 26 (d := mkD "lengths" s_lengths) rfl
    exact ⟨_, fd, F, He.glo_ok X G (c.fact 26 (f := .glo "lengths") rfl)⟩
  have F_common : Fp K mg "common" s_common := by
    obtain ⟨fd, F⟩ := c.def_ 27 (d := mkD "common" s_common) rfl
    exact ⟨_, fd, F, He.glo_ok X G (c.fact 27 (f := .glo "common") rfl)⟩
  have F_known_of : Fp K mg "known_of" s_known_of := by
    obtain ⟨fd, F⟩ := c.def_ 28 (d := mkD "known_of" s_known_of) rfl
    exact ⟨_, fd, F, He.glo_ok X G (c.fact 28 (f := .glo "known_of") rfl)⟩
  have F_known : Fp K mg "known" s_known := by
    obtain ⟨fd, F⟩ := c.def_ 29 (d := mkD "known" s_known) rfl
    exact ⟨_, fd, F, He.glo_ok X G (c.fact 29 (f := .glo "known") rfl)⟩
  have F_known_from_end : Fp K mg "known_from_end" s_known_from_end := by
    obtain ⟨fd, F⟩ := c.def_ 30 (d := mkD "known_from_end" s_known_from_end) rfl
    exact ⟨_, fd, F, He.glo_ok X G (c.fact 30 (f := .glo "known_from_end") rfl)⟩
  have F_first_difference : Fp K mg "first_difference" s_first_difference := by
    obtain ⟨fd, F⟩ := c.def_ 31 (d := mkD "first_difference" s_first_difference) rfl
    exact ⟨_, fd, F, He.glo_ok X G (c.fact 31 (f := .glo "first_difference") rfl)⟩
  have F_showing : Fp K mg "showing" s_showing := by
    obtain ⟨fd, F⟩ := c.def_ 32 (d := mkD "showing" s_showing) rfl
    exact ⟨_, fd, F, He.glo_ok X G (c.fact 32 (f := .glo "showing") rfl)⟩
  have F_difference : Fp K mg "difference" s_difference := by
    obtain ⟨fd, F⟩ := c.def_ 33 (d := mkD "difference" s_difference) rfl
    exact ⟨_, fd, F, He.glo_ok X G (c.fact 33 (f := .glo "difference") rfl)⟩
  have F_law_draw : Fp K mg "_law_draw" s_law_draw := by
    obtain ⟨fd, F⟩ := c.def_ 34 (d := mkD "_law_draw" s_law_draw) rfl
    exact ⟨_, fd, F, He.glo_ok X G (c.fact 34 (f := .glo "_law_draw") rfl)⟩
  have F_law_pick : Fp K mg "_law_pick" s_law_pick := by
    obtain ⟨fd, F⟩ := c.def_ 35 (d := mkD "_law_pick" s_law_pick) rfl
    exact ⟨_, fd, F, He.glo_ok X G (c.fact 35 (f := .glo "_law_pick") rfl)⟩
  have F_law_mask : Fp K mg "_law_mask" s_law_mask := by
    obtain ⟨fd, F⟩ := c.def_ 36 (d := mkD "_law_mask" s_law_mask) rfl
    exact ⟨_, fd, F, He.glo_ok X G (c.fact 36 (f := .glo "_law_mask") rfl)⟩
  have F_law_string : Fp K mg "_law_string" s_law_string := by
    obtain ⟨fd, F⟩ := c.def_ 37 (d := mkD "_law_string" s_law_string) rfl
    exact ⟨_, fd, F, He.glo_ok X G (c.fact 37 (f := .glo "_law_string") rfl)⟩
  have F_law_step : Fp K mg "_law_step" s_law_step := by
    obtain ⟨fd, F⟩ := c.def_ 38 (d := mkD "_law_step" s_law_step) rfl
    exact ⟨_, fd, F, He.glo_ok X G (c.fact 38 (f := .glo "_law_step") rfl)⟩
  have F_law_run : Fp K mg "_law_run" s_law_run := by
    obtain ⟨fd, F⟩ := c.def_ 39 (d := mkD "_law_run" s_law_run) rfl
    exact ⟨_, fd, F, He.glo_ok X G (c.fact 39 (f := .glo "_law_run") rfl)⟩
  have F_law_release : Fp K mg "_law_release" s_law_release := by
    obtain ⟨fd, F⟩ := c.def_ 40 (d := mkD "_law_release" s_law_release) rfl
    exact ⟨_, fd, F, He.glo_ok X G (c.fact 40 (f := .glo "_law_release") rfl)⟩
  have F_law_mirrored : Fp K mg "_law_mirrored" s_law_mirrored := by
    obtain ⟨fd, F⟩ := c.def_ 41 (d := mkD "_law_mirrored" s_law_mirrored) rfl
    exact ⟨_, fd, F, He.glo_ok X G (c.fact 41 (f := .glo "_law_mirrored") rfl)⟩
  obtain ⟨fd, F⟩ := c.def_ 42 (d := mkD "law" s_law) rfl
  have e := hfa.symm.trans (He.glo_ok X G (c.fact 42 (f := .glo "law") rfl))
  cases e
  have b := FunD.bindsA (ps := ["script"]) F fun _ _ _ _ _ _ us hl => match us, hl with | [_], _ => rfl
  refine ⟨fd, fun s v => b s [v] rfl, fun base _ _ => ?_⟩
  have d_is_count : Dx P w K mg base "is_count" 1 ["value", "least", "most"] (pureC C_is_count) := dx_is_count B Cc  F_is_count
  have d_is_step : Dx P w K mg base "is_step" 2 ["value"] (pureC C_is_step) := dx_is_step B Cc d_is_count F_is_step
  have d_is_mask : Dx P w K mg base "is_mask" 3 ["value"] (pureC C_is_mask) := dx_is_mask B Cc d_is_step F_is_mask
  have d_is_string : Dx P w K mg base "is_string" 1 ["value"] (pureC C_is_string) := dx_is_string B Cc  F_is_string
  have d_need_mask : Dx P w K mg base "need_mask" 4 ["value"] (pureC C_need_mask) := dx_need_mask B Cc d_is_mask F_need_mask
  have d_need_string : Dx P w K mg base "need_string" 2 ["value"] (pureC C_need_string) := dx_need_string B Cc d_is_string F_need_string
  have d_squeezed : Dx P w K mg base "squeezed" 1 ["row", "count"] (pureC C_squeezed) := dx_squeezed B Cc  F_squeezed
  have d_hidden : Dx P w K mg base "hidden" 1 ["row", "start", "stop"] (pureC C_hidden) := dx_hidden B Cc  F_hidden
  have d_stepped : Dx P w K mg base "stepped" 2 ["step", "row"] (pureC C_stepped) := dx_stepped B Cc d_hidden d_squeezed F_stepped
  have d_template_of : Dx P w K mg base "template_of" 3 ["mask", "length"] (pureC C_template_of) := dx_template_of B Cc d_stepped F_template_of
  have d_output_of : Dx P w K mg base "output_of" 4 ["mask", "string"] (pureC C_output_of) := dx_output_of B Cc d_template_of F_output_of
  have d_apply : Dx P w K mg base "apply" 5 ["mask", "string"] (pureC C_apply) := dx_apply B Cc d_need_mask d_need_string d_output_of F_apply
  have d_template : Dx P w K mg base "template" 5 ["mask", "length"] (pureC C_template) := dx_template B Cc d_need_mask d_is_count d_template_of F_template
  have d_bound : Dx P w K mg base "bound" 1 ["masks"] (pureC C_bound) := dx_bound B Cc  F_bound
  have d_is_release : Dx P w K mg base "is_release" 4 ["value"] (pureC C_is_release) := dx_is_release B Cc d_is_mask F_is_release
  have d_need_release : Dx P w K mg base "need_release" 5 ["value"] (pureC C_need_release) := dx_need_release B Cc d_is_release F_need_release
  have d_head : Dx P w K mg base "head" 1 ["parents", "node"] C_head := dx_head B Cc  F_head
  have d_are_similar : Dx P w K mg base "are_similar" 1 ["one", "two"] (pureC C_are_similar) := dx_are_similar B Cc  F_are_similar
  have d_equated : Dx P w K mg base "equated" 2 ["rows", "others"] (pureC C_equated) := dx_equated B Cc d_are_similar d_head F_equated
  have d_strings_of : Dx P w K mg base "strings_of" 2 ["parents", "length", "other", "chosen"] (pureC C_strings_of) := dx_strings_of B Cc d_head F_strings_of
  have d_parted : Dx P w K mg base "parted" 3 ["parents", "one", "two", "length", "other"] (pureC C_parted) := dx_parted B Cc d_are_similar d_strings_of d_head F_parted
  have d_smallest_counterexample : Dx P w K mg base "smallest_counterexample" 4 ["release", "mask"] (pureC C_scex) := dx_smallest_counterexample B Cc d_bound d_template_of d_equated d_parted F_smallest_counterexample
  have d_redundant : Dx P w K mg base "redundant" 6 ["release"] (pureC C_redundant) := dx_redundant B Cc d_need_release d_smallest_counterexample F_redundant
  have d_group_size : Dx P w K mg base "group_size" 6 ["release", "string", "letters"] (pureC C_group_size) := dx_group_size B Cc d_need_release d_need_string d_is_count d_template_of F_group_size
  have d_shown_letters : Dx P w K mg base "shown_letters" 4 ["release", "outputs", "length"] (pureC C_shown) := dx_shown_letters B Cc d_template_of F_shown_letters
  have d_possible : Dx P w K mg base "possible" 5 ["release", "string"] (pureC C_possible) := dx_possible B Cc d_output_of d_bound d_shown_letters F_possible
  have d_lengths : Dx P w K mg base "lengths" 6 ["release", "string"] (pureC C_lengths) := dx_lengths B Cc d_need_release d_need_string d_possible F_lengths
  have d_common : Dx P w K mg base "common" 1 ["rows"] (pureC C_common) := dx_common B Cc  F_common
  have d_known_of : Dx P w K mg base "known_of" 6 ["release", "string"] (pureC C_known_of) := dx_known_of B Cc d_common d_possible F_known_of
  have d_known : Dx P w K mg base "known" 7 ["release", "string"] (pureC C_known) := dx_known B Cc d_need_release d_need_string d_known_of F_known
  have d_known_from_end : Dx P w K mg base "known_from_end" 6 ["release", "string"] (pureC C_known_from_end) := dx_known_from_end B Cc d_need_release d_need_string d_possible d_common F_known_from_end
  have d_first_difference : Dx P w K mg base "first_difference" 4 ["mask", "other"] (pureC C_first_difference) := dx_first_difference B Cc d_bound d_template_of F_first_difference
  have d_showing : Dx P w K mg base "showing" 1 ["length", "one", "two"] (pureC C_showing) := dx_showing B Cc  F_showing
  have d_difference : Dx P w K mg base "difference" 5 ["mask", "other"] (pureC C_difference) := dx_difference B Cc d_need_mask d_first_difference d_showing F_difference
  have d_law_draw : Dx P w K mg base "_law_draw" 1 ["script", "town", "many"] C_draw := dx_law_draw B Cc  F_law_draw
  have d_law_pick : Dx P w K mg base "_law_pick" 2 ["script", "town", "some"] C_pick := dx_law_pick B Cc d_law_draw F_law_pick
  have d_law_mask : Dx P w K mg base "_law_mask" 3 ["script", "town", "steps", "most"] C_lmask := dx_law_mask B Cc d_law_draw d_law_pick F_law_mask
  have d_law_string : Dx P w K mg base "_law_string" 3 ["script", "town", "letters", "most"] C_lstring := dx_law_string B Cc d_law_draw d_law_pick F_law_string
  have d_law_step : Dx P w K mg base "_law_step" 1 ["step", "text"] (pureC C_lstep) := dx_law_step B Cc  F_law_step
  have d_law_run : Dx P w K mg base "_law_run" 2 ["mask", "text"] (pureC C_lrun) := dx_law_run B Cc d_law_step F_law_run
  have d_law_release : Dx P w K mg base "_law_release" 4 ["script", "town", "many", "steps", "most"] C_lrel := dx_law_release B Cc d_law_draw d_law_mask F_law_release
  have d_law_mirrored : Dx P w K mg base "_law_mirrored" 1 ["mask"] (pureC C_lmir) := dx_law_mirrored B Cc  F_law_mirrored
  exact ok_law B Cc d_law_string d_law_release d_law_mirrored d_apply d_law_run d_template d_known d_known_from_end d_lengths d_group_size d_redundant d_difference F
end Mk
open PySem PySem.W PySem.Calls PyProof.Rows
set_option maxHeartbeats 0 in
theorem PySem.Challenge.cw_masking_k20_whole_mirrored_holds : PySem.Challenge.rw_masking_k20_whole_mirrored.Holds := by
  w_on; o_law
  refine HandSHeadRun.head_any (r := OpenLaw.row PySem.Challenge.rw_masking_k20_whole_mirrored) (q := view (OpenLaw.row PySem.Challenge.rw_masking_k20_whole_mirrored).prog [62]) (H := Mk.hk) (ob := Mk.ob) (M := 6000) (loose := Mk.loose) (d := HandSHeadRun.topDef (OpenLaw.row PySem.Challenge.rw_masking_k20_whole_mirrored).prog 62) (kwd := []) Mk.ob_eq
    (by kernel_rfl) (fun s => by kernel_rfl) Mk.run (by kernel_rfl) (by kernel_rfl) (by kernel_rfl) (by rfl) (by first | assumption | decide +kernel) (by decide +kernel) ⟨rfl, rfl, rfl, rfl, rfl, by decide +kernel⟩ ?hw ?hc
  case hw => w_witness2
  case hc =>
    refine L2.walk_ofE (l := PySem.Challenge.rw_masking_k20_whole_mirrored) (n := 63) (k := 8) (x := "script") (CX := L2.CX0) rfl (by decide) (by kernel_rfl) ⟨rfl, by decide, by decide⟩ ?F (fun _ _ _ _ z => z)
    intro w mg fa h Y G hmg0
    obtain ⟨K, KX, c⟩ := Y
    have hmg : mg ("law" : PySem.Str) = some (.ref fa) := by
      have e : (HandSHeadRun.topDef (OpenLaw.row PySem.Challenge.rw_masking_k20_whole_mirrored).prog 62).name = ("law" : PySem.Str) := by kernel_rfl
      rw [← e]
      exact hmg0
    obtain ⟨fd, hb, hF⟩ := Mk.facts (P := (PySem.Challenge.rw_masking_k20_whole_mirrored).prog) (w := w) KX G hmg c
    have ck := c.bits.2
    unfold Mk.chkL at ck
    simp only [Bool.and_eq_true] at ck
    exact ⟨K, fd, DL.spC K DL.C_law, KX, hb, fun H a ns hl _ hS => DL.law_starts (by first | exact ck | exact ck.1 | exact ck.1.1) H a ns hl hS _, hF⟩

