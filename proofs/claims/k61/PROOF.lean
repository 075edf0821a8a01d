import PyProof.Rows.All
import Wide.All
import OpenK.AllK
import Wide.FinOn
import PySem.Challenge.RW_sidebook_k61_stands_and_things_as_texts
import HandS.ForMost
import HandS.Exc
import HandS.TryOnly
import HandS.ExcOwn
import HandS.WordsExc
import HandS.IsInst
import HandS.Deep
import HandS.Defaults
import HandS.CallSlots
import HandS.Wide
import HandS.TupAny
import HandS.Style
import HandS.TryMany
import HandS.ExcIs
import HandS.HeadHook2
import HandS.HeadEnd
import HandS.Head0
import HandS.Head1
import HandS.Head2
import HandS.DictComp
import HandS.HeadHook3
import KE.KeyNested
import HandS.TupMul
import KE.KEqNest
import HandS.SetFor
import HandS.SortInts
import HandS.Flt
import HandS.SetKeys
import HandS.Iter
import HandS.More
import HandS.Conv
import HandS.Strs
import KE.KDictSum
import HandS.Finally
import PyProof.Rows.TupTab
set_option Elab.async false
set_option linter.all false
set_option maxRecDepth 100000
set_option maxHeartbeats 0
namespace Sb
open L2 PySem PySem.Spec PyProof.Rows
inductive Cst where
 | non | bl (b : Bool) | int (i : Int) | str (x : Str)
 deriving DecidableEq
def Cst.v : Cst → V
 | .non => .non
 | .bl b => .bl b
 | .int i => .int i
 | .str x => .str x
structure FnT where
 nm : Str
 dd : List (Nat × List Cst)
structure Tb where
 fn : List FnT
 cs : List Str
 gl : List (Str × Cst)
 bn : List Str
 ft : List (Nat × Str)
 me : List (Nat × Str × Nat × Nat × List Cst)
 mks : List (Nat × Str × Nat × Nat × List Cst)
 ex : List (Nat × Str)
 xn : List Str
 xm : List (Nat × Str × Bool)
 xi : List (Nat × Str × Bool)
 inh : List (Nat × Str × Str) := []
 ic : List (Nat × Str × Bool) := []
 tab : List (Str × List (Str × Cst)) := []
def Cst.w : Cst → He.Dv
 | .non => .non
 | .bl b => .bl b
 | .int i => .int i
 | .str x => .str x
theorem Cst.wv (c : Cst) (K : PySem.W.Frag) : c.w.v K = c.v := by cases c <;> rfl
def chK (K : PySem.W.Frag) (x : Str) : Value := match PySem.W.nsIn K mainGlobals x with
 | some (some v) => v
 | _ => (bootBuiltins x).getD .none
def glB0 (K : PySem.W.Frag) (x : Str) (c : Cst) : Bool := match PySem.W.nsIn K mainGlobals x with
 | some (some u) => He.relB c.v u
 | _ => false
def xnB (K : PySem.W.Frag) (x : Str) : Bool := match PySem.W.nsIn K mainGlobals x with
 | some (some (.ref _)) => true
 | some none => (match bootBuiltins x with
  | some (.type _) => !decide (x = "__name__")
  | _ => false)
 | _ => false
def vOf : Value → V
 | .ref a => .ref a
 | .type t => .ty t
 | _ => .non
def excB (K : PySem.W.Frag) (D : Addr) : Bool :=
 decide (PySem.W.findIn K (.ref D) "__getattribute__" = some (some (.builtin "BaseException.__getattribute__"))) && decide (PySem.W.findIn K (.ref D) "__getattr__" = some none) && decide (PySem.W.subIn K (.ref D) (.type "BaseException") = some true) &&
  PySem.W.hasDictIn K D && decide (PySem.W.findIn K (.ref D) "__class__" = some (some (.builtin "object.__class__"))) && decide (PySem.W.specialIn K (.builtin "object.__class__") "__get__" = some (some (.builtin "getset_descriptor.__get__"))) &&
  decide (PySem.W.takesIn K (.builtin "object.__class__") = some true) && decide (PySem.W.mroIn K D (.type "object") = some true)
def insB (K : PySem.W.Frag) (D : Addr) : Bool :=
 decide (PySem.W.findIn K (.ref D) "__class__" = some (some (.builtin "object.__class__"))) && decide (PySem.W.specialIn K (.builtin "object.__class__") "__get__" = some (some (.builtin "getset_descriptor.__get__"))) &&
  decide (PySem.W.takesIn K (.builtin "object.__class__") = some true) && decide (PySem.W.mroIn K D (.type "object") = some true)
def Tb.cn (T : Tb) (c : Nat) : Str := T.cs.getD c Str.empty
def Tb.ad (T : Tb) (K : PySem.W.Frag) (c : Nat) : Addr := He.ga K (T.cn c)
def Tb.okK (T : Tb) (K : PySem.W.Frag) : Bool :=
 T.bn.all (fun x => (He.Fa.free x).ok K) && T.gl.all (fun p => glB0 K p.1 p.2) && T.fn.all (fun t => t.dd.isEmpty || (He.Fa.glo t.nm).ok K) && T.ft.all (fun q => (He.Fa.cls (T.cn q.1)).ok K && (He.Fa.noat (T.cn q.1) q.2).ok K) &&
  T.me.all (fun q => (He.Fa.cls (T.cn q.1)).ok K && (He.Fa.meth (T.cn q.1) q.2.1).ok K) && T.mks.all (fun q => (He.Fa.glo q.2.1).ok K && (He.Fa.mkr q.2.1).ok K) && T.ex.all (fun q => (He.Fa.glo q.2).ok K && (He.Fa.exc q.2).ok K) &&
  T.xn.all (fun x => xnB K x) && T.xm.all (fun q => xnB K q.2.1 && decide (PySem.W.exmOne K (.ref (T.ad K q.1)) (chK K q.2.1) = some q.2.2)) &&
  T.xi.all (fun q => xnB K q.2.1 && excB K (T.ad K q.1) && decide (PySem.W.kitOne K (.ref (T.ad K q.1)) (chK K q.2.1) = some q.2.2)) &&
  T.inh.all (fun q => decide (He.ma K (T.ad K q.1) q.2.1 = He.fAd K (q.2.2, some q.2.1))) &&
  T.ic.all (fun q => xnB K q.2.1 && (He.Fa.cls (T.cn q.1)).ok K && insB K (T.ad K q.1) && decide (PySem.W.kitOne K (.ref (T.ad K q.1)) (chK K q.2.1) = some q.2.2)) &&
  T.tab.all (fun q => (He.Fa.glo q.1).ok K && He.valsB K (He.ga K q.1) (q.2.map fun p => (p.1, p.2.w)))
def Tb.seen (T : Tb) (K : PySem.W.Frag) : List (Option (List (Option (Str × Int)))) := T.tab.map fun q => He.dicW K (He.ga K q.1)
def Tb.keys (T : Tb) (P : Params) : List (Option (List (Option (Str × Int)))) := T.tab.map fun q => some (He.keysIn P (q.2.map (·.1)))
abbrev AlS : Type := (He.AlD × Bool) × List (Option (List (Option (Str × Int))))
def newA : List Addr → Nat → List Addr × Nat
 | [], m => ([], m)
 | a :: l, m => match Nat.beq (Nat.land (Nat.shiftRight m a) 1) 0 with
  | true => match newA l (Nat.lor m (Nat.shiftLeft 1 a)) with
   | (r, m') => (a :: r, m')
  | false => newA l m
def asW (g : Addr → Option Obj) : Nat → List Addr → Nat → List Addr
 | 0, l, _ => l
 | n + 1, l, m => match newA (l.flatMap fun a => match g a with | some o => He.refsD o | none => []) m with
  | (r, m') => l ++ asW g n r m'
def asWk (g : Addr → Option Obj) (n : Nat) : List Addr := asW g n [mainGlobals] (Nat.shiftLeft 1 mainGlobals)
def obsS (n : Nat) (T : Tb) (ds : List He.DefD) (g : Addr → Option Obj) : AlS := ((He.obsD [] ds (He.frG g (asWk g n)), T.okK (He.frG g (asWk g n))), T.seen (He.frG g (asWk g n)))
def hookS (n : Nat) (T : Tb) (ds : List He.DefD) : PySem.W.Hook where
 α := AlS
 obs := fun s => obsS n T ds s.heap.get?
 val := fun w => ((He.valD ds, true), T.keys w.params)
 says := fun w h => ∃ K : PySem.W.Frag, K.In h ∧ He.SaysD [] ds K ∧ T.okK K = true ∧ T.seen K = T.keys w.params
 of := fun _ _ e => ⟨_, He.frG_in, congrArg (fun z : AlS => z.1.1) e, congrArg (fun z : AlS => z.1.2) e, congrArg (fun z : AlS => z.2) e⟩
 keeps := fun _ _ _ ⟨K, hK, c⟩ k => ⟨K, PySem.W.Frag.In.keeps hK k, c⟩
def obS (n : Nat) (T : Tb) (ds : List He.DefD) (s : PySem.W.SharedT) : AlS := obsS n T ds (HandSHeadRun.getT s)
theorem obS_eq (n : Nat) (T : Tb) (ds : List He.DefD) (s : PySem.W.SharedT) : obS n T ds s = (hookS n T ds).obs s.abs := by
 have e : HandSHeadRun.getT s = s.abs.heap.get? := funext (HandSHeadRun.getT_eq s)
 unfold obS
 rw [e] <;> rfl
section
open PySem.W PySem.Calls
end
end Sb
namespace P
open Sb L2 PySem PySem.Spec PyProof.Rows
def T : Tb where
 fn := ([⟨"in_bounds", [(2, [])]⟩, ⟨"is_tie", [(1, [])]⟩, ⟨"are_shares", [(1, [])]⟩, ⟨"are_ties", [(1, [])]⟩, ⟨"is_stand", [(1, [])]⟩, ⟨"stand", [(3, [])]⟩, ⟨"is_made", [(1, [])]⟩, ⟨"is_thing", [(1, [])]⟩, ⟨"read_number", [(1, [])]⟩, ⟨"read_numbers", [(1, [])]⟩, ⟨"show_stand", [(1, [])]⟩, ⟨"stand_of", [(1, [])]⟩, ⟨"read_stand", [(1, [])]⟩, ⟨"show_thing", [(1, [])]⟩, ⟨"read_thing", [(1, [])]⟩, ⟨"_law_cell_at", [(2, [])]⟩, ⟨"_law_mixed", [(2, [])]⟩, ⟨"_law_amount", [(1, [])]⟩, ⟨"_law_share", [(1, [])]⟩, ⟨"_law_tie", [(3, [])]⟩, ⟨"_law_ties", [(1, [])]⟩, ⟨"_law_stand", [(2, [])]⟩, ⟨"_law_text", [(1, [])]⟩, ⟨"_law_kinds", [(1, [])]⟩] : List (FnT)) ++ ([⟨"law", [(1, [])]⟩] : List (FnT))
 cs := ["BookError", "NoStand", "NoText"]
 gl := [("MOST_DAY", .int 1000000), ("MOST_WORD", .int 59), ("MOST_COIN", .int 1000000000000), ("MOST_TIES", .int 6), ("MOST_NUMBER", .int 1000000), ("MOST_POT", .int 2), ("FIGURES", .str "0123456789"), ("MOST_FIGURES", .int 30)]
 bn := ["all", "bool", "int", "isinstance", "len", "range", "str", "tuple", "zip"]
 ft := []
 me := []
 mks := []
 ex := [(1, "NoStand"), (2, "NoText")]
 xn := []
 xm := []
 xi := []
 ic := []
 tab := []
 inh := []
abbrev rw0 := PySem.Challenge.rw_sidebook_k61_stands_and_things_as_texts
def top (i : Nat) : Stmt := rw0.prog.main.body.getD i (.Pass ⟨0, 0, 0, 0⟩)
def d0 : He.DefD := ⟨("in_bounds", none), "in_bounds", "in_bounds", defArgs (top 10), defBody (top 10), defScope (top 10), [], []⟩
def d1 : He.DefD := ⟨("is_tie", none), "is_tie", "is_tie", defArgs (top 11), defBody (top 11), defScope (top 11), [], []⟩
def d2 : He.DefD := ⟨("are_shares", none), "are_shares", "are_shares", defArgs (top 12), defBody (top 12), defScope (top 12), [], []⟩
def d3 : He.DefD := ⟨("are_ties", none), "are_ties", "are_ties", defArgs (top 13), defBody (top 13), defScope (top 13), [], []⟩
def d4 : He.DefD := ⟨("is_stand", none), "is_stand", "is_stand", defArgs (top 14), defBody (top 14), defScope (top 14), [], []⟩
def d5 : He.DefD := ⟨("stand", none), "stand", "stand", defArgs (top 15), defBody (top 15), defScope (top 15), [.non], []⟩
def d6 : He.DefD := ⟨("is_made", none), "is_made", "is_made", defArgs (top 18), defBody (top 18), defScope (top 18), [], []⟩
def d7 : He.DefD := ⟨("is_thing", none), "is_thing", "is_thing", defArgs (top 19), defBody (top 19), defScope (top 19), [], []⟩
def d8 : He.DefD := ⟨("read_number", none), "read_number", "read_number", defArgs (top 23), defBody (top 23), defScope (top 23), [], []⟩
def d9 : He.DefD := ⟨("read_numbers", none), "read_numbers", "read_numbers", defArgs (top 24), defBody (top 24), defScope (top 24), [], []⟩
def d10 : He.DefD := ⟨("show_stand", none), "show_stand", "show_stand", defArgs (top 25), defBody (top 25), defScope (top 25), [], []⟩
def d11 : He.DefD := ⟨("stand_of", none), "stand_of", "stand_of", defArgs (top 26), defBody (top 26), defScope (top 26), [], []⟩
def d12 : He.DefD := ⟨("read_stand", none), "read_stand", "read_stand", defArgs (top 27), defBody (top 27), defScope (top 27), [], []⟩
def d13 : He.DefD := ⟨("show_thing", none), "show_thing", "show_thing", defArgs (top 28), defBody (top 28), defScope (top 28), [], []⟩
def d14 : He.DefD := ⟨("read_thing", none), "read_thing", "read_thing", defArgs (top 29), defBody (top 29), defScope (top 29), [], []⟩
def d15 : He.DefD := ⟨("_law_cell_at", none), "_law_cell_at", "_law_cell_at", defArgs (top 31), defBody (top 31), defScope (top 31), [], []⟩
def d16 : He.DefD := ⟨("_law_mixed", none), "_law_mixed", "_law_mixed", defArgs (top 32), defBody (top 32), defScope (top 32), [], []⟩
def d17 : He.DefD := ⟨("_law_amount", none), "_law_amount", "_law_amount", defArgs (top 33), defBody (top 33), defScope (top 33), [], []⟩
def d18 : He.DefD := ⟨("_law_share", none), "_law_share", "_law_share", defArgs (top 34), defBody (top 34), defScope (top 34), [], []⟩
def d19 : He.DefD := ⟨("_law_tie", none), "_law_tie", "_law_tie", defArgs (top 35), defBody (top 35), defScope (top 35), [], []⟩
def d20 : He.DefD := ⟨("_law_ties", none), "_law_ties", "_law_ties", defArgs (top 36), defBody (top 36), defScope (top 36), [], []⟩
def d21 : He.DefD := ⟨("_law_stand", none), "_law_stand", "_law_stand", defArgs (top 37), defBody (top 37), defScope (top 37), [], []⟩
def d22 : He.DefD := ⟨("_law_text", none), "_law_text", "_law_text", defArgs (top 38), defBody (top 38), defScope (top 38), [], []⟩
def d23 : He.DefD := ⟨("_law_kinds", none), "_law_kinds", "_law_kinds", defArgs (top 39), defBody (top 39), defScope (top 39), [], []⟩
def d24 : He.DefD := ⟨("law", none), "law", "law", defArgs (top 40), defBody (top 40), defScope (top 40), [], []⟩
def ds : List He.DefD := [d0, d1, d2, d3, d4, d5, d6, d7, d8, d9, d10, d11, d12, d13, d14, d15, d16, d17, d18, d19, d20, d21, d22, d23, d24]
def vs : List (Nat × Nat × List Cst) := [(0, 2, []), (1, 1, []), (2, 1, []), (3, 1, []), (4, 1, []), (5, 3, []), (6, 1, []), (7, 1, []), (8, 1, []), (9, 1, []), (10, 1, []), (11, 1, []), (12, 1, []), (13, 1, []), (14, 1, []), (15, 2, []), (16, 2, []), (17, 1, []), (18, 1, []), (19, 3, []), (20, 1, []), (21, 2, []), (22, 1, []), (23, 1, []), (24, 1, [])]
def loose0 : List PySem.Str := ["BookError", "NoStand", "NoText", "MOST_NUMBER", "MOST_COIN", "MOST_TIES", "MOST_WORD", "MOST_DAY", "in_bounds", "is_tie", "are_shares", "are_ties", "is_stand", "stand", "MOST_POT", "is_made", "is_thing", "FIGURES", "MOST_FIGURES", "read_number", "read_numbers", "show_stand", "stand_of", "read_stand", "show_thing", "read_thing", "_law_cell_at", "_law_mixed", "_law_amount", "_law_share"]
def loose1 : List PySem.Str := ["_law_tie", "_law_ties", "_law_stand", "_law_text", "_law_kinds"]
def loose : List PySem.Str := loose0 ++ loose1
abbrev RR : PySem.W.OpenRow := PySem.W.OpenLaw.row rw0
theorem run (w : World) : HandSHeadRun.RunEq RR (PySem.W.view RR.prog [40]) (hookS 4 T ds) (obS 4 T ds) 6000 loose w := by
 intro os
 kernel_rfl
end P
namespace Sb
open PySem L2
inductive D where
 | non | bl (b : Bool) | int (i : Int) | str (x : Str)
 | tup (l : List D) | lst (l : List D) | dct (l : List (Key × D)) | ins (c : Nat) (fs : List (Str × D)) | ref (n : Nat) | scr (l : List Int)
inductive O where
 | lst (l : List D) | dct (l : List (Key × D)) | ins (c : Nat) (fs : List (Str × D)) | lck (o : O) | dkn (ks : List NestedKey)
abbrev Hh := List O
abbrev En := List (Option D)
inductive R (α : Type) where
 | ok (a : α) (h : Hh) | exc (c : Nat) (fs : List (Str × D)) (h : Hh) | fail
def R.bind {α β : Type} (r : R α) (k : α → Hh → R β) : R β := match r with
 | .ok a h => k a h
 | .exc c fs h => .exc c fs h
 | .fail => .fail
inductive RS where
 | nx (e : En) (h : Hh) | rt (d : D) (h : Hh) | bk (e : En) (h : Hh) | ct (e : En) (h : Hh) | exc (c : Nat) (fs : List (Str × D)) (e : En) (h : Hh) | fail
structure Cg where
 K : PySem.W.Frag
 cad : Nat → Addr
 w : World
structure Cf extends Cg where
 cur : Option (Nat × Nat × Addr)
instance : Coe Cf Cg := ⟨Cf.toCg⟩
def SqF (K : PySem.W.Frag) (H : Hp) (a : Addr) (xs : List V) : Prop := (∃ o, H a = some (.frz o (.lst xs))) ∨
 ∃ (o : Obj) (its : Array Value) (n : Nat), K.lookup a = some o ∧ o.cls = .type "list" ∧ o.dict = none ∧ o.data = .seq its n ∧ its.size ≤ sizeLine ∧ Vals xs its.toList
theorem SqF.sq {K : PySem.W.Frag} {H : Hp} {a : Addr} {xs : List V} (h : SqF K H a xs) : SqL K H a xs := h.elim (fun h => .inl (.inr h)) .inr
theorem sqF_of {K : PySem.W.Frag} {H : Hp} {a : Addr} {xs : List V} (h : SqL K H a xs) (o : Only H) : SqF K H a xs := by
 rcases h with (h | h) | h
 ·rcases o a with z | ⟨_, _, z⟩ <;> rw [z] at h <;> cases h
 ·exact .inl h
 ·exact .inr h
structure Rho where
 r : Nat → Addr
 n : Nat
 B : Addr → Prop
mutual
inductive VD (G : Cg) (S : Rho) (H : Hp) : D → V → Prop
 | non : VD G S H .non .non
 | bl (b : Bool) : VD G S H (.bl b) (.bl b)
 | int (i : Int) : VD G S H (.int i) (.int i)
 | str (x : Str) : VD G S H (.str x) (.str x)
 | tup {l : List D} {a : Addr} {vs : List V} : SqT G.K H a vs → VDs G S H l vs → VD G S H (.tup l) (.ref a)
 | scr {ns : List Int} {a : Addr} : SqF G.K H a (ns.map V.int) → VD G S H (.scr ns) (.ref a)
 | lst {l : List D} {a : Addr} {vs : List V} : H a = some (.lst vs) → ¬ S.B a → VDs G S H l vs → VD G S H (.lst l) (.ref a)
 | dct {l : List (Key × D)} {a : Addr} {vs : List (Key × V)} : Rd H a (.dK vs) → ¬ S.B a → VDk G S H l vs → VD G S H (.dct l) (.ref a)
 | ins {c : Nat} {fs : List (Str × D)} {a dx : Addr} {gs : List (Str × V)} : H a = some (.ins (G.cad c) dx gs) → ¬ S.B a → VDf G S H fs gs → VD G S H (.ins c fs) (.ref a)
 | ref {i : Nat} : i < S.n → VD G S H (.ref i) (.ref (S.r i))
inductive VDs (G : Cg) (S : Rho) (H : Hp) : List D → List V → Prop
 | nil : VDs G S H [] []
 | cons {d : D} {v : V} {l : List D} {vs : List V} : VD G S H d v → VDs G S H l vs → VDs G S H (d :: l) (v :: vs)
inductive VDk (G : Cg) (S : Rho) (H : Hp) : List (Key × D) → List (Key × V) → Prop
 | nil : VDk G S H [] []
 | cons {k : Key} {d : D} {v : V} {l : List (Key × D)} {vs : List (Key × V)} : VD G S H d v → VDk G S H l vs → VDk G S H ((k, d) :: l) ((k, v) :: vs)
inductive VDf (G : Cg) (S : Rho) (H : Hp) : List (Str × D) → List (Str × V) → Prop
 | nil : VDf G S H [] []
 | cons {k : Str} {d : D} {v : V} {l : List (Str × D)} {vs : List (Str × V)} : VD G S H d v → VDf G S H l vs → VDf G S H ((k, d) :: l) ((k, v) :: vs)
end
mutual
def nk : D → Option NestedKey
 | .non => some .none
 | .bl b => some (.num (if b = true then 1 else 0))
 | .int i => some (.num i)
 | .str x => some (.text x)
 | .tup l => (nks l).map .tup
 | _ => none
def nks : List D → Option (List NestedKey)
 | [] => some []
 | d :: l => match nk d, nks l with
  | some k, some ks => some (k :: ks)
  | _, _ => none
end
mutual
inductive NV (K : PySem.W.Frag) (H : Hp) : NestedKey → V → Prop
 | non : NV K H .none .non
 | bl (b : Bool) : NV K H (.num (if b = true then 1 else 0)) (.bl b)
 | int (i : Int) : NV K H (.num i) (.int i)
 | str (x : Str) : NV K H (.text x) (.str x)
 | tup {ks : List NestedKey} {a : Addr} {vs : List V} : SqT K H a vs → NVs K H ks vs → NV K H (.tup ks) (.ref a)
inductive NVs (K : PySem.W.Frag) (H : Hp) : List NestedKey → List V → Prop
 | nil : NVs K H [] []
 | cons {k : NestedKey} {v : V} {ks : List NestedKey} {vs : List V} : NV K H k v → NVs K H ks vs → NVs K H (k :: ks) (v :: vs)
end
mutual
theorem NV.to {K : PySem.W.Frag} {H H1 : Hp} (q : ∀ a xs, SqT K H a xs → SqT K H1 a xs) : ∀ {k : NestedKey} {v : V}, NV K H k v → NV K H1 k v
 | _, _, .non => .non
 | _, _, .bl b => .bl b
 | _, _, .int i => .int i
 | _, _, .str x => .str x
 | _, _, .tup a b => .tup (q _ _ a) (NVs.to q b)
theorem NVs.to {K : PySem.W.Frag} {H H1 : Hp} (q : ∀ a xs, SqT K H a xs → SqT K H1 a xs) : ∀ {k : List NestedKey} {v : List V}, NVs K H k v → NVs K H1 k v
 | _, _, .nil => .nil
 | _, _, .cons a b => .cons (NV.to q a) (NVs.to q b)
end
mutual
theorem nk_at {G : Cg} {S : Rho} {H : Hp} : ∀ {d : D} {v : V} {k : NestedKey}, VD G S H d v → nk d = some k → NV G.K H k v
 | _, _, _, .non, e => by cases e; exact .non
 | _, _, _, .bl b, e => by cases e; exact .bl b
 | _, _, _, .int b, e => by cases e; exact .int b
 | _, _, _, .str b, e => by cases e; exact .str b
 | _, _, k, .tup (l := l) a b, e => by
  have e2 : (nks l).map NestedKey.tup = some k := e
  obtain ⟨ks, e3, rfl⟩ := Option.map_eq_some_iff.mp e2
  exact .tup a (nks_at b e3)
 | _, _, _, .scr a, e => by cases e
 | _, _, _, .lst a b c, e => by cases e
 | _, _, _, .dct a b c, e => by cases e
 | _, _, _, .ins a b c, e => by cases e
 | _, _, _, .ref a, e => by cases e
theorem nks_at {G : Cg} {S : Rho} {H : Hp} : ∀ {l : List D} {vs : List V} {ks : List NestedKey}, VDs G S H l vs → nks l = some ks → NVs G.K H ks vs
 | _, _, _, .nil, e => by cases e; exact .nil
 | _, _, ks, .cons (d := d) (l := l) a b, e => by
  have e2 : (match nk d, nks l with | some k, some ks => some (k :: ks) | _, _ => none) = some ks := e
  split at e2
  ·rename_i k ks' q1 q2
   cases e2
   exact .cons (nk_at a q1) (nks_at b q2)
  ·cases e2
end
def NkO (w : World) (a : Addr) (xs : List (NestedKey × Addr)) : HO := .ext fun h => ∃ o es ep, h.get? a = some o ∧ o.ExactDict ∧ o.data = .dict es ep ∧ es.toList = xs.map fun x => (⟨x.1.hash w, .ref x.2, .bool true⟩ : DictEntry)
inductive OD (G : Cg) (S : Rho) (H : Hp) (a : Addr) : O → Prop
 | lst {l : List D} {vs : List V} : H a = some (.lst vs) → VDs G S H l vs → OD G S H a (.lst l)
 | dct {l : List (Key × D)} {vs : List (Key × V)} : H a = some (.dK vs) → VDk G S H l vs → OD G S H a (.dct l)
 | ins {c : Nat} {fs : List (Str × D)} {dx : Addr} {gs : List (Str × V)} : H a = some (.ins (G.cad c) dx gs) → VDf G S H fs gs → OD G S H a (.ins c fs)
 | lckL {l : List D} {vs : List V} : H a = some (.lst vs) → VDs G S H l vs → OD G S H a (.lck (.lst l))
 | lckD {l : List (Key × D)} {vs : List (Key × V)} {ob : Obj} : H a = some (.frz ob (.dK vs)) → VDk G S H l vs → OD G S H a (.lck (.dct l))
 | dkn {ks : List NestedKey} {xs : List (NestedKey × Addr)} : H a = some (NkO G.w a xs) → (∀ x ∈ xs, NV G.K H x.1 (.ref x.2) ∧ x.1.depth ≤ 8) → xs.map (·.1) = ks → ks.Nodup → ks.length ≤ 16777216 → (a == sysModules) = false → OD G S H a (.dkn ks)
theorem VDs.length {G : Cg} {S : Rho} {H : Hp} : ∀ {l : List D} {vs : List V}, VDs G S H l vs → l.length = vs.length
 | _, _, .nil => rfl
 | _, _, .cons _ t => congrArg Nat.succ t.length
theorem VDs.append {G : Cg} {S : Rho} {H : Hp} : ∀ {l m : List D} {vs ws : List V}, VDs G S H l vs → VDs G S H m ws → VDs G S H (l ++ m) (vs ++ ws)
 | _, _, _, _, .nil, b => b
 | _, _, _, _, .cons a t, b => .cons a (t.append b)
theorem VDs.drop {G : Cg} {S : Rho} {H : Hp} : ∀ {l : List D} {vs : List V} (n : Nat), VDs G S H l vs → VDs G S H (l.drop n) (vs.drop n)
 | _, _, 0, t => t
 | _, _, _ + 1, .nil => .nil
 | _, _, n + 1, .cons _ t => t.drop n
theorem VDs.take {G : Cg} {S : Rho} {H : Hp} : ∀ {l : List D} {vs : List V} (n : Nat), VDs G S H l vs → VDs G S H (l.take n) (vs.take n)
 | _, _, 0, _ => .nil
 | _, _, _ + 1, .nil => .nil
 | _, _, n + 1, .cons a t => .cons a (t.take n)
theorem VDs.get {G : Cg} {S : Rho} {H : Hp} : ∀ {l : List D} {vs : List V} {i : Nat} {d : D}, VDs G S H l vs → l[i]? = some d → ∃ v, vs[i]? = some v ∧ VD G S H d v
 | _, _, _, _, .nil, e => by simp at e
 | _, _, 0, _, .cons a _, e => by simp at e; subst e; exact ⟨_, rfl, a⟩
 | _, _, i + 1, d, .cons _ t, e => by
  obtain ⟨v, h1, h2⟩ := VDs.get (i := i) (d := d) t (by simpa using e)
  exact ⟨v, by simpa using h1, h2⟩
theorem VDs.set {G : Cg} {S : Rho} {H : Hp} {d : D} {v : V} (r : VD G S H d v) : ∀ {l : List D} {vs : List V} (i : Nat), VDs G S H l vs → VDs G S H (l.set i d) (vs.set i v)
 | _, _, _, .nil => .nil
 | _, _, 0, .cons _ t => .cons r t
 | _, _, i + 1, .cons q t => .cons q (VDs.set r i t)
theorem VDs.ints {G : Cg} {S : Rho} {H : Hp} : ∀ (ns : List Int), VDs G S H (ns.map D.int) (ns.map V.int)
 | [] => .nil
 | n :: ns => .cons (.int n) (VDs.ints ns)
structure Rel (G : Cg) (S : Rho) (h : Hh) (H : Hp) : Prop where
 len : h.length = S.n
 bad : ∀ i, i < S.n → S.B (S.r i)
 inj : ∀ i j, i < S.n → j < S.n → S.r i = S.r j → i = j
 live : ∀ b, S.B b → H b ≠ none
 obj : ∀ i o, h[i]? = some o → OD G S H (S.r i) o
structure Nx (G : Cg) (S : Rho) (H : Hp) (S' : Rho) (H' : Hp) : Prop where
 n : S.n ≤ S'.n
 r : ∀ i, i < S.n → S'.r i = S.r i
 new : ∀ i, S.n ≤ i → i < S'.n → H (S'.r i) = none
 up : ∀ b, S.B b → S'.B b
 dn : ∀ b, S'.B b → S.B b ∨ H b = none
 keep : ∀ b u, (∀ i, i < S.n → S.r i ≠ b) → H b = some u → H' b = some u
 there : ∀ b, H b ≠ none → H' b ≠ none
 seqT : ∀ a xs, SqT G.K H a xs → SqT G.K H' a xs
 seqF : ∀ a xs, SqF G.K H a xs → SqF G.K H' a xs
 frz : ∀ b o u, H b = some (.frz o u) → H' b = some (.frz o u)
section
variable {G : Cg} {S S1 S2 : Rho} {H H1 H2 : Hp}
theorem Nx.refl : Nx G S H S H := ⟨Nat.le_refl _, fun _ _ => rfl, fun i a b => absurd b (Nat.not_lt.mpr a), fun _ z => z, fun _ z => .inl z, fun _ _ _ e => e, fun _ e => e, fun _ _ e => e, fun _ _ e => e, fun _ _ _ e => e⟩
theorem Nx.trans (a : Nx G S H S1 H1) (b : Nx G S1 H1 S2 H2) : Nx G S H S2 H2 where
 n := Nat.le_trans a.n b.n
 r := fun i hi => (b.r i (Nat.lt_of_lt_of_le hi a.n)).trans (a.r i hi)
 new := fun i h1 h2 => by
  by_cases hi : i < S1.n
  ·rw [b.r i hi]; exact a.new i h1 hi
  ·have q := b.new i (Nat.not_lt.mp hi) h2
   cases e : H (S2.r i) with
   | none => rfl
   | some u => exact absurd q (a.there _ (by rw [e]; simp))
 up := fun c z => b.up c (a.up c z)
 dn := fun c z => by
  rcases b.dn c z with z | z
  ·exact a.dn c z
  ·cases e : H c with
   | none => exact .inr rfl
   | some u => exact absurd z (a.there c (by rw [e]; simp))
 keep := fun c u h e => b.keep c u (fun i hi z => by
  by_cases hn : i < S.n
  ·exact h i hn ((a.r i hn).symm.trans z)
  ·have q := a.new i (Nat.not_lt.mp hn) hi
   rw [z, e] at q; cases q) (a.keep c u h e)
 there := fun c e => b.there c (a.there c e)
 seqT := fun c xs e => b.seqT c xs (a.seqT c xs e)
 seqF := fun c xs e => b.seqF c xs (a.seqF c xs e)
 frz := fun c o u e => b.frz c o u (a.frz c o u e)
theorem Nx.badNe (R : ∀ i, i < S.n → S.B (S.r i)) {a : Addr} (nb : ¬ S.B a) : ∀ i, i < S.n → S.r i ≠ a := fun i hi e => nb (e ▸ R i hi)
theorem Nx.nb (N : Nx G S H S1 H1) {a : Addr} (nb : ¬ S.B a) (e : H a ≠ none) : ¬ S1.B a := fun z => by
 rcases N.dn a z with z | z
 ·exact nb z
 ·exact e z
theorem Rd.ne_none {a : Addr} {u : HO} (r : Rd H a u) : H a ≠ none := by
 rcases r with r | ⟨o, r⟩ <;> rw [r] <;> simp
theorem Nx.rd (N : Nx G S H S1 H1) (R : ∀ i, i < S.n → S.B (S.r i)) {a : Addr} {u : HO} (nb : ¬ S.B a) (e : Rd H a u) : Rd H1 a u := by
 rcases e with e | ⟨o, e⟩
 ·exact .inl (N.keep a _ (Nx.badNe R nb) e)
 ·exact .inr ⟨o, N.keep a _ (Nx.badNe R nb) e⟩
mutual
theorem VD.mono (N : Nx G S H S1 H1) (R : ∀ i, i < S.n → S.B (S.r i)) : ∀ {d : D} {v : V}, VD G S H d v → VD G S1 H1 d v
 | _, _, .non => .non
 | _, _, .bl b => .bl b
 | _, _, .int b => .int b
 | _, _, .str b => .str b
 | _, _, .tup a b => .tup (N.seqT _ _ a) (VDs.mono N R b)
 | _, _, .scr a => .scr (N.seqF _ _ a)
 | _, _, .lst a b c => .lst (N.keep _ _ (Nx.badNe R b) a) (N.nb b (by rw [a]; simp)) (VDs.mono N R c)
 | _, _, .dct a b c => .dct (N.rd R b a) (N.nb b (Rd.ne_none a)) (VDk.mono N R c)
 | _, _, .ins a b c => .ins (N.keep _ _ (Nx.badNe R b) a) (N.nb b (by rw [a]; simp)) (VDf.mono N R c)
 | _, _, .ref hi => by rw [← N.r _ hi]; exact .ref (Nat.lt_of_lt_of_le hi N.n)
theorem VDs.mono (N : Nx G S H S1 H1) (R : ∀ i, i < S.n → S.B (S.r i)) : ∀ {d : List D} {v : List V}, VDs G S H d v → VDs G S1 H1 d v
 | _, _, .nil => .nil
 | _, _, .cons a b => .cons (VD.mono N R a) (VDs.mono N R b)
theorem VDk.mono (N : Nx G S H S1 H1) (R : ∀ i, i < S.n → S.B (S.r i)) : ∀ {d : List (Key × D)} {v : List (Key × V)}, VDk G S H d v → VDk G S1 H1 d v
 | _, _, .nil => .nil
 | _, _, .cons a b => .cons (VD.mono N R a) (VDk.mono N R b)
theorem VDf.mono (N : Nx G S H S1 H1) (R : ∀ i, i < S.n → S.B (S.r i)) : ∀ {d : List (Str × D)} {v : List (Str × V)}, VDf G S H d v → VDf G S1 H1 d v
 | _, _, .nil => .nil
 | _, _, .cons a b => .cons (VD.mono N R a) (VDf.mono N R b)
end
end
structure EnR (G : Cf) (S : Rho) (H : Hp) (e : En) (σ : L2.St) : Prop where
 len : e.length = σ.length
 at_ : ∀ (i : Nat) (d : D), e[i]? = some (some d) → ∃ v : V, σ[i]? = some (some v) ∧ VD G S H d v
 cur : ∀ (i c : Nat) (a : Addr), G.cur = some (i, c, a) → σ[i]? = some (some (.ref a)) ∧ e[i]? = some none
theorem EnR.mono {G : Cf} {S S1 : Rho} {H H1 : Hp} {e : En} {σ : St} (E : EnR G S H e σ) (N : Nx G S H S1 H1) (R : ∀ i, i < S.n → S.B (S.r i)) : EnR G S1 H1 e σ :=
 ⟨E.len, fun i d h => let ⟨v, a, b⟩ := E.at_ i d h; ⟨v, a, b.mono N R⟩, E.cur⟩
def ExD (G : Cg) (S : Rho) (H : Hp) (fs : List (Str × D)) (d : Option Addr) : Prop := (fs = [] ∧ d = none) ∨ (fs ≠ [] ∧ ∃ dd gs, d = some dd ∧ H dd = some (.xd gs) ∧ VDf G S H fs gs)
abbrev Wq := Value → Option Addr → Hp → Prop
def Pst (G : Cg) (W : Wq) (S : Rho) (H : Hp) {α β : Type} (rel : Rho → Hp → α → β → Prop) (r : R α) (Q : β → Hp → Prop) : Prop := match r with
 | .ok a h' => ∀ S' H' v, Nx G S H S' H' → Rel G S' h' H' → rel S' H' a v → Q v H'
 | .exc c fs h' => ∀ S' H' d, Nx G S H S' H' → Rel G S' h' H' → ExD G S' H' fs d → W (.ref (G.cad c)) d H'
 | .fail => False
theorem Pst.mono {G : Cg} {W : Wq} {S S1 : Rho} {H H1 : Hp} {α β : Type} {rel : Rho → Hp → α → β → Prop} {r : R α} {Q : β → Hp → Prop} (P : Pst G W S H rel r Q) (N : Nx G S H S1 H1) : Pst G W S1 H1 rel r Q := by
 cases r with
 | ok a h' => exact fun S' H' v n R x => P S' H' v (N.trans n) R x
 | exc c fs h' => exact fun S' H' d n R x => P S' H' d (N.trans n) R x
 | fail => exact P
theorem Pst.bind {G : Cg} {W : Wq} {S : Rho} {H : Hp} {α β γ δ : Type} {rel : Rho → Hp → α → β → Prop} {rel' : Rho → Hp → γ → δ → Prop} {r : R α} {k : α → Hh → R γ} {Q : δ → Hp → Prop} {Q' : β → Hp → Prop}
  (P : Pst G W S H rel' (r.bind k) Q) (step : ∀ a h1 S1 H1 v, r = .ok a h1 → Nx G S H S1 H1 → Rel G S1 h1 H1 → rel S1 H1 a v → Pst G W S1 H1 rel' (k a h1) Q → Q' v H1) : Pst G W S H rel r Q' := by
 cases r with
 | ok a h1 => exact fun S1 H1 v N R x => step a h1 S1 H1 v rfl N R x (Pst.mono (r := k a h1) P N)
 | exc c fs h' => exact P
 | fail => exact P
theorem Pst.imp {G : Cg} {W : Wq} {S : Rho} {H : Hp} {α β : Type} {rel : Rho → Hp → α → β → Prop} {r : R α} {Q Q' : β → Hp → Prop} (P : Pst G W S H rel r Q) (f : ∀ v H', Q v H' → Q' v H') : Pst G W S H rel r Q' := by
 cases r with
 | ok a h' => exact fun S' H' v n R x => f _ _ (P S' H' v n R x)
 | exc c fs h' => exact P
 | fail => exact P
theorem Pst.here {G : Cg} {W : Wq} {S : Rho} {H : Hp} {α β : Type} {rel : Rho → Hp → α → β → Prop} {a : α} {h : Hh} {v : β} {Q : β → Hp → Prop} (P : Pst G W S H rel (.ok a h) Q) (R : Rel G S h H) (x : rel S H a v) : Q v H := P S H v .refl R x
abbrev relV (G : Cg) : Rho → Hp → D → V → Prop := fun S H => VD G S H
abbrev relVs (G : Cg) : Rho → Hp → List D → List V → Prop := fun S H => VDs G S H
abbrev relB : Rho → Hp → Bool → Bool → Prop := fun _ _ a b => a = b
def tX (G : Cf) (W : WX) {α β : Type} (rel : Rho → Hp → α → β → Prop) (f : En → Hh → R α) : L2.St → Hp → (β → Hp → Prop) → Prop := fun σ H Q => ∃ S h e, Rel G S h H ∧ EnR G S H e σ ∧ Pst G (fun c d H => W c d σ H) S H rel (f e h) Q
abbrev tE (G : Cf) (W : WX) (f : En → Hh → R D) : TE := tX G W (relV G) f
abbrev tT (G : Cf) (W : WX) (f : En → Hh → R Bool) : TT := tX G W relB f
abbrev tA (G : Cf) (W : WX) (f : En → Hh → R (List D)) : TA := tX G W (relVs G) f
def PstS (G : Cf) (W : WX) (S : Rho) (H : Hp) (r : RS) (Z : Ends) : Prop := match r with
 | .nx e h => ∀ S' H' σ', Nx G S H S' H' → Rel G S' h H' → EnR G S' H' e σ' → Z.nx σ' H'
 | .rt d h => ∀ S' H' v, Nx G S H S' H' → Rel G S' h H' → VD G S' H' d v → Z.rt v H'
 | .bk e h => ∀ S' H' σ', Nx G S H S' H' → Rel G S' h H' → EnR G S' H' e σ' → Z.bk σ' H'
 | .ct e h => ∀ S' H' σ', Nx G S H S' H' → Rel G S' h H' → EnR G S' H' e σ' → Z.ct σ' H'
 | .exc c fs e h => ∀ S' H' σ' d, Nx G S H S' H' → Rel G S' h H' → EnR G S' H' e σ' → ExD G S' H' fs d → W (.ref (G.cad c)) d σ' H'
 | .fail => False
theorem PstS.mono {G : Cf} {W : WX} {S S1 : Rho} {H H1 : Hp} {r : RS} {Z : Ends} (P : PstS G W S H r Z) (N : Nx G S H S1 H1) : PstS G W S1 H1 r Z := by
 cases r with
 | nx e h => exact fun S' H' v n R x => P S' H' v (N.trans n) R x
 | rt e h => exact fun S' H' v n R x => P S' H' v (N.trans n) R x
 | bk e h => exact fun S' H' v n R x => P S' H' v (N.trans n) R x
 | ct e h => exact fun S' H' v n R x => P S' H' v (N.trans n) R x
 | exc c fs e h => exact fun S' H' σ' d n R x y => P S' H' σ' d (N.trans n) R x y
 | fail => exact P
def tS (G : Cf) (W : WX) (f : En → Hh → RS) : TS := fun Z σ H => ∃ S h e, Rel G S h H ∧ EnR G S H e σ ∧ PstS G W S H (f e h) Z
theorem PE.imp {X : Cx} {e : Expr} {t t' : TE} (p : PE X e t) (h : ∀ σ H Q, t' σ H Q → t σ H Q) : PE X e t' := ⟨fun pins s σ H Q I q => p.run pins s σ H Q I (h σ H Q q)⟩
theorem PT.imp {X : Cx} {e : Expr} {t t' : TT} (p : PT X e t) (h : ∀ σ H Q, t' σ H Q → t σ H Q) : PT X e t' := ⟨fun pins s σ H Q I q => p.run pins s σ H Q I (h σ H Q q)⟩
theorem PW.imp {X : Cx} {e : Expr} {t t' : TT} (p : PW X e t) (h : ∀ σ H Q, t' σ H Q → t σ H Q) : PW X e t' := ⟨fun w pins s σ H Q I q => p.run w pins s σ H Q I (h σ H Q q)⟩
theorem PA.imp {X : Cx} {e : List Expr} {t t' : TA} (p : PA X e t) (h : ∀ σ H Q, t' σ H Q → t σ H Q) : PA X e t' := ⟨fun ps pins s σ H Q I q => p.run ps pins s σ H Q I (h σ H Q q)⟩
theorem PS.imp {X : Cx} {e : Stmt} {t t' : TS} (p : PS X e t) (h : ∀ Z σ H, t' Z σ H → t Z σ H) : PS X e t' := ⟨fun pins s σ H Z I q => p.run pins s σ H Z I (h Z σ H q)⟩
theorem PSs.imp {X : Cx} {e : List Stmt} {t t' : TS} (p : PSs X e t) (h : ∀ Z σ H, t' Z σ H → t Z σ H) : PSs X e t' := ⟨fun pins s σ H Z I q => p.run pins s σ H Z I (h Z σ H q)⟩
theorem Nx.same {G : Cg} {S : Rho} {H H1 : Hp} (k : ∀ b u, H b = some u → H1 b = some u) : Nx G S H S H1 where
 n := Nat.le_refl _
 r := fun _ _ => rfl
 new := fun i a b => absurd b (Nat.not_lt.mpr a)
 up := fun _ z => z
 dn := fun _ z => .inl z
 keep := fun b u _ e => k b u e
 there := fun b e => by
  cases q : H b with
  | none => exact absurd q e
  | some u => rw [k b u q]; simp
 seqT := fun a xs e => by
  rcases e with (e | ⟨o, e⟩) | e
  ·exact .inl (.inl (k _ _ e))
  ·exact .inl (.inr ⟨o, k _ _ e⟩)
  ·exact .inr e
 seqF := fun a xs e => by
  rcases e with ⟨o, e⟩ | e
  ·exact .inl ⟨o, k _ _ e⟩
  ·exact .inr e
 frz := fun b o u e => k _ _ e
theorem OD.mono {G : Cg} {S S1 : Rho} {H H1 : Hp} {a : Addr} {o : O} (h : OD G S H a o) (N : Nx G S H S1 H1) (R : ∀ i, i < S.n → S.B (S.r i)) (e : ∀ u, H a = some u → H1 a = some u) : OD G S1 H1 a o := by
 cases h with
 | lst q v => exact .lst (e _ q) (v.mono N R)
 | dct q v => exact .dct (e _ q) (v.mono N R)
 | ins q v => exact .ins (e _ q) (v.mono N R)
 | lckL q v => exact .lckL (e _ q) (v.mono N R)
 | lckD q v => exact .lckD (e _ q) (v.mono N R)
 | dkn q v a b c d => exact .dkn (e _ q) (fun x hx => ⟨(v x hx).1.to N.seqT, (v x hx).2⟩) a b c d
theorem Rel.same {G : Cg} {S : Rho} {h : Hh} {H H1 : Hp} (R : Rel G S h H) (k : ∀ b u, H b = some u → H1 b = some u) : Rel G S h H1 :=
 ⟨R.len, R.bad, R.inj, fun b z => (Nx.same (G := G) (S := S) k).there b (R.live b z), fun i o e => (R.obj i o e).mono (.same k) R.bad fun u q => k _ u q⟩
theorem keeps_new {H : Hp} {p : Addr} {o : HO} (hp : H p = none) : ∀ b u, H b = some u → upd H p o b = some u := fun b u e => by rw [upd_ne (ne_of_none e hp)]; exact e
theorem Rel.nb {G : Cg} {S : Rho} {h : Hh} {H : Hp} (R : Rel G S h H) {p : Addr} (hp : H p = none) : ¬ S.B p := fun z => R.live p z hp
theorem new_tup {G : Cg} {S : Rho} {h : Hh} {H : Hp} {l : List D} {vs : List V} {p : Addr} (R : Rel G S h H) (r : VDs G S H l vs) (hp : H p = none) :
  Nx G S H S (upd H p (.tup vs)) ∧ Rel G S h (upd H p (.tup vs)) ∧ VD G S (upd H p (.tup vs)) (.tup l) (.ref p) :=
 ⟨.same (keeps_new hp), R.same (keeps_new hp), .tup (SqT.of upd_same) (r.mono (.same (keeps_new hp)) R.bad)⟩
theorem new_lst {G : Cg} {S : Rho} {h : Hh} {H : Hp} {l : List D} {vs : List V} {p : Addr} (R : Rel G S h H) (r : VDs G S H l vs) (hp : H p = none) :
  Nx G S H S (upd H p (.lst vs)) ∧ Rel G S h (upd H p (.lst vs)) ∧ VD G S (upd H p (.lst vs)) (.lst l) (.ref p) :=
 ⟨.same (keeps_new hp), R.same (keeps_new hp), .lst upd_same (R.nb hp) (r.mono (.same (keeps_new hp)) R.bad)⟩
theorem new_dct {G : Cg} {S : Rho} {h : Hh} {H : Hp} {l : List (Key × D)} {vs : List (Key × V)} {p : Addr} (R : Rel G S h H) (r : VDk G S H l vs) (hp : H p = none) :
  Nx G S H S (upd H p (.dK vs)) ∧ Rel G S h (upd H p (.dK vs)) ∧ VD G S (upd H p (.dK vs)) (.dct l) (.ref p) :=
 ⟨.same (keeps_new hp), R.same (keeps_new hp), .dct (.inl upd_same) (R.nb hp) (r.mono (.same (keeps_new hp)) R.bad)⟩
def Rho.push (S : Rho) (p : Addr) : Rho := ⟨fun i => if i = S.n then p else S.r i, S.n + 1, fun b => S.B b ∨ b = p⟩
theorem Nx.push {G : Cg} {S : Rho} {H : Hp} {p : Addr} {o : HO} (hp : H p = none) : Nx G S H (S.push p) (upd H p o) where
 n := Nat.le_succ _
 r := fun i hi => if_neg (Nat.ne_of_lt hi)
 new := fun i h1 h2 => by
  have e : i = S.n := Nat.le_antisymm (Nat.le_of_lt_succ h2) h1
  subst e
  show H (if S.n = S.n then p else S.r S.n) = none
  rw [if_pos rfl]; exact hp
 up := fun b z => .inl z
 dn := fun b z => z.elim .inl fun e => .inr (by rw [e]; exact hp)
 keep := fun b u _ e => keeps_new hp b u e
 there := (Nx.same (G := G) (S := S) (keeps_new hp)).there
 seqT := (Nx.same (G := G) (S := S) (keeps_new hp)).seqT
 seqF := (Nx.same (G := G) (S := S) (keeps_new hp)).seqF
 frz := (Nx.same (G := G) (S := S) (keeps_new hp)).frz
theorem Rel.push {G : Cg} {S : Rho} {h : Hh} {H : Hp} {p : Addr} {u : HO} {o : O} (R : Rel G S h H) (hp : H p = none) (ho : OD G (S.push p) (upd H p u) p o) : Rel G (S.push p) (h ++ [o]) (upd H p u) where
 len := by rw [List.length_append, R.len]; rfl
 bad := fun i hi => by
  show S.B (if i = S.n then p else S.r i) ∨ (if i = S.n then p else S.r i) = p
  by_cases e : i = S.n
  ·rw [if_pos e]; exact .inr rfl
  ·rw [if_neg e]; exact .inl (R.bad i (by have h2 : i < S.n + 1 := hi; omega))
 inj := fun i j hi hj e => by
  have hi2 : i < S.n + 1 := hi
  have hj2 : j < S.n + 1 := hj
  have e2 : (if i = S.n then p else S.r i) = (if j = S.n then p else S.r j) := e
  have np : ∀ k, k < S.n → S.r k ≠ p := fun k hk z => R.nb hp (z ▸ R.bad k hk)
  by_cases a : i = S.n
  ·by_cases b : j = S.n
   ·rw [a, b]
   ·rw [if_pos a, if_neg b] at e2
    exact absurd e2.symm (np j (by omega))
  ·by_cases b : j = S.n
   ·rw [if_neg a, if_pos b] at e2
    exact absurd e2 (np i (by omega))
   ·rw [if_neg a, if_neg b] at e2
    exact R.inj i j (by omega) (by omega) e2
 live := fun b z => by
  rcases z with z | z
  ·exact (Nx.same (G := G) (S := S) (keeps_new hp)).there b (R.live b z)
  ·rw [z, upd_same]; simp
 obj := fun i q e => by
  by_cases hi : i < S.n
  ·have e2 : h[i]? = some q := by rw [List.getElem?_append_left (by rw [R.len]; exact hi)] at e; exact e
   have r : (S.push p).r i = S.r i := if_neg (Nat.ne_of_lt hi)
   rw [r]
   exact (R.obj i q e2).mono (.push hp) R.bad fun u z => keeps_new hp _ u z
  ·have hl := R.len
   rw [List.getElem?_append_right (by omega)] at e
   by_cases z : i = S.n
   ·subst z
    rw [hl, Nat.sub_self] at e
    cases e
    have r : (S.push p).r S.n = p := if_pos rfl
    rw [r]; exact ho
   ·rw [List.getElem?_eq_none (by simp; omega)] at e
    cases e
theorem Nx.write {G : Cg} {S : Rho} {h : Hh} {H : Hp} {i : Nat} {u o : HO} (R : Rel G S h H) (hi : i < S.n) (he : H (S.r i) = some u) (hm : ∀ xs, u ≠ .tup xs) (hf : ∀ ob v, u ≠ .frz ob v) : Nx G S H S (upd H (S.r i) o) where
 n := Nat.le_refl _
 r := fun _ _ => rfl
 new := fun i a b => absurd b (Nat.not_lt.mpr a)
 up := fun _ z => z
 dn := fun _ z => .inl z
 keep := fun b v n e => by rw [upd_ne (fun z => n i hi z.symm)]; exact e
 there := fun b e => by
  by_cases z : b = S.r i
  ·rw [z, upd_same]; simp
  ·rw [upd_ne z]; exact e
 seqT := fun a xs e => by
  rcases e with (e | ⟨ob, e⟩) | e
  ·exact .inl (.inl (by rw [upd_ne (fun z => by rw [z, he] at e; exact hm xs (Option.some.inj e))]; exact e))
  ·exact .inl (.inr ⟨ob, by rw [upd_ne (fun z => by rw [z, he] at e; exact hf ob _ (Option.some.inj e))]; exact e⟩)
  ·exact .inr e
 seqF := fun a xs e => by
  rcases e with ⟨ob, e⟩ | e
  ·exact .inl ⟨ob, by rw [upd_ne (fun z => by rw [z, he] at e; exact hf ob _ (Option.some.inj e))]; exact e⟩
  ·exact .inr e
 frz := fun b ob v e => by rw [upd_ne (fun z => by rw [z, he] at e; exact hf ob v (Option.some.inj e))]; exact e
theorem Rel.write {G : Cg} {S : Rho} {h : Hh} {H : Hp} {i : Nat} {u v : HO} {o : O} (R : Rel G S h H) (hi : i < S.n) (he : H (S.r i) = some u) (hm : ∀ xs, u ≠ .tup xs) (hf : ∀ ob v, u ≠ .frz ob v) (ho : OD G S (upd H (S.r i) v) (S.r i) o) :
  Rel G S (h.set i o) (upd H (S.r i) v) where
 len := by rw [List.length_set]; exact R.len
 bad := R.bad
 inj := R.inj
 live := fun b z => (Nx.write (G := G) (o := v) R hi he hm hf).there b (R.live b z)
 obj := fun j q e => by
  by_cases z : j = i
  ·subst z
   rw [List.getElem?_set_self (by rw [R.len]; exact hi)] at e
   cases e
   exact ho
  ·rw [List.getElem?_set_ne (fun y => z y.symm)] at e
   have hj : j < S.n := by rw [← R.len]; exact (List.getElem?_eq_some_iff.mp e).1
   exact (R.obj j q e).mono (.write R hi he hm hf) R.bad fun w y => by rw [upd_ne (fun t => z (R.inj j i hj hi t))]; exact y
end Sb
namespace Sb
open L2 PySem PySem.Spec PyProof.Rows
abbrev F (α : Type) := En → Hh → R α
def opt {α : Type} (h : Hh) : Option α → R α
 | some a => .ok a h
 | none => .fail
def fits (n : Nat) : Bool := decide (n ≤ 16777216)
theorem fits_ok {n : Nat} (h : fits n = true) : n ≤ sizeLine := by rw [sizeLine_eq]; exact of_decide_eq_true h
def dVar (i : Nat) : F D := fun e h => match e[i]? with
 | some (some d) => .ok d h
 | _ => .fail
def dC (d : D) : F D := fun _ h => .ok d h
section
variable {X : Cx} {G : Cf} {W : WX} {a b c : Expr} {f g k : F D} {pos : Pos}
theorem tE_var {i : Nat} {σ : L2.St} {H : Hp} {Q : VK} (h : tE G W (dVar i) σ H Q) : tVar i σ H Q := by
 obtain ⟨S, h, e, R, E, P⟩ := h
 unfold dVar at P
 split at P
 ·rename_i d q
  obtain ⟨v, hv, r⟩ := E.at_ i d q
  exact ⟨v, hv, P.here R r⟩
 ·exact P.elim
theorem tE_c {d : D} {v : V} (hv : ∀ S H, VD G S H d v) {σ : L2.St} {H : Hp} {Q : VK} (h : tE G W (dC d) σ H Q) : tC v σ H Q := by
 obtain ⟨S, h, e, R, E, P⟩ := h
 exact P.here R (hv S H)
def dB (f g : F D) (op : Hh → D → D → Option D) : F D := fun e h => (f e h).bind fun x h1 => (g e h1).bind fun y h2 => opt h2 (op h2 x y)
def dU (f : F D) (op : Hh → D → Option D) : F D := fun e h => (f e h).bind fun x h1 => opt h1 (op h1 x)
def rD (G : Cg) (op : Hh → D → D → Option D) : R2 := fun x y H Q => ∃ S h d e z, Rel G S h H ∧ VD G S H d x ∧ VD G S H e y ∧ op h d e = some z ∧ ∀ H' v, Nx G S H S H' → Rel G S h H' → VD G S H' z v → Q v H'
def rU1 (G : Cg) (op : Hh → D → Option D) : V → Hp → VK → Prop := fun x H Q => ∃ S h d z, Rel G S h H ∧ VD G S H d x ∧ op h d = some z ∧ ∀ H' v, Nx G S H S H' → Rel G S h H' → VD G S H' z v → Q v H'
theorem tE_op {op : Hh → D → D → Option D} {σ : L2.St} {H : Hp} {Q : VK} (h : tE G W (dB f g op) σ H Q) : tOp (rD G op) (tE G W f) (tE G W g) σ H Q := by
 obtain ⟨S, h, e, R, E, P⟩ := h
 refine ⟨S, h, e, R, E, P.bind fun x h1 S1 H1 v _ N1 R1 v1 P1 => ?_⟩
 have E1 := E.mono N1 R.bad
 refine ⟨S1, h1, e, R1, E1, P1.bind fun y h2 S2 H2 w _ N2 R2 v2 P2 => ?_⟩
 cases q : op h2 x y with
 | none => rw [q] at P2; exact P2.elim
 | some z =>
  rw [q] at P2
  exact ⟨S2, h2, x, y, z, R2, v1.mono N2 R1.bad, v2, q, fun H' v n r x => P2 S2 H' v n r x⟩
theorem tE_op1 {op : Hh → D → Option D} {σ : L2.St} {H : Hp} {Q : VK} (h : tE G W (dU f op) σ H Q) : tUn (rU1 G op) (tE G W f) σ H Q := by
 obtain ⟨S, h, e, R, E, P⟩ := h
 refine ⟨S, h, e, R, E, P.bind fun x h1 S1 H1 v _ N1 R1 v1 P1 => ?_⟩
 cases q : op h1 x with
 | none => rw [q] at P1; exact P1.elim
 | some z =>
  rw [q] at P1
  exact ⟨S1, h1, x, z, R1, v1, q, fun H' v n r x => P1 S1 H' v n r x⟩
theorem e_op {op : Hh → D → D → Option D} {o : Operator} (ho : OpR X (binaryOp o) (rD G op)) (ha : PE X a (tE G W f)) (hb : PE X b (tE G W g)) : PE X (.BinOp a o b pos) (tE G W (dB f g op)) :=
 PE.imp (pe_op ho ha hb) fun _ _ _ h => tE_op h
theorem e_un {op : Hh → D → Option D} {o : UnaryOp} (ho : UnR X (unaryOp o) (rU1 G op)) (ha : PE X a (tE G W f)) : PE X (.UnaryOp o a pos) (tE G W (dU f op)) :=
 PE.imp (pe_un ho ha) fun _ _ _ h => tE_op1 h
theorem e_cmp {op : Hh → D → D → Option D} {o : CmpOp} (ho : OpR X (compareOp o) (rD G op)) (ha : PE X a (tE G W f)) (hb : PE X b (tE G W g)) (hm : behindInMarks o b = false) : PE X (.Compare a [o] [b] pos) (tE G W (dB f g op)) :=
 PE.imp (pe_cmpR ho ha hb hm) fun _ _ _ h => tE_op h
def asB (d : D) (h : Hh) : R Bool := match d with
 | .bl b => .ok b h
 | _ => .fail
def dT (f : F D) : F Bool := fun e h => (f e h).bind asB
theorem tT_of {t : TE} (ht : ∀ σ H Q, tE G W f σ H Q → t σ H Q) {σ : L2.St} {H : Hp} {Q : Bool → Hp → Prop} (h : tT G W (dT f) σ H Q) : tTest t σ H Q := by
 obtain ⟨S, h, e, R, E, P⟩ := h
 refine ht _ _ _ ⟨S, h, e, R, E, P.bind fun x h1 S1 H1 v _ N1 R1 v1 P1 => ?_⟩
 cases v1 with
 | bl b => exact ⟨b, rfl, P1.here R1 rfl⟩
 | _ => exact P1.elim
theorem t_cmp {op : Hh → D → D → Option D} {o : CmpOp} (ho : OpR X (compareOp o) (rD G op)) (ha : PE X a (tE G W f)) (hb : PE X b (tE G W g)) (hm : behindInMarks o b = false) : PT X (.Compare a [o] [b] pos) (tT G W (dT (dB f g op))) :=
 PT.imp (pt_cmpR ho ha hb hm) fun _ _ _ h => tT_of (fun _ _ _ z => tE_op z) h
theorem t_val (h : PE X a (tE G W f)) (he : ∀ whole, isTrue a X.env whole = (do let v ← whole; standAt a.pos; holding [v] (truthy v))) : PT X a (tT G W (dT f)) :=
 PT.imp (pt_val h he) fun _ _ _ q => tT_of (t := tE G W f) (fun _ _ _ z => z) q
def dCh (f g k : F D) (op op' : Hh → D → D → Option D) : F D := fun e h => (f e h).bind fun x h1 => (g e h1).bind fun y h2 => (opt h2 (op h2 x y)).bind fun z h3 => (asB z h3).bind fun b h4 =>
 if b = true then (k e h4).bind fun w h5 => opt h5 (op' h5 y w) else .ok (.bl false) h4
theorem tE_ch {op op' : Hh → D → D → Option D} {σ : L2.St} {H : Hp} {Q : VK} (h : tE G W (dCh f g k op op') σ H Q) : tChain (rD G op) (rD G op') (tE G W f) (tE G W g) (tE G W k) σ H Q := by
 obtain ⟨S, h, e, R, E, P⟩ := h
 refine ⟨S, h, e, R, E, P.bind fun x h1 S1 H1 v _ N1 R1 v1 P1 => ?_⟩
 have E1 := E.mono N1 R.bad
 refine ⟨S1, h1, e, R1, E1, P1.bind fun y h2 S2 H2 w _ N2 R2 v2 P2 => ?_⟩
 have E2 := E1.mono N2 R1.bad
 cases q : op h2 x y with
 | none => rw [q] at P2; exact P2.elim
 | some z =>
  rw [q] at P2
  refine ⟨S2, h2, x, y, z, R2, v1.mono N2 R1.bad, v2, q, fun H3 v3 N3 R3 x3 => ?_⟩
  have E3 := E2.mono N3 R2.bad
  have P3 := Pst.mono (r := (asB z h2).bind _) P2 N3
  cases x3 with
  | bl b =>
   refine ⟨b, rfl, ?_⟩
   cases b with
   | false => exact P3.here R3 (.bl false)
   | true =>
    refine ⟨S2, h2, e, R3, E3, Pst.bind (r := k e h2) P3 fun w h5 S5 H5 u _ N5 R5 v5 P5 => ?_⟩
    cases q5 : op' h5 y w with
    | none => rw [q5] at P5; exact P5.elim
    | some z5 =>
     rw [q5] at P5
     exact ⟨S5, h5, y, w, z5, R5, (v2.mono N3 R2.bad).mono N5 R3.bad, v5, q5, fun H' v n r x => P5 S5 H' v n r x⟩
  | _ => exact P3.elim
def noSet : Expr → Bool
 | .Set _ _ _ => false
 | _ => true
theorem marks_of {b : Expr} (h : noSet b = true) (o : CmpOp) : behindInMarks o b = false := by
 cases b <;> first | rfl | cases h
theorem e_ch {op op' : Hh → D → D → Option D} {o o' : CmpOp} (ho : OpR X (compareOp o) (rD G op)) (ho' : OpR X (compareOp o') (rD G op')) (ha : PE X a (tE G W f)) (hb : PE X b (tE G W g)) (hc : PE X c (tE G W k)) (hm : noSet c = true) :
  PE X (.Compare a [o, o'] [b, c] pos) (tE G W (dCh f g k op op')) := PE.imp (pe_chain ho ho' ha hb hc (marks_of hm o')) fun _ _ _ h => tE_ch h
theorem t_ch {op op' : Hh → D → D → Option D} {o o' : CmpOp} (ho : OpR X (compareOp o) (rD G op)) (ho' : OpR X (compareOp o') (rD G op')) (ha : PE X a (tE G W f)) (hb : PE X b (tE G W g)) (hc : PE X c (tE G W k)) (hm : noSet c = true) :
  PT X (.Compare a [o, o'] [b, c] pos) (tT G W (dT (dCh f g k op op'))) := PT.imp (pt_chain ho ho' ha hb hc (marks_of hm o')) fun _ _ _ h => tT_of (fun _ _ _ z => tE_ch z) h
def dAnd (f g : F D) : F D := fun e h => (f e h).bind fun x h1 => (asB x h1).bind fun b h2 => if b = true then g e h2 else .ok (.bl false) h2
def dOr (f g : F D) : F D := fun e h => (f e h).bind fun x h1 => (asB x h1).bind fun b h2 => if b = true then .ok (.bl true) h2 else g e h2
def dNot (f : F D) : F D := fun e h => (f e h).bind fun x h1 => (asB x h1).bind fun b h2 => .ok (.bl (!b)) h2
def dIf (t : F Bool) (f g : F D) : F D := fun e h => (t e h).bind fun b h1 => if b = true then f e h1 else g e h1
def bAnd (s t : F Bool) : F Bool := fun e h => (s e h).bind fun b h1 => if b = true then t e h1 else .ok false h1
def bOr (s t : F Bool) : F Bool := fun e h => (s e h).bind fun b h1 => if b = true then .ok true h1 else t e h1
def bNot (s : F Bool) : F Bool := fun e h => (s e h).bind fun b h1 => .ok (!b) h1
variable {rest : List Expr} {s t : F Bool}
theorem e_and (ha : PE X a (tE G W f)) (hb : PE X (.BoolOp .And (b :: rest) pos) (tE G W g)) : PE X (.BoolOp .And (a :: b :: rest) pos) (tE G W (dAnd f g)) :=
 PE.imp (pe_and ha hb) fun σ H Q ⟨S, h, e, R, E, P⟩ => ⟨S, h, e, R, E, P.bind fun x h1 S1 H1 v _ N1 R1 v1 P1 => by
  cases v1 with
  | bl c =>
   refine ⟨c, rfl, ?_⟩
   cases c with
   | true => exact ⟨S1, h1, e, R1, E.mono N1 R.bad, P1⟩
   | false => exact P1.here R1 (.bl false)
  | _ => exact P1.elim⟩
theorem e_or (ha : PE X a (tE G W f)) (hb : PE X (.BoolOp .Or (b :: rest) pos) (tE G W g)) : PE X (.BoolOp .Or (a :: b :: rest) pos) (tE G W (dOr f g)) :=
 PE.imp (pe_or ha hb) fun σ H Q ⟨S, h, e, R, E, P⟩ => ⟨S, h, e, R, E, P.bind fun x h1 S1 H1 v _ N1 R1 v1 P1 => by
  cases v1 with
  | bl c =>
   refine ⟨c, rfl, ?_⟩
   cases c with
   | false => exact ⟨S1, h1, e, R1, E.mono N1 R.bad, P1⟩
   | true => exact P1.here R1 (.bl true)
  | _ => exact P1.elim⟩
theorem e_not (ha : PE X a (tE G W f)) : PE X (.UnaryOp .Not a pos) (tE G W (dNot f)) :=
 PE.imp (pe_not ha) fun σ H Q ⟨S, h, e, R, E, P⟩ => ⟨S, h, e, R, E, P.bind fun x h1 S1 H1 v _ N1 R1 v1 P1 => by
  cases v1 with
  | bl c => exact ⟨c, rfl, P1.here R1 (.bl _)⟩
  | _ => exact P1.elim⟩
theorem e_if (ht : PT X c (tT G W t)) (ha : PE X a (tE G W f)) (hb : PE X b (tE G W g)) : PE X (.IfExp c a b pos) (tE G W (dIf t f g)) :=
 PE.imp (pe_ifExp ht ha hb) fun σ H Q ⟨S, h, e, R, E, P⟩ => ⟨S, h, e, R, E, P.bind fun x h1 S1 H1 v _ N1 R1 v1 P1 => by
  subst v1
  cases x with
  | true => exact ⟨S1, h1, e, R1, E.mono N1 R.bad, P1⟩
  | false => exact ⟨S1, h1, e, R1, E.mono N1 R.bad, P1⟩⟩
theorem t_and (ha : PT X a (tT G W s)) (hb : PW X (.BoolOp .And (b :: rest) pos) (tT G W t)) : PW X (.BoolOp .And (a :: b :: rest) pos) (tT G W (bAnd s t)) :=
 PW.imp (pw_and ha hb) fun σ H Q ⟨S, h, e, R, E, P⟩ => ⟨S, h, e, R, E, P.bind fun x h1 S1 H1 v _ N1 R1 v1 P1 => by
  subst v1
  cases x with
  | true => exact ⟨S1, h1, e, R1, E.mono N1 R.bad, P1⟩
  | false => exact P1.here R1 rfl⟩
theorem t_or (ha : PT X a (tT G W s)) (hb : PW X (.BoolOp .Or (b :: rest) pos) (tT G W t)) : PW X (.BoolOp .Or (a :: b :: rest) pos) (tT G W (bOr s t)) :=
 PW.imp (pw_or ha hb) fun σ H Q ⟨S, h, e, R, E, P⟩ => ⟨S, h, e, R, E, P.bind fun x h1 S1 H1 v _ N1 R1 v1 P1 => by
  subst v1
  cases x with
  | false => exact ⟨S1, h1, e, R1, E.mono N1 R.bad, P1⟩
  | true => exact P1.here R1 rfl⟩
theorem t_not (ha : PT X a (tT G W s)) : PT X (.UnaryOp .Not a pos) (tT G W (bNot s)) :=
 PT.imp (pt_not ha) fun σ H Q ⟨S, h, e, R, E, P⟩ => ⟨S, h, e, R, E, P.bind fun x h1 S1 H1 v _ N1 R1 v1 P1 => by
  subst v1
  exact P1.here R1 rfl⟩
def dNil : F (List D) := fun _ h => .ok [] h
def dCons (f : F D) (r : F (List D)) : F (List D) := fun e h => (f e h).bind fun x h1 => (r e h1).bind fun l h2 => .ok (x :: l) h2
variable {es : List Expr} {r : F (List D)}
def noStar : Expr → Bool
 | .Starred _ _ => false
 | _ => true
theorem star_of {e : Expr} (h : noStar e = true) (env : Env) (es : List Expr) : starEach (e :: es) env = (false, eval e env) :: starEach es env := by
 cases e <;> first | rfl | cases h
theorem stars_of {pos : Pos} {env : Env} : ∀ {es : List Expr}, es.all noStar = true → (backTo pos (starEach es env)).any (·.1) = false
 | [], _ => rfl
 | e :: es, h => by
  have h2 : noStar e = true ∧ es.all noStar = true := Bool.and_eq_true_iff.mp h
  rw [star_of h2.1]
  show (false || (backTo pos (starEach es env)).any (·.1)) = false
  rw [stars_of h2.2]; rfl
theorem a_nil : PA X [] (tA G W dNil) := PA.imp pa_nil fun σ H Q ⟨S, h, e, R, E, P⟩ => P.here R .nil
theorem a_cons (ha : PE X a (tE G W f)) (hr : PA X es (tA G W r)) (hs : noStar a = true) : PA X (a :: es) (tA G W (dCons f r)) :=
 PA.imp (pa_cons ha hr (star_of hs _ _)) fun σ H Q ⟨S, h, e, R, E, P⟩ => ⟨S, h, e, R, E, P.bind fun x h1 S1 H1 v _ N1 R1 v1 P1 =>
  ⟨S1, h1, e, R1, E.mono N1 R.bad, P1.bind fun l h2 S2 H2 w _ N2 R2 v2 P2 => P2.here R2 (.cons (v1.mono N2 R1.bad) v2)⟩⟩
def dTup (r : F (List D)) : F D := fun e h => (r e h).bind fun l h1 => if fits l.length = true then .ok (.tup l) h1 else .fail
def dLst (r : F (List D)) : F D := fun e h => (r e h).bind fun l h1 => if fits l.length = true then .ok (.lst l) h1 else .fail
def dNew (r : F (List D)) : F D := fun e h => (r e h).bind fun l h1 => if fits l.length = true then .ok (.ref h1.length) (h1 ++ [.lst l]) else .fail
theorem e_tup {x1} (hr : PA X es (tA G W r)) : PE X (.Tuple es x1 pos) (tE G W (dTup r)) :=
 PE.imp (pe_tup hr) fun σ H Q ⟨S, h, e, R, E, P⟩ => ⟨S, h, e, R, E, P.bind fun l h1 S1 H1 vs _ N1 R1 v1 P1 => by
  by_cases q : fits l.length = true
  ·rw [if_pos q] at P1
   refine ⟨by rw [← v1.length]; exact fits_ok q, fun p hp => ?_⟩
   obtain ⟨n, r, x⟩ := new_tup R1 v1 hp
   exact P1 S1 _ _ n r x
  ·rw [if_neg q] at P1; exact P1.elim⟩
theorem e_lst (hr : PA X es (tA G W r)) : PE X (.List es pos) (tE G W (dLst r)) :=
 PE.imp (pe_lst hr) fun σ H Q ⟨S, h, e, R, E, P⟩ => ⟨S, h, e, R, E, P.bind fun l h1 S1 H1 vs _ N1 R1 v1 P1 => by
  by_cases q : fits l.length = true
  ·rw [if_pos q] at P1
   refine ⟨by rw [← v1.length]; exact fits_ok q, fun p hp => ?_⟩
   obtain ⟨n, r, x⟩ := new_lst R1 v1 hp
   exact P1 S1 _ _ n r x
  ·rw [if_neg q] at P1; exact P1.elim⟩
theorem new_ref {G : Cg} {S : Rho} {h : Hh} {H : Hp} {u : HO} {o : O} {p : Addr} (R : Rel G S h H) (hp : H p = none) (ho : OD G (S.push p) (upd H p u) p o) :
  Nx G S H (S.push p) (upd H p u) ∧ Rel G (S.push p) (h ++ [o]) (upd H p u) ∧ VD G (S.push p) (upd H p u) (.ref h.length) (.ref p) := by
 refine ⟨.push hp, R.push hp ho, ?_⟩
 have e : (S.push p).r h.length = p := by rw [R.len]; exact if_pos rfl
 have z := VD.ref (G := G) (S := S.push p) (H := upd H p u) (i := h.length) (by rw [R.len]; exact Nat.lt_succ_self _)
 rw [e] at z
 exact z
theorem e_new (hr : PA X es (tA G W r)) : PE X (.List es pos) (tE G W (dNew r)) :=
 PE.imp (pe_lst hr) fun σ H Q ⟨S, h, e, R, E, P⟩ => ⟨S, h, e, R, E, P.bind fun l h1 S1 H1 vs _ N1 R1 v1 P1 => by
  by_cases q : fits l.length = true
  ·rw [if_pos q] at P1
   refine ⟨by rw [← v1.length]; exact fits_ok q, fun p hp => ?_⟩
   obtain ⟨n, r, x⟩ := new_ref R1 hp (o := .lst l) (.lst upd_same (v1.mono (.push hp) R1.bad))
   exact P1 _ _ _ n r x
  ·rw [if_neg q] at P1; exact P1.elim⟩
end
end Sb
namespace Sb
open L2 PySem PySem.Spec PyProof.Rows
theorem tuple_mulS (l : Addr) (items : Array Value) (n : Nat) (dd : Option Addr) (sl : Array (Option Value)) (x : Int) (u : Tok) (c0 : (decide (x < -(2 ^ 63)) || decide (x ≥ 2 ^ 63)) = false) (c1 : (items.isEmpty || x == 1) = true) :
  Meets (Builtin.«tuple.__mul__» ⟨[.ref l, .int x u], []⟩) (fun _ R s => s.heap.get? l = some { cls := .type "tuple", dict := dd, data := .seq items n, slots := sl } ∧ R (.ok (.ret (.ref l))) s) :=
 .of_wp fun prog w A R s h => by
  obtain ⟨hp, g, d, tk, os⟩ := s
  obtain ⟨hl, h⟩ := h
  have f1 := AutoSeq1.idx_int
  wp_walk using wpAny_loadPart' hl
  repeat (first
   | (refine wpAny_ite_false (decide_eq_false (by rw [c0]; exact Bool.false_ne_true)) ?_; wp_walk using wpAny_loadPart' hl)
   | (refine wpAny_ite_true (decide_eq_true (by rw [c1])) ?_; wp_walk using wpAny_loadPart' hl))
  exact ⟨_, rfl, h⟩
theorem tuple_mulZ (l : Addr) (items : Array Value) (n : Nat) (dd : Option Addr) (sl : Array (Option Value)) (x : Int) (u : Tok) (c0 : (decide (x < -(2 ^ 63)) || decide (x ≥ 2 ^ 63)) = false) (c1 : (items.isEmpty || x == 1) = false) (c2 : (decide (x ≤ 0) || items.isEmpty) = true) :
  Meets (Builtin.«tuple.__mul__» ⟨[.ref l, .int x u], []⟩) (fun _ R s => s.heap.get? l = some { cls := .type "tuple", dict := dd, data := .seq items n, slots := sl } ∧
   R (.ok (.ret (Value.ref s.heap.objs.size))) { s with heap := s.heap.push { cls := Value.type "tuple", data := Data.seq #[] }, toks := s.toks }) :=
 .of_wp fun prog w A R s h => by
  obtain ⟨hp, g, d, tk, os⟩ := s
  obtain ⟨hl, h⟩ := h
  have f1 := AutoSeq1.idx_int
  wp_walk using wpAny_loadPart' hl
  repeat (first
   | (refine wpAny_ite_false (decide_eq_false (by rw [c0]; exact Bool.false_ne_true)) ?_; wp_walk using wpAny_loadPart' hl)
   | (refine wpAny_ite_false (decide_eq_false (by rw [c1]; exact Bool.false_ne_true)) ?_; wp_walk using wpAny_loadPart' hl)
   | (refine wpAny_ite_true (decide_eq_true (by rw [c2])) ?_; wp_walk using wpAny_loadPart' hl))
  exact ⟨_, rfl, h⟩
def rMulT (K : PySem.W.Frag) : R2 := fun x y H Q => ∃ l k xs, x = .ref l ∧ y = .int k ∧ SqT K H l xs ∧ 0 ≤ k ∧ k ≤ 1000 ∧ xs.length ≤ 1000 ∧ ((xs = [] ∨ k = 1) → Q (.ref l) H) ∧ (¬ (xs = [] ∨ k = 1) → ∀ p, H p = none → Q (.ref p) (upd H p (.tup (List.replicate k.toNat xs).flatten)))
theorem op_mulT {X : Cx} : OpR X (binaryOp .Mult) (rMulT X.K) := by
 intro pins s σ H x y v u Q I rx ry h
 obtain ⟨l, k, xs, rfl, rfl, hT, h1, h2, hz, qs, qn⟩ := h
 by_cases big : xs ≠ [] ∧ 2 ≤ k
 ·exact op_repT pins s σ H _ _ v u Q I rx ry ⟨l, k, xs, rfl, rfl, hT, big.1, big.2, h2, hz, qn (fun z => by
   rcases z with z | z
   ·exact big.1 z
   ·omega)⟩
 cases rx
 obtain ⟨t, rfl⟩ := ry
 obtain ⟨its, r, ⟨⟨cls, dd, data, sl⟩, ho, hc, n, hd⟩, hs⟩ := I.tuple hT
 simp only at hc hd
 subst hc hd
 have hle : its.length = xs.length := r.length.symm
 have c0 : (decide (k < -(2 ^ 63)) || decide (k ≥ 2 ^ 63)) = false := by
  rw [decide_eq_false (by omega), decide_eq_false (by omega)] <;> rfl
 have hem : its.toArray.isEmpty = xs.isEmpty := by
  cases its <;> cases xs <;> first | rfl | (simp at hle)
 by_cases same : xs = [] ∨ k = 1
 ·have c1 : (its.toArray.isEmpty || k == 1) = true := by
   rw [hem]
   rcases same with z | z
   ·rw [z]; rfl
   ·rw [z]; simp
  refine wpAny_binaryOp_repeat_ref (T := "tuple") (U := "int") (by decide) ⟨_, ho, rfl⟩ (fun s' => typeIs_int s' k t) noFill_tuple_mul F.fills_int_mul F.slot_int_rmul repeat_tuple F.slot_int_index.lookup
   (call_meets F.slot_int_rmul (typeIs_int s k t) F.entry_int_rmul (F.args_int_rmul_2 _ _) (int_rmul_tuple k t l its.toArray n dd sl)
    ⟨ho, rfl, ⟨_, ho, rfl⟩, call_meets F.slot_tuple_mul ⟨_, ho, rfl⟩ F.entry_tuple_mul (F.args_tuple_mul_2 _ _) (tuple_mulS l its.toArray n dd sl k t c0 c1) ⟨ho, ?_⟩⟩)
  exact ⟨.ref l, H, I, rfl, qs same⟩
 ·have hk : k = 0 := by
   have : ¬ 2 ≤ k := fun z => big ⟨fun e => same (.inl e), z⟩
   have : k ≠ 1 := fun z => same (.inr z)
   omega
  subst hk
  have hne : xs ≠ [] := fun e => same (.inl e)
  have c1 : (its.toArray.isEmpty || (0 : Int) == 1) = false := by
   rw [hem]
   cases xs with
   | nil => exact absurd rfl hne
   | cons _ _ => rfl
  have c2 : (decide ((0 : Int) ≤ 0) || its.toArray.isEmpty) = true := rfl
  refine wpAny_binaryOp_repeat_ref (T := "tuple") (U := "int") (by decide) ⟨_, ho, rfl⟩ (fun s' => typeIs_int s' 0 t) noFill_tuple_mul F.fills_int_mul F.slot_int_rmul repeat_tuple F.slot_int_index.lookup
   (call_meets F.slot_int_rmul (typeIs_int s 0 t) F.entry_int_rmul (F.args_int_rmul_2 _ _) (int_rmul_tuple 0 t l its.toArray n dd sl)
    ⟨ho, rfl, ⟨_, ho, rfl⟩, call_meets F.slot_tuple_mul ⟨_, ho, rfl⟩ F.entry_tuple_mul (F.args_tuple_mul_2 _ _) (tuple_mulZ l its.toArray n dd sl 0 t c0 c1 c2) ⟨ho, ?_⟩⟩)
  refine ⟨.ref s.heap.objs.size, _, I.laid (t' := s.toks) (o := .tup (List.replicate (0 : Int).toNat xs).flatten) (fun b ob q => Heap.get?_push_of_some _ q) (Nat.le_refl _) ?_, rfl, qn same _ (I.hok.fresh (Nat.le_refl _))⟩
  exact ⟨by simp, _, (.nil : Vals [] []), IsTup.new _ _⟩
end Sb
namespace Sb
open L2 PySem PySem.Spec PyProof.Rows
open PySem.SeqAt (EqIn)
section
open PySem.SeqAt
open AutoSeq1 (wpAny_loadPart')
open MeetsSeq MeetsSeq2 MeetsSeq3 SeqRoads2
variable {prog : Program} {w : World}
theorem neLoop (l b : Addr) (xs ys : Array Value) (n n2 : Nat) (d1 d2 : Option Addr) (sl sl2 : Array (Option Value)) (hsz : xs.size = ys.size) (k : Nat) :
  ∀ i : Nat, xs.size - i = k → MeetsIn prog w (Builtin.«list.__eq__.loop» ⟨[.ref l, .ref b, rawInt i, rawInt 3], []⟩)
   (fun A R s => s.heap.get? l = some { cls := .type "list", dict := d1, data := .seq xs n, slots := sl } ∧ s.heap.get? b = some { cls := .type "list", dict := d2, data := .seq ys n2, slots := sl2 } ∧
    (∀ j (h1 : j < xs.size) (h2 : j < ys.size), EqIn prog w A.in1 s xs[j] ys[j] true) ∧ R (.ok (.ret (.bool false))) s) := by
 induction k with
 | zero =>
  intro i hk A R s h
  obtain ⟨hp, g, d, tk, os⟩ := s; obtain ⟨hl, hb, he, h⟩ := h
  wp_walk using wpAny_loadPart' hl, wpAny_loadPart' hb
  have hi1 : xs[((i : Nat) : Int).toNat]? = none := by simp; omega
  have hi2 : ys[((i : Nat) : Int).toNat]? = none := by simp; omega
  rw [hi1, hi2]
  wp_walk using wpAny_loadPart' hl, wpAny_loadPart' hb
  show R (.ok (.ret (.bool (xs.size != ys.size)))) _
  rw [hsz]
  simpa using h
 | succ k ih =>
  intro i hk A R s h
  obtain ⟨hp, g, d, tk, os⟩ := s; obtain ⟨hl, hb, he, h⟩ := h
  wp_walk using wpAny_loadPart' hl, wpAny_loadPart' hb
  have hlt : i < xs.size := by omega
  have hlt2 : i < ys.size := by omega
  have hi1 : xs[((i : Nat) : Int).toNat]? = some xs[i] := by simp [hlt]
  have hi2 : ys[((i : Nat) : Int).toNat]? = some ys[i] := by simp [hlt2]
  have hc : ((i : Int) + 1) = ((i + 1 : Nat) : Int) := by push_cast; rfl
  rw [hi1, hi2]
  refine wpAny_bind (he i hlt hlt2 _ _ ?_)
  wp_walk
  rw [hc]
  exact ⟨plainId_quiet plain_eq_loop _, codeAny_builtin entry_eq_loop (by
   rw [Around.under_plainId plain_eq_loop _]
   exact ih (i + 1) (by omega) A R _ ⟨hl, hb, he, h⟩)⟩
theorem neList (l b : Addr) (xs ys : Array Value) (n n2 : Nat) (d1 d2 : Option Addr) (sl sl2 : Array (Option Value)) (hsz : xs.size = ys.size) :
  MeetsIn prog w (Builtin.«list.__ne__» ⟨[.ref l, .ref b], []⟩)
   (fun A R s => s.heap.get? l = some { cls := .type "list", dict := d1, data := .seq xs n, slots := sl } ∧ s.heap.get? b = some { cls := .type "list", dict := d2, data := .seq ys n2, slots := sl2 } ∧
    (∀ j (h1 : j < xs.size) (h2 : j < ys.size), EqIn prog w A.in1 s xs[j] ys[j] true) ∧ R (.ok (.ret (.bool false))) s) := by
 intro A R s h
 obtain ⟨hp, g, d, tk, os⟩ := s; obtain ⟨hl, hb, he, h⟩ := h
 have f3 := AutoSeq1.sub_list_list
 have hne : ¬ (xs.size != ys.size) = true := by simp [hsz]
 wp_walk using wpAny_loadPart' hl, wpAny_loadPart' hb
 exact ⟨plainId_quiet plain_eq_loop _, codeAny_builtin entry_eq_loop (by
  rw [Around.under_plainId plain_eq_loop _]
  exact neLoop l b xs ys n n2 d1 d2 sl sl2 hsz _ 0 rfl A R _ ⟨hl, hb, he, h⟩)⟩
theorem rcNe_lists {A : Around} {s : Shared} {E : Value → Shared → Prop} {l b : Addr} {xs ys : Array Value} {Q : Value → Shared → Prop} (hl : s.heap.IsList l xs) (hb : s.heap.IsList b ys) (hsz : xs.size = ys.size) (hu : A.units < cLine)
  (he : ∀ j (h1 : j < xs.size) (h2 : j < ys.size), EqIn prog w A.in1 s xs[j] ys[j] true) (h : Q (.bool false) s) : wpAny (model prog w) A (compareOp .NotEq (.ref l) (.ref b)) Q E s := by
 obtain ⟨⟨cls, dd, data, sl⟩, ho, hc, n, hd⟩ := id hl
 obtain ⟨⟨cls2, dd2, data2, sl2⟩, ho2, hc2, n2, hd2⟩ := id hb
 simp only at hc hd hc2 hd2
 subst hc hd hc2 hd2
 show wpAny (model prog w) A (richCompare .NotEq (.ref l) (.ref b)) Q E s
 exact wpAny_richCompare_same_room (T := "list") (op := .NotEq) ⟨_, ho, rfl⟩ ⟨_, ho2, rfl⟩ F.slot_list_ne (call_meetsIn F.slot_list_ne ⟨_, ho, rfl⟩ F.entry_list_ne (F.args_list_ne_2 _ _) (neList l b xs ys n n2 dd dd2 sl sl2 hsz)
  ⟨ho, ho2, he, show Value.bool false ≠ Value.notImplemented ∧ Q (.bool false) s from ⟨(fun x => nomatch x), h⟩⟩) hu
end
end Sb
namespace Sb
open L2 PySem PySem.Spec PyProof.Rows
section
variable {G : Cg} {S : Rho} {H : Hp} {h : Hh}
def asM (h : Hh) : D → Option (List D)
 | .lst l => some l
 | .ref i => match h[i]? with
  | some (.lst l) => some l
  | some (.lck (.lst l)) => some l
  | _ => none
 | _ => none
def asL (h : Hh) (d : D) : Option (List D) := match d with
 | .scr ns => some (ns.map .int)
 | d => asM h d
theorem asM_at {d : D} {v : V} {l : List D} (R : Rel G S h H) (x : VD G S H d v) (e : asM h d = some l) : ∃ a vs, v = .ref a ∧ H a = some (.lst vs) ∧ VDs G S H l vs := by
 cases x with
 | lst a b c => cases e; exact ⟨_, _, rfl, a, c⟩
 | @ref i hi =>
  have e2 : (match h[i]? with | some (.lst l) => some l | some (.lck (.lst l)) => some l | _ => none) = some l := e
  split at e2
  ·rename_i l' q
   cases e2
   cases R.obj i _ q with
   | lst q v => exact ⟨_, _, rfl, q, v⟩
  ·rename_i l' q
   cases e2
   cases R.obj i _ q with
   | lckL q v => exact ⟨_, _, rfl, q, v⟩
  ·cases e2
 | _ => cases e
theorem asL_at {d : D} {v : V} {l : List D} (R : Rel G S h H) (x : VD G S H d v) (e : asL h d = some l) : ∃ a vs, v = .ref a ∧ SqL G.K H a vs ∧ VDs G S H l vs := by
 cases d with
 | scr ns =>
  cases x with
  | scr q => cases e; exact ⟨_, _, rfl, q.sq, VDs.ints ns⟩
 | _ =>
  obtain ⟨a, vs, e1, e2, e3⟩ := asM_at R x e
  exact ⟨a, vs, e1, SqL.of e2, e3⟩
def asK (h : Hh) : D → Option (List (Key × D))
 | .dct l => some l
 | .ref i => match h[i]? with
  | some (.dct l) => some l
  | some (.lck (.dct l)) => some l
  | _ => none
 | _ => none
theorem asK_at {d : D} {v : V} {l : List (Key × D)} (R : Rel G S h H) (x : VD G S H d v) (e : asK h d = some l) : ∃ a vs, v = .ref a ∧ Rd H a (.dK vs) ∧ VDk G S H l vs := by
 cases x with
 | dct a b c => cases e; exact ⟨_, _, rfl, a, c⟩
 | @ref i hi =>
  have e2 : (match h[i]? with | some (.dct l) => some l | some (.lck (.dct l)) => some l | _ => none) = some l := e
  split at e2
  ·rename_i l' q
   cases e2
   cases R.obj i _ q with
   | dct q v => exact ⟨_, _, rfl, .inl q, v⟩
  ·rename_i l' q
   cases e2
   cases R.obj i _ q with
   | lckD q v => exact ⟨_, _, rfl, .inr ⟨_, q⟩, v⟩
  ·cases e2
 | _ => cases e
def valD (l : List (Key × D)) (k : Key) : Option D := (l.find? fun kv => decide (kv.1 = k)).map (·.2)
def putD (l : List (Key × D)) (k : Key) (v : D) : List (Key × D) := if (l.any fun kv => decide (kv.1 = k)) = true then l.map (fun kv => if kv.1 = k then (kv.1, v) else kv) else l ++ [(k, v)]
def dropD (l : List (Key × D)) (k : Key) : List (Key × D) := l.filter fun kv => decide (kv.1 ≠ k)
theorem VDk.val (k : Key) : ∀ {l : List (Key × D)} {vs : List (Key × V)}, VDk G S H l vs → (valD l k = none ∧ valV vs k = none) ∨ ∃ d v, valD l k = some d ∧ valV vs k = some v ∧ VD G S H d v
 | _, _, .nil => .inl ⟨rfl, rfl⟩
 | _, _, @VDk.cons _ _ _ j d v l vs a t => by
  by_cases e : j = k
  ·exact .inr ⟨d, v, by simp [valD, List.find?_cons, e], by rw [valV_pos (p := (j, v)) e], a⟩
  ·rw [valV_neg (p := (j, v)) e]
   have e2 : valD ((j, d) :: l) k = valD l k := by simp [valD, List.find?_cons, e]
   rw [e2]
   exact VDk.val k t
theorem VDk.length : ∀ {l : List (Key × D)} {vs : List (Key × V)}, VDk G S H l vs → l.length = vs.length
 | _, _, .nil => rfl
 | _, _, .cons _ t => congrArg Nat.succ t.length
theorem VDk.any (k : Key) : ∀ {l : List (Key × D)} {vs : List (Key × V)}, VDk G S H l vs → (l.any fun kv => decide (kv.1 = k)) = (vs.any fun kv => decide (kv.1 = k))
 | _, _, .nil => rfl
 | _, _, .cons _ t => by rw [List.any_cons, List.any_cons, VDk.any k t]
theorem VDk.append : ∀ {l m : List (Key × D)} {vs ws : List (Key × V)}, VDk G S H l vs → VDk G S H m ws → VDk G S H (l ++ m) (vs ++ ws)
 | _, _, _, _, .nil, b => b
 | _, _, _, _, .cons a t, b => .cons a (t.append b)
theorem VDk.repl (k : Key) {d : D} {v : V} (r : VD G S H d v) : ∀ {l : List (Key × D)} {vs : List (Key × V)}, VDk G S H l vs → VDk G S H (l.map fun kv => if kv.1 = k then (kv.1, d) else kv) (vs.map fun kv => if kv.1 = k then (kv.1, v) else kv)
 | _, _, .nil => .nil
 | _, _, @VDk.cons _ _ _ j d' v' l vs a t => by
  rw [List.map_cons, List.map_cons]
  by_cases e : j = k
  ·rw [if_pos e, if_pos e]; exact .cons r (VDk.repl k r t)
  ·rw [if_neg e, if_neg e]; exact .cons a (VDk.repl k r t)
theorem VDk.put (k : Key) {d : D} {v : V} (r : VD G S H d v) {l : List (Key × D)} {vs : List (Key × V)} (t : VDk G S H l vs) : VDk G S H (putD l k d) (putK vs k v) := by
 unfold putD putK
 rw [t.any k]
 split
 ·exact VDk.repl k r t
 ·exact t.append (.cons r .nil)
theorem VDk.drop (k : Key) : ∀ {l : List (Key × D)} {vs : List (Key × V)}, VDk G S H l vs → VDk G S H (dropD l k) (dropK vs k)
 | _, _, .nil => .nil
 | _, _, @VDk.cons _ _ _ j d v l vs a t => by
  unfold dropD dropK
  by_cases e : j = k
  ·rw [List.filter_cons_of_neg (by simpa using e), List.filter_cons_of_neg (by simpa using e)]; exact VDk.drop k t
  ·rw [List.filter_cons_of_pos (by simpa using e), List.filter_cons_of_pos (by simpa using e)]; exact .cons a (VDk.drop k t)
def keyD : D → Option Key
 | .int i => some (.inl i)
 | .str x => some (.inr x)
 | _ => none
theorem keyD_at {d : D} {v : V} {k : Key} (x : VD G S H d v) (e : keyD d = some k) : v = kV k := by
 cases x <;> cases e <;> rfl
mutual
def toPy : D → Option PyData
 | .non => some .none
 | .bl b => some (.bool b)
 | .int i => some (.int i)
 | .str x => some (.str x)
 | .tup l => (toPys l).map .tuple
 | .lst l => (toPys l).map .list
 | _ => none
def toPys : List D → Option (List PyData)
 | [] => some []
 | d :: l => match toPy d, toPys l with
  | some x, some xs => some (x :: xs)
  | _, _ => none
end
mutual
theorem toPy_at : ∀ {d : D} {v : V} {p : PyData}, VD G S H d v → toPy d = some p → Dp G.K H v p
 | _, _, p, .non, e => by cases e; exact .non
 | _, _, p, .bl b, e => by cases e; exact .bl b
 | _, _, p, .int b, e => by cases e; exact .int b
 | _, _, p, .str b, e => by cases e; exact .str b
 | _, _, p, .tup (l := l) a b, e => by
  have e2 : (toPys l).map PyData.tuple = some p := e
  obtain ⟨ps, e3, rfl⟩ := Option.map_eq_some_iff.mp e2
  exact .tup a (toPys_at b e3)
 | _, _, p, .lst (l := l) a n b, e => by
  have e2 : (toPys l).map PyData.list = some p := e
  obtain ⟨ps, e3, rfl⟩ := Option.map_eq_some_iff.mp e2
  exact .lst (SqL.of a) (toPys_at b e3)
 | _, _, p, .scr a, e => by cases e
 | _, _, p, .dct a b c, e => by cases e
 | _, _, p, .ins a b c, e => by cases e
 | _, _, p, .ref a, e => by cases e
theorem toPys_at : ∀ {l : List D} {vs : List V} {ps : List PyData}, VDs G S H l vs → toPys l = some ps → DpAll G.K H vs ps
 | _, _, ps, .nil, e => by cases e; exact .nil
 | _, _, ps, .cons (d := d) (l := l) a t, e => by
  have e2 : (match toPy d, toPys l with | some x, some xs => some (x :: xs) | _, _ => none) = some ps := e
  split at e2
  ·rename_i x xs q1 q2
   cases e2
   exact .cons (toPy_at a q1) (toPys_at t q2)
  ·cases e2
end
def deref (h : Hh) (d : D) : D := match d with
 | .ref i => match asM h (.ref i) with
  | some l => .lst l
  | none => .ref i
 | d => d
theorem deref_at {d : D} {v : V} {p : PyData} (R : Rel G S h H) (x : VD G S H d v) (e : toPy (deref h d) = some p) : Dp G.K H v p := by
 cases d with
 | ref i =>
  unfold deref at e
  simp only at e
  split at e
  ·rename_i l q
   have e2 : (toPys l).map PyData.list = some p := e
   obtain ⟨ps, e3, rfl⟩ := Option.map_eq_some_iff.mp e2
   obtain ⟨a, vs, rfl, e4, e5⟩ := asM_at R x q
   exact .lst (SqL.of e4) (toPys_at e5 e3)
  ·cases e
 | _ => exact toPy_at x e
end
def mulOk (i j : Int) : Bool := decide (i.natAbs < 2 ^ 64) || decide (j.natAbs < 2 ^ 64) || decide (i.natAbs.log2 + j.natAbs.log2 < 1000000)
def opAdd (h : Hh) (x y : D) : Option D := match x, y with
 | .int i, .int j => some (.int (i + j))
 | .str a, .str b => if fits (a.length + b.length) = true then some (.str (a ++ b)) else none
 | .tup a, .tup b => if fits (a.length + b.length) = true then some (.tup (a ++ b)) else none
 | x, y => match asM h x, asM h y with
  | some a, some b => if fits (a.length + b.length) = true then some (.lst (a ++ b)) else none
  | _, _ => none
def opSub (_ : Hh) (x y : D) : Option D := match x, y with
 | .int i, .int j => some (.int (i - j))
 | _, _ => none
def opMul (h : Hh) (x y : D) : Option D := match x, y with
 | .int i, .int j => if mulOk i j = true then some (.int (i * j)) else none
 | .tup a, .int k => if 0 ≤ k ∧ k ≤ 1000 ∧ a.length ≤ 1000 then some (.tup (List.replicate k.toNat a).flatten) else none
 | x, .int k => match asM h x with
  | some a => if 0 ≤ k ∧ k ≤ 1000 ∧ a.length ≤ 1000 then some (.lst (List.replicate k.toNat a).flatten) else none
  | none => none
 | _, _ => none
def opDiv (_ : Hh) (x y : D) : Option D := match x, y with
 | .int i, .int j => if 0 < j ∧ j.natAbs.log2 < 9000 then some (.int (i / j)) else none
 | _, _ => none
def opMod (_ : Hh) (x y : D) : Option D := match x, y with
 | .int i, .int j => if 0 < j then some (.int (i % j)) else none
 | _, _ => none
def opPow (_ : Hh) (x y : D) : Option D := match x, y with
 | .int i, .int j => if 0 ≤ j ∧ j ≤ 1000000 ∧ i.natAbs < 2 ^ 64 then some (.int (i ^ j.toNat)) else none
 | _, _ => none
def opShr (_ : Hh) (x y : D) : Option D := match x, y with
 | .int i, .int j => if 0 ≤ j then some (.int (i / 2 ^ j.toNat)) else none
 | _, _ => none
def opAnd (_ : Hh) (x y : D) : Option D := match x, y with
 | .int i, .int j => some (.int (Builtin.bitAnd i j))
 | _, _ => none
def opNeg (_ : Hh) (x : D) : Option D := match x with
 | .int i => some (.int (-i))
 | _ => none
def binD : Operator → Option (Hh → D → D → Option D)
 | .Add => some opAdd
 | .Sub => some opSub
 | .Mult => some opMul
 | .FloorDiv => some opDiv
 | .Mod => some opMod
 | .Pow => some opPow
 | .RShift => some opShr
 | .BitAnd => some opAnd
 | _ => none
section
variable {X : Cx} {G : Cg}
theorem ints_of {f : Value → Value → Sem Value} {op : Hh → D → D → Option D} {r : R2} (ho : OpR X f r) (hi : ∀ h d e z, op h d e = some z → ∃ i j k, d = .int i ∧ e = .int j ∧ z = .int k ∧ ∀ H (Q : VK), Q (.int k) H → r (.int i) (.int j) H Q) : OpR X f (rD G op) := by
 intro pins s σ H x y v u Q I rx ry hq
 obtain ⟨S, h, d, e, z, R, vx, vy, q, k⟩ := hq
 obtain ⟨i, j, n, rfl, rfl, rfl, f⟩ := hi h d e z q
 cases vx
 cases vy
 exact ho pins s σ H _ _ v u Q I rx ry (f H Q (k H _ .refl R (.int n)))
theorem or_sub : OpR X (binaryOp .Sub) (rD G opSub) := ints_of op_sub fun h d e z q => by
 unfold opSub at q
 split at q
 ·cases q; exact ⟨_, _, _, rfl, rfl, rfl, fun H Q z => ⟨_, _, rfl, rfl, z⟩⟩
 ·cases q
theorem or_div : OpR X (binaryOp .FloorDiv) (rD G opDiv) := ints_of op_fdivW fun h d e z q => by
 unfold opDiv at q
 split at q
 ·split at q
  ·rename_i c
   cases q; exact ⟨_, _, _, rfl, rfl, rfl, fun H Q z => ⟨_, _, rfl, rfl, c, z⟩⟩
  ·cases q
 ·cases q
theorem or_mod : OpR X (binaryOp .Mod) (rD G opMod) := ints_of op_mod fun h d e z q => by
 unfold opMod at q
 split at q
 ·split at q
  ·rename_i c
   cases q; exact ⟨_, _, _, rfl, rfl, rfl, fun H Q z => ⟨_, _, rfl, rfl, c, z⟩⟩
  ·cases q
 ·cases q
theorem or_pow : OpR X (binaryOp .Pow) (rD G opPow) := ints_of op_pow fun h d e z q => by
 unfold opPow at q
 split at q
 ·split at q
  ·rename_i c
   cases q; exact ⟨_, _, _, rfl, rfl, rfl, fun H Q z => ⟨_, _, rfl, rfl, c, z⟩⟩
  ·cases q
 ·cases q
theorem or_shr : OpR X (binaryOp .RShift) (rD G opShr) := ints_of op_shr fun h d e z q => by
 unfold opShr at q
 split at q
 ·split at q
  ·rename_i c
   cases q; exact ⟨_, _, _, rfl, rfl, rfl, fun H Q z => ⟨_, _, rfl, rfl, c, z⟩⟩
  ·cases q
 ·cases q
theorem or_and : OpR X (binaryOp .BitAnd) (rD G opAnd) := ints_of op_and fun h d e z q => by
 unfold opAnd at q
 split at q
 ·cases q; exact ⟨_, _, _, rfl, rfl, rfl, fun H Q z => ⟨_, _, rfl, rfl, z⟩⟩
 ·cases q
theorem ur_neg : UnR X (unaryOp .USub) (rU1 G opNeg) := by
 intro pins s σ H x v Q I rx hq
 obtain ⟨S, h, d, z, R, vx, q, k⟩ := hq
 unfold opNeg at q
 split at q
 ·cases q
  cases vx
  exact un_neg pins s σ H _ v Q I rx ⟨_, rfl, k H _ .refl R (.int _)⟩
 ·cases q
theorem small_of {i : Int} (h : i.natAbs < 2 ^ 64) : -(2 ^ 64) < i ∧ i < 2 ^ 64 := by
 constructor <;> omega
theorem or_mul (hK : G.K = X.K) : OpR X (binaryOp .Mult) (rD G opMul) := by
 intro pins s σ H x y v u Q I rx ry hq
 obtain ⟨S, h, d, e, z, R, vx, vy, q, k⟩ := hq
 unfold opMul at q
 split at q
 ·rename_i i j
  split at q
  ·rename_i c
   cases q
   cases vx
   cases vy
   have fin := k H _ .refl R (.int (i * j))
   unfold mulOk at c
   simp only [Bool.or_eq_true, decide_eq_true_eq] at c
   rcases c with (c | c) | c
   ·exact op_mul pins s σ H _ _ v u Q I rx ry ⟨_, _, rfl, rfl, .inl (small_of c), fin⟩
   ·exact op_mul pins s σ H _ _ v u Q I rx ry ⟨_, _, rfl, rfl, .inr (small_of c), fin⟩
   ·exact op_mulW pins s σ H _ _ v u Q I rx ry ⟨_, _, rfl, rfl, c, fin⟩
  ·cases q
 ·rename_i l j
  split at q
  ·rename_i c
   cases q
   cases vy
   cases vx with
   | tup ha r =>
    rw [hK] at ha
    have rr : ∀ n : Nat, VDs G S H (List.replicate n l).flatten (List.replicate n _).flatten := fun n => by
     induction n with
     | zero => exact .nil
     | succ n ih => rw [List.replicate_succ, List.replicate_succ]; exact r.append ih
    refine op_mulT pins s σ H _ _ v u Q I rx ry ⟨_, j, _, rfl, rfl, ha, c.1, c.2.1, by rw [← r.length]; exact c.2.2, fun z => ?_, fun z p hp => ?_⟩
    ·have e : (List.replicate j.toNat l).flatten = l := by
      rcases z with z | z
      ·have : l = [] := List.eq_nil_of_length_eq_zero (by rw [r.length, z]; rfl)
       rw [this]
       induction j.toNat with
       | zero => rfl
       | succ n ih => rw [List.replicate_succ]; exact ih
      ·rw [z]; simp
     rw [e] at k
     exact k H _ .refl R (.tup (by rw [hK]; exact ha) r)
    ·obtain ⟨n1, r1, x1⟩ := new_tup R (rr j.toNat) hp
     exact k _ _ n1 r1 x1
  ·cases q
 ·rename_i j _ _
  split at q
  ·rename_i l ql
   split at q
   ·rename_i c
    cases q
    cases vy
    obtain ⟨a, vs, rfl, ha, r⟩ := asM_at R vx ql
    obtain ⟨c1, c2, c3⟩ := c
    have hn : j.toNat ≤ 1000 := by omega
    have hl : vs.length ≤ 1000 := by rw [← r.length]; exact c3
    have hb : vs.length * j.toNat ≤ 1000 * 1000 := Nat.mul_le_mul hl hn
    refine op_rep pins s σ H _ _ v u Q I rx ry ⟨a, j, vs, rfl, rfl, ha, by omega, by omega, by rw [sizeLine_eq]; omega, fun p hp => ?_⟩
    have rr : ∀ n : Nat, VDs G S H (List.replicate n l).flatten (List.replicate n vs).flatten := fun n => by
     induction n with
     | zero => exact .nil
     | succ n ih => rw [List.replicate_succ, List.replicate_succ]; exact r.append ih
    obtain ⟨n1, r1, x1⟩ := new_lst R (rr j.toNat) hp
    exact k _ _ n1 r1 x1
   ·cases q
  ·cases q
 ·cases q
theorem or_add (hK : G.K = X.K) : OpR X (binaryOp .Add) (rD G opAdd) := by
 intro pins s σ H x y v u Q I rx ry hq
 obtain ⟨S, h, d, e, z, R, vx, vy, q, k⟩ := hq
 unfold opAdd at q
 split at q
 ·cases q
  cases vx
  cases vy
  exact op_add pins s σ H _ _ v u Q I rx ry ⟨_, _, rfl, rfl, k H _ .refl R (.int _)⟩
 ·split at q
  ·rename_i c
   cases q
   cases vx
   cases vy
   exact op_add_str pins s σ H _ _ v u Q I rx ry ⟨_, _, rfl, rfl, fits_ok c, k H _ .refl R (.str _)⟩
  ·cases q
 ·split at q
  ·rename_i c
   cases q
   cases vx with
   | tup hx rx' =>
    cases vy with
    | tup hy ry' =>
     rw [hK] at hx hy
     have l1 := rx'.length
     have l2 := ry'.length
     have c2 := fits_ok c
     refine op_catA pins s σ H _ _ v u Q I rx ry ⟨_, _, _, _, rfl, rfl, hx, hy, by omega, fun e => ?_, fun _ e => ?_, fun _ _ p hp => ?_⟩
     ·subst e
      cases rx'
      exact k H _ .refl R (.tup (by rw [hK]; exact hy) ry')
     ·subst e
      cases ry'
      rw [List.append_nil] at k
      exact k H _ .refl R (.tup (by rw [hK]; exact hx) rx')
     ·obtain ⟨n1, r1, x1⟩ := new_tup R (rx'.append ry') hp
      exact k _ _ n1 r1 x1
  ·cases q
 ·split at q
  ·rename_i a b q1 q2
   split at q
   ·rename_i c
    cases q
    obtain ⟨p1, vs, rfl, h1, r1⟩ := asM_at R vx q1
    obtain ⟨p2, ws, rfl, h2, r2⟩ := asM_at R vy q2
    have l1 := r1.length
    have l2 := r2.length
    have c2 := fits_ok c
    refine op_cat pins s σ H _ _ v u Q I rx ry ⟨p1, p2, vs, ws, rfl, rfl, h1, h2, by omega, fun p hp => ?_⟩
    obtain ⟨n1, rr, x1⟩ := new_lst R (r1.append r2) hp
    exact k _ _ n1 rr x1
   ·cases q
  ·cases q
theorem or_bin (hK : G.K = X.K) : ∀ {o : Operator} {op : Hh → D → D → Option D}, binD o = some op → OpR X (binaryOp o) (rD G op)
 | .Add, _, e => by cases e; exact or_add hK
 | .Sub, _, e => by cases e; exact or_sub
 | .Mult, _, e => by cases e; exact or_mul hK
 | .FloorDiv, _, e => by cases e; exact or_div
 | .Mod, _, e => by cases e; exact or_mod
 | .Pow, _, e => by cases e; exact or_pow
 | .RShift, _, e => by cases e; exact or_shr
 | .BitAnd, _, e => by cases e; exact or_and
 | .MatMult, _, e => by cases e
 | .Div, _, e => by cases e
 | .LShift, _, e => by cases e
 | .BitOr, _, e => by cases e
 | .BitXor, _, e => by cases e
end
def eqD (h : Hh) (x y : D) : Option Bool := match toPy (deref h x), toPy (deref h y) with
 | some a, some b => if SeqAt.shaped a = true ∧ SeqAt.shaped b = true then some (PyData.eqv a b) else none
 | _, _ => none
def isNon : D → Bool
 | .non => true
 | _ => false
def inD (h : Hh) (x y : D) : Option Bool := match y with
 | .str t => match x with
  | .str s => some (!(Builtin.Str.occurrences t s 0 t.length 1).isEmpty)
  | _ => none
 | y => match asK h y with
  | some l => match keyD x with
   | some k => some (valD l k).isSome
   | none => none
  | none => match toPy x, toPy (deref h y) with
   | some d, some (.list ds) => if SeqAt.shaped d = true ∧ SeqAt.shaped (.list ds) = true then some (ds.any fun z => PyData.eqv z d) else none
   | some d, some (.tuple ds) => if SeqAt.shaped d = true ∧ SeqAt.shaped (.tuple ds) = true then some (ds.any fun z => PyData.eqv z d) else none
   | _, _ => none
def ltD (p : Int → Int → Bool) (_ : Hh) (x y : D) : Option D := match x, y with
 | .int i, .int j => some (.bl (p i j))
 | _, _ => none
def isD (x y : D) : Option Bool := match y with
 | .non => some (isNon x)
 | .bl b => match x with
  | .bl a => some (a == b)
  | _ => none
 | _ => none
def sameF : D → D → Bool
 | .non, .non => true
 | .bl a, .bl b => a == b
 | .int i, .int j => decide (i = j)
 | .str x, .str y => decide (x = y)
 | _, _ => false
def eqKD (l m : List (Key × D)) : Bool := decide (l.length = m.length) && l.all fun p => match valD m p.1 with
 | some d => sameF p.2 d
 | none => false
def all2 (p : D → D → Bool) : List D → List D → Bool
 | [], [] => true
 | a :: l, b :: m => p a b && all2 p l m
 | _, _ => false
def asT : D → Option (List D)
 | .tup l => some l
 | _ => none
def eqT (h : Hh) : Nat → D → D → Bool
 | 0, _, _ => false
 | n + 1, x, y => sameF x y || ((match asT x, asT y with
  | some l, some m => all2 (eqT h n) l m
  | _, _ => false) || ((match asM h x, asM h y with
  | some l, some m => all2 (eqT h n) l m
  | _, _ => false) || match asK h x, asK h y with
  | some l, some m => decide (l.length = m.length) && l.all fun p => match valD m p.1 with
   | some d => eqT h n p.2 d
   | none => false
  | _, _ => false))
def eqLL (h : Hh) (x y : D) : Bool := match asM h x, asM h y with
 | some l, some m => all2 (eqT h 12) l m
 | _, _ => false
def eqDK (h : Hh) (x y : D) : Option Bool := match asK h x, asK h y with
 | some l, some m => if eqKD l m = true then some true else if l.length = m.length then none else some false
 | _, _ => if eqLL h x y = true then some true else none
def cEq (h : Hh) (x y : D) : Option D := match eqD h x y with
 | some b => some (.bl b)
 | none => (eqDK h x y).map fun b => .bl b
def cNe (h : Hh) (x y : D) : Option D := match eqD h x y with
 | some b => some (.bl (!b))
 | none => (eqDK h x y).map fun b => .bl (!b)
def cIs (_ : Hh) (x y : D) : Option D := (isD x y).map .bl
def cNot (_ : Hh) (x y : D) : Option D := (isD x y).map fun b => .bl (!b)
def cIn (h : Hh) (x y : D) : Option D := (inD h x y).map .bl
def cNin (h : Hh) (x y : D) : Option D := (inD h x y).map fun b => .bl (!b)
def cmpD : CmpOp → Hh → D → D → Option D
 | .Eq => cEq
 | .NotEq => cNe
 | .Lt => ltD fun i j => decide (i < j)
 | .LtE => ltD fun i j => decide (i ≤ j)
 | .Gt => ltD fun i j => decide (j < i)
 | .GtE => ltD fun i j => decide (j ≤ i)
 | .Is => cIs
 | .IsNot => cNot
 | .In => cIn
 | .NotIn => cNin
section
variable {X : Cx} {G : Cg}
theorem or_lt {o : CmpOp} {p : Int → Int → Bool} (ho : OpR X (compareOp o) (rI0 fun i j => .bl (p i j))) : OpR X (compareOp o) (rD G (ltD p)) := by
 intro pins s σ H x y v u Q I rx ry hq
 obtain ⟨S, h, d, e, z, R, vx, vy, q, k⟩ := hq
 unfold ltD at q
 split at q
 ·cases q
  cases vx
  cases vy
  exact ho pins s σ H _ _ v u Q I rx ry ⟨_, _, rfl, rfl, k H _ .refl R (.bl _)⟩
 ·cases q
theorem eqD_at {S : Rho} {h : Hh} {H : Hp} {d e : D} {x y : V} {b : Bool} (R : Rel G S h H) (vx : VD G S H d x) (vy : VD G S H e y) (q : eqD h d e = some b) : ∃ p p', Dp G.K H x p ∧ Dp G.K H y p' ∧ SeqAt.shaped p = true ∧ SeqAt.shaped p' = true ∧ b = PyData.eqv p p' := by
 unfold eqD at q
 split at q
 ·rename_i a c q1 q2
  split at q
  ·rename_i w
   cases q
   exact ⟨a, c, deref_at R vx q1, deref_at R vy q2, w.1, w.2, rfl⟩
  ·cases q
 ·cases q
theorem obj_rd {pins : List (Addr × Obj)} {σ : L2.St} {H : Hp} {s : Shared} {a : Addr} {ks : List (Key × V)} (I : Inv X pins σ H s) (r : Rd H a (.dK ks)) : ObjOk X.prog X.w H s.heap a (.dK ks) := by
 rcases r with r | ⟨o, r⟩
 ·exact I.hok a _ r
 ·exact (show s.heap.get? a = some o ∧ ObjOk X.prog X.w H s.heap a (.dK ks) from I.hok a _ r).2
theorem sameF_at {S : Rho} {H : Hp} {d e : D} {x y : V} (vx : VD G S H d x) (vy : VD G S H e y) (q : sameF d e = true) : x = y ∧ flatB x = true := by
 cases vx <;> cases vy <;> first | exact ⟨rfl, rfl⟩ | (have z := eq_of_beq (show (_ == _) = true from q); subst z; exact ⟨rfl, rfl⟩) | (have z := of_decide_eq_true (show decide _ = true from q); subst z; exact ⟨rfl, rfl⟩) | cases q
theorem VDk.mem {S : Rho} {H : Hp} : ∀ {l : List (Key × D)} {vs : List (Key × V)}, VDk G S H l vs → ∀ p ∈ vs, ∃ d, (p.1, d) ∈ l ∧ VD G S H d p.2
 | _, _, .nil, p, h => by cases h
 | _, _, .cons (k := k) (d := d) x t, p, h => by
  rcases List.mem_cons.mp h with e | h
  ·subst e
   exact ⟨d, List.mem_cons_self, x⟩
  ·obtain ⟨d', h1, h2⟩ := VDk.mem t p h
   exact ⟨d', List.mem_cons_of_mem _ h1, h2⟩
theorem eqKD_at {S : Rho} {H : Hp} {l m : List (Key × D)} {vs ws : List (Key × V)} (r : VDk G S H l vs) (r' : VDk G S H m ws) (q : eqKD l m = true) : vs.length = ws.length ∧ ∀ p ∈ vs, valV ws p.1 = some p.2 ∧ flatB p.2 = true := by
 unfold eqKD at q
 simp only [Bool.and_eq_true, decide_eq_true_eq, List.all_eq_true] at q
 refine ⟨by rw [← r.length, ← r'.length]; exact q.1, fun p hp => ?_⟩
 obtain ⟨d, h1, h2⟩ := r.mem p hp
 have z := q.2 _ h1
 rcases r'.val p.1 with ⟨e1, _⟩ | ⟨d1, w1, e1, e2, r1⟩
 ·rw [e1] at z; cases z
 ·rw [e1] at z
  obtain ⟨z1, z2⟩ := sameF_at h2 r1 z
  exact ⟨by rw [e2, z1], z2⟩
theorem kv_mem {ks : List (Key × V)} {va : List (Key × Value)} (ra : KV ks va) : ∀ k v, (k, v) ∈ va → ∃ x, (k, x) ∈ ks ∧ RelV x v := by
 unfold KV at ra
 induction ra with
 | nil => intro k v h; cases h
 | @cons p q ps qs h t ih =>
  intro k v hm
  obtain ⟨h1, h2⟩ := h
  rcases List.mem_cons.mp hm with e | hm
  ·subst e
   have h1' : p.1 = k := h1
   exact ⟨p.2, by rw [← h1']; exact List.mem_cons_self, h2⟩
  ·obtain ⟨x, a, b⟩ := ih k v hm
   exact ⟨x, List.mem_cons_of_mem _ a, b⟩
theorem all2_at {P : Program} {w : World} {s : Shared} {S : Rho} {H : Hp} {n : Nat} {p : D → D → Bool} (ih : ∀ {d e : D} {x y : V} {v u : Value}, VD G S H d x → VD G S H e y → RelV x v → RelV y u → p d e = true → PySem.W.EqTree P w s n v u true) :
  ∀ {l m : List D} {vs ws : List V}, VDs G S H l vs → VDs G S H m ws → all2 p l m = true → ∀ {its js : List Value}, Vals vs its → Vals ws js → its.length = js.length ∧ ∀ j (h1 : j < its.length) (h2 : j < js.length), PySem.W.EqTree P w s n its[j] js[j] true
 | _, _, _, _, .nil, .nil, _, _, _, .nil, .nil => ⟨rfl, fun j h1 => absurd h1 (Nat.not_lt_zero j)⟩
 | _, _, _, _, .cons a t, .cons b q, h, _, _, .cons a1 t1, .cons b1 q1 => by
  have h2 : (p _ _ && all2 p _ _) = true := h
  obtain ⟨h3, h4⟩ := Bool.and_eq_true_iff.mp h2
  obtain ⟨e, k⟩ := all2_at ih t q h4 t1 q1
  refine ⟨by simp [e], fun j h1 h2 => ?_⟩
  cases j with
  | zero => exact ih a b a1 b1 h3
  | succ j => exact k j (Nat.lt_of_succ_lt_succ h1) (Nat.lt_of_succ_lt_succ h2)
 | _, _, _, _, .nil, .cons _ _, h, _, _, _, _ => by cases h
 | _, _, _, _, .cons _ _, .nil, h, _, _, _, _ => by cases h
theorem range_true (n : Nat) : ((List.range n).all fun _ => true) = true := List.all_eq_true.mpr fun _ _ => rfl
theorem eqT_at (hK : G.K = X.K) {pins : List (Addr × Obj)} {σ : L2.St} {S : Rho} {h : Hh} {H : Hp} {s : Shared} (I : Inv X pins σ H s) (R : Rel G S h H) : ∀ (n : Nat) {d e : D} {x y : V} {v u : Value}, VD G S H d x → VD G S H e y → RelV x v → RelV y u → eqT h n d e = true → PySem.W.EqTree X.prog X.w s n v u true
 | 0, _, _, _, _, _, _, _, _, _, _, q => by cases q
 | n + 1, d, e, x, y, v, u, vx, vy, rx, ry, q => by
  have q2 : (sameF d e || ((match asT d, asT e with
   | some l, some m => all2 (eqT h n) l m
   | _, _ => false) || ((match asM h d, asM h e with
   | some l, some m => all2 (eqT h n) l m
   | _, _ => false) || match asK h d, asK h e with
   | some l, some m => decide (l.length = m.length) && l.all fun p => match valD m p.1 with
    | some d => eqT h n p.2 d
    | none => false
   | _, _ => false))) = true := q
  rcases (Bool.or_eq_true _ _).mp q2 with qa | qa
  ·obtain ⟨rfl, f⟩ := sameF_at vx vy qa
   exact .leaf fun A _ => eqAt_same rx ry f
  ·clear q2
   rcases (Bool.or_eq_true _ _).mp qa with qb | qb
   ·clear qa
    split at qb
    ·rename_i l m e1 e2
     unfold asT at e1 e2
     split at e1
     ·cases e1
      split at e2
      ·cases e2
       cases vx with
       | @tup _ a vs q1 r1 =>
        cases vy with
        | @tup _ b ws q3 r3 =>
         rw [hK] at q1 q3
         obtain rfl : v = Value.ref a := rx
         obtain rfl : u = Value.ref b := ry
         by_cases ab : a = b
         ·subst ab; exact .same
         ·obtain ⟨its, w1, p1, _⟩ := I.tuple q1
          obtain ⟨js, w2, p2, _⟩ := I.tuple q3
          obtain ⟨hl, hj⟩ := all2_at (fun a b c d e => eqT_at hK I R n a b c d e) r1 r3 qb w1 w2
          have z := PySem.W.EqTree.tuples (prog := X.prog) (w := X.w) (n := n) (e := fun _ => true) ab p1 p2 (fun j h1 h2 => by
           have := hj j (by simpa using h1) (by simpa using h2)
           simpa using this)
          rw [range_true] at z
          have e : (its.toArray.size == js.toArray.size) = true := by simp [hl]
          rw [e] at z
          exact z
      ·cases e2
     ·cases e1
    ·cases qb
   ·clear qa
    rcases (Bool.or_eq_true _ _).mp qb with qc | qc
    ·clear qb
     split at qc
     ·rename_i l m e1 e2
      obtain ⟨a, vs, rfl, ea, ra⟩ := asM_at R vx e1
      obtain ⟨b, ws, rfl, eb, rb⟩ := asM_at R vy e2
      obtain rfl : v = Value.ref a := rx
      obtain rfl : u = Value.ref b := ry
      by_cases ab : a = b
      ·subst ab; exact .same
      ·obtain ⟨its, w1, p1, _⟩ := I.list (.inl (.inl ea))
       obtain ⟨js, w2, p2, _⟩ := I.list (.inl (.inl eb))
       obtain ⟨hl, hj⟩ := all2_at (fun a b c d e => eqT_at hK I R n a b c d e) ra rb qc w1 w2
       have z := PySem.W.EqTree.lists (prog := X.prog) (w := X.w) (n := n) (e := fun _ => true) ab p1.isList p2.isList (by simp [hl]) (fun j h1 h2 => by
        have := hj j (by simpa using h1) (by simpa using h2)
        simpa using this)
       rw [range_true] at z
       exact z
     ·cases qc
    ·clear qb
     split at qc
     ·rename_i l m e1 e2
      obtain ⟨q3, q4⟩ := Bool.and_eq_true_iff.mp qc
      have hlen := of_decide_eq_true q3
      rw [List.all_eq_true] at q4
      obtain ⟨a, ks, rfl, ea, ra⟩ := asK_at R vx e1
      obtain ⟨b, ls, rfl, eb, rb⟩ := asK_at R vy e2
      obtain rfl : v = Value.ref a := rx
      obtain rfl : u = Value.ref b := ry
      by_cases ab : a = b
      ·subst ab; exact .same
      ·obtain ⟨_, ya, va, wa, da⟩ := obj_rd I ea
       obtain ⟨_, yb, vb, wb, db⟩ := obj_rd I eb
       have at_ : ∀ k v, (k, v) ∈ va → ∃ y, valueAt vb k = some y ∧ PySem.W.EqTree X.prog X.w s n v y true := fun k v hm => by
        obtain ⟨x, hx, rv⟩ := kv_mem wa k v hm
        obtain ⟨d', hd, vd⟩ := ra.mem _ hx
        have z := q4 _ hd
        rcases rb.val k with ⟨e3, _⟩ | ⟨d1, w1, e3, e4, r1⟩
        ·rw [e3] at z; cases z
        ·rw [e3] at z
         have rr : RelO (some w1) (valueAt vb k) := by rw [← e4]; exact wb.val k
         obtain ⟨y, hy, ry⟩ := rr.some_of
         exact ⟨y, hy, eqT_at hK I R n vd r1 rv ry z⟩
       have z := PySem.W.EqTree.dicts (prog := X.prog) (w := X.w) (knd := mixKind X.prog X.w) (n := n) (e := fun _ => true) ab ya yb da db (fun k v y hm hv => by
        obtain ⟨y', hy, t⟩ := at_ k v hm
        rw [hv] at hy
        cases hy
        exact t)
       have lv : va.length = vb.length := by rw [← wa.length, ← wb.length, ← ra.length, ← rb.length]; exact hlen
       have al : (va.all fun p => (valueAt vb p.1).isSome && true) = true := List.all_eq_true.mpr fun p hp => by
        obtain ⟨y, hy, _⟩ := at_ p.1 p.2 hp
        rw [hy]; rfl
       rw [al, lv] at z
       simpa using z
     ·cases qc
theorem or_eq (hK : G.K = X.K) (hu : X.A.units + 65 < cLine) : OpR X (compareOp .Eq) (rD G cEq) := by
 intro pins s σ H x y v u Q I rx ry hq
 obtain ⟨S, h, d, e, z, R, vx, vy, q, k⟩ := hq
 unfold cEq at q
 split at q
 ·rename_i b q1
  cases q
  obtain ⟨p, p', h1, h2, h3, h4, rfl⟩ := eqD_at R vx vy q1
  rw [hK] at h1 h2
  exact op_eqD (by omega) pins s σ H _ _ v u Q I rx ry ⟨p, p', h1, h2, h3, h4, k H _ .refl R (.bl _)⟩
 ·obtain ⟨_, q1, rfl⟩ := Option.map_eq_some_iff.mp q
  unfold eqDK at q1
  split at q1
  ·rename_i l m ql qm
   split at q1
   ·rename_i c
    cases q1
    obtain ⟨a, ks, rfl, ea, ra⟩ := asK_at R vx ql
    obtain ⟨b, ls, rfl, eb, rb⟩ := asK_at R vy qm
    obtain ⟨hlen, hp⟩ := eqKD_at ra rb c
    obtain rfl : v = Value.ref a := rx
    obtain rfl : u = Value.ref b := ry
    obtain ⟨_, ya, va, ra, da⟩ := obj_rd I ea
    obtain ⟨_, yb, vb, rb, db⟩ := obj_rd I eb
    have hl : va.length = vb.length := by rw [← ra.length, ← rb.length]; exact hlen
    exact PySem.W.keq_eq (knd := mixKind X.prog X.w) (r := true) ya yb da db (by omega) (fun _ => hits_all rb ra hp) (fin_bl I (k H _ .refl R (.bl true)) (by simp [hl]))
   ·split at q1
    ·cases q1
    ·rename_i c
     cases q1
     obtain ⟨a, ks, rfl, ea, ra⟩ := asK_at R vx ql
     obtain ⟨b, ls, rfl, eb, rb⟩ := asK_at R vy qm
     obtain rfl : v = Value.ref a := rx
     obtain rfl : u = Value.ref b := ry
     obtain ⟨_, ya, va, ra', da⟩ := obj_rd I ea
     obtain ⟨_, yb, vb, rb', db⟩ := obj_rd I eb
     have hl : ¬ va.length = vb.length := by rw [← ra'.length, ← rb'.length, ← ra.length, ← rb.length]; exact c
     exact PySem.W.keq_eq (knd := mixKind X.prog X.w) (r := true) ya yb da db (by omega) (fun z => absurd z hl) (fin_bl I (k H _ .refl R (.bl false)) (by simp [hl]))
  ·split at q1
   ·rename_i c
    cases q1
    unfold eqLL at c
    split at c
    ·rename_i l m e1 e2
     obtain ⟨a, vs, rfl, ea, ra⟩ := asM_at R vx e1
     obtain ⟨b, ws, rfl, eb, rb⟩ := asM_at R vy e2
     obtain rfl : v = Value.ref a := rx
     obtain rfl : u = Value.ref b := ry
     obtain ⟨its, w1, p1, _⟩ := I.list (.inl (.inl ea))
     obtain ⟨js, w2, p2, _⟩ := I.list (.inl (.inl eb))
     obtain ⟨hl, hj⟩ := all2_at (fun a b c d e => eqT_at hK I R 12 a b c d e) ra rb c w1 w2
     exact PySem.W.eq_listsT (e := fun _ => true) p1.isList p2.isList (by simp [hl]) (fun j h1 h2 => by
      have := hj j (by simpa using h1) (by simpa using h2)
      simpa using this) (by omega) (by rw [range_true]; exact ⟨.bl true, H, I, rfl, k H _ .refl R (.bl true)⟩)
    ·cases c
   ·cases q1
theorem or_ne (hK : G.K = X.K) (hu : X.A.units + 65 < cLine) : OpR X (compareOp .NotEq) (rD G cNe) := by
 intro pins s σ H x y v u Q I rx ry hq
 obtain ⟨S, h, d, e, z, R, vx, vy, q, k⟩ := hq
 unfold cNe at q
 split at q
 ·rename_i b q1
  cases q
  obtain ⟨p, p', h1, h2, h3, h4, rfl⟩ := eqD_at R vx vy q1
  rw [hK] at h1 h2
  exact op_neD (by omega) pins s σ H _ _ v u Q I rx ry ⟨p, p', h1, h2, h3, h4, k H _ .refl R (.bl _)⟩
 ·obtain ⟨_, q1, rfl⟩ := Option.map_eq_some_iff.mp q
  unfold eqDK at q1
  split at q1
  ·rename_i l m ql qm
   split at q1
   ·rename_i c
    cases q1
    obtain ⟨a, ks, rfl, ea, ra⟩ := asK_at R vx ql
    obtain ⟨b, ls, rfl, eb, rb⟩ := asK_at R vy qm
    obtain ⟨hlen, hp⟩ := eqKD_at ra rb c
    obtain rfl : v = Value.ref a := rx
    obtain rfl : u = Value.ref b := ry
    obtain ⟨_, ya, va, ra, da⟩ := obj_rd I ea
    obtain ⟨_, yb, vb, rb, db⟩ := obj_rd I eb
    have hl : va.length = vb.length := by rw [← ra.length, ← rb.length]; exact hlen
    exact PySem.W.keq_ne (knd := mixKind X.prog X.w) (r := true) ya yb da db (by omega) (fun _ => hits_all rb ra hp) (fin_bl I (k H _ .refl R (.bl false)) (by simp [hl]))
   ·split at q1
    ·cases q1
    ·rename_i c
     cases q1
     obtain ⟨a, ks, rfl, ea, ra⟩ := asK_at R vx ql
     obtain ⟨b, ls, rfl, eb, rb⟩ := asK_at R vy qm
     obtain rfl : v = Value.ref a := rx
     obtain rfl : u = Value.ref b := ry
     obtain ⟨_, ya, va, ra', da⟩ := obj_rd I ea
     obtain ⟨_, yb, vb, rb', db⟩ := obj_rd I eb
     have hl : ¬ va.length = vb.length := by rw [← ra'.length, ← rb'.length, ← ra.length, ← rb.length]; exact c
     exact PySem.W.keq_ne (knd := mixKind X.prog X.w) (r := true) ya yb da db (by omega) (fun z => absurd z hl) (fin_bl I (k H _ .refl R (.bl true)) (by simp [hl]))
  ·split at q1
   ·rename_i c
    cases q1
    unfold eqLL at c
    split at c
    ·rename_i l m e1 e2
     obtain ⟨a, vs, rfl, ea, ra⟩ := asM_at R vx e1
     obtain ⟨b, ws, rfl, eb, rb⟩ := asM_at R vy e2
     obtain rfl : v = Value.ref a := rx
     obtain rfl : u = Value.ref b := ry
     obtain ⟨its, w1, p1, _⟩ := I.list (.inl (.inl ea))
     obtain ⟨js, w2, p2, _⟩ := I.list (.inl (.inl eb))
     obtain ⟨hl, hj⟩ := all2_at (fun a b c d e => eqT_at hK I R 12 a b c d e) ra rb c w1 w2
     exact rcNe_lists p1.isList p2.isList (by simp [hl]) (by omega) (fun j h1 h2 => by
      have := hj j (by simpa using h1) (by simpa using h2)
      exact (by simpa using this : PySem.W.EqTree X.prog X.w s 12 _ _ true).at X.A.in1 (by show X.A.units + 1 + 12 < cLine; omega)) ⟨.bl false, H, I, rfl, k H _ .refl R (.bl false)⟩
    ·cases c
   ·cases q1
theorem isNon_at {S : Rho} {H : Hp} {d : D} {x : V} (vx : VD G S H d x) : decide (x = .non) = isNon d := by
 cases vx <;> first | rfl | exact decide_eq_false (fun z => by cases z)
theorem beq_dec (a b : Bool) : (a == b) = decide (a = b) := by cases a <;> cases b <;> rfl
theorem or_is : OpR X (compareOp .Is) (rD G cIs) := by
 intro pins s σ H x y v u Q I rx ry hq
 obtain ⟨S, h, d, e, z, R, vx, vy, q, k⟩ := hq
 obtain ⟨b, q0, rfl⟩ := Option.map_eq_some_iff.mp q
 replace q := q0
 unfold isD at q
 split at q
 ·cases q
  cases vy
  exact op_isN pins s σ H _ _ v u Q I rx ry ⟨rfl, k H _ .refl R (by rw [isNon_at vx]; exact .bl _)⟩
 ·split at q
  ·cases q
   cases vx
   cases vy
   exact op_isBl pins s σ H _ _ v u Q I rx ry ⟨_, _, rfl, rfl, k H _ .refl R (by rw [beq_dec]; exact .bl _)⟩
  ·cases q
 ·cases q
theorem or_not : OpR X (compareOp .IsNot) (rD G cNot) := by
 intro pins s σ H x y v u Q I rx ry hq
 obtain ⟨S, h, d, e, z, R, vx, vy, q, k⟩ := hq
 obtain ⟨b, q0, rfl⟩ := Option.map_eq_some_iff.mp q
 replace q := q0
 unfold isD at q
 split at q
 ·cases q
  cases vy
  exact op_notN pins s σ H _ _ v u Q I rx ry ⟨rfl, k H _ .refl R (by rw [isNon_at vx]; exact .bl _)⟩
 ·split at q
  ·cases q
   cases vx
   cases vy
   exact op_notBl pins s σ H _ _ v u Q I rx ry ⟨_, _, rfl, rfl, k H _ .refl R (by rw [beq_dec]; exact .bl _)⟩
  ·cases q
 ·cases q
theorem inD_at {S : Rho} {h : Hh} {H : Hp} {d e : D} {x y : V} {b : Bool} (R : Rel G S h H) (vx : VD G S H d x) (vy : VD G S H e y) (q : inD h d e = some b) :
  (∃ s t, x = .str s ∧ y = .str t ∧ b = !(Builtin.Str.occurrences t s 0 t.length 1).isEmpty) ∨ (∃ a o, y = .ref a ∧ DGet H a x o ∧ b = o.isSome) ∨
   (∃ p ds, Dp G.K H x p ∧ Dp G.K H y (.list ds) ∧ SeqAt.shaped p = true ∧ SeqAt.shaped (.list ds) = true ∧ b = ds.any fun z => PyData.eqv z p) ∨
   ∃ p ds, Dp G.K H x p ∧ Dp G.K H y (.tuple ds) ∧ SeqAt.shaped p = true ∧ SeqAt.shaped (.tuple ds) = true ∧ b = ds.any fun z => PyData.eqv z p := by
 unfold inD at q
 split at q
 ·split at q
  ·cases q
   cases vx
   cases vy
   exact .inl ⟨_, _, rfl, rfl, rfl⟩
  ·cases q
 ·split at q
  ·rename_i l ql
   split at q
   ·rename_i j qk
    cases q
    obtain ⟨a, vs, rfl, ha, r⟩ := asK_at R vy ql
    have ek := keyD_at vx qk
    subst ek
    refine .inr (.inl ⟨a, valV vs j, rfl, .inl ⟨vs, j, ha, rfl, rfl⟩, ?_⟩)
    rcases r.val j with ⟨e1, e2⟩ | ⟨d1, v1, e1, e2, _⟩ <;> rw [e1, e2] <;> rfl
   ·cases q
  ·split at q
   ·rename_i p ds q1 q2
    split at q
    ·rename_i c
     cases q
     exact .inr (.inr (.inl ⟨p, ds, toPy_at vx q1, deref_at R vy q2, c.1, c.2, rfl⟩))
    ·cases q
   ·rename_i p ds q1 q2
    split at q
    ·rename_i c
     cases q
     exact .inr (.inr (.inr ⟨p, ds, toPy_at vx q1, deref_at R vy q2, c.1, c.2, rfl⟩))
    ·cases q
   ·cases q
theorem or_in (hK : G.K = X.K) (hu : X.A.units + 65 < cLine) : OpR X (compareOp .In) (rD G cIn) := by
 intro pins s σ H x y v u Q I rx ry hq
 obtain ⟨S, h, d, e, z, R, vx, vy, q, k⟩ := hq
 obtain ⟨b, q0, rfl⟩ := Option.map_eq_some_iff.mp q
 replace q := q0
 have fin := k H _ .refl R (.bl b)
 rcases inD_at R vx vy q with ⟨s1, t1, rfl, rfl, rfl⟩ | ⟨a, o, rfl, g, rfl⟩ | ⟨p, ds, h1, h2, h3, h4, rfl⟩ | ⟨p, ds, h1, h2, h3, h4, rfl⟩
 ·exact op_in_str pins s σ H _ _ v u Q I rx ry ⟨_, _, rfl, rfl, fin⟩
 ·obtain rfl : u = Value.ref a := ry
  exact d_in (by omega) I g rx fun s3 I3 => ⟨.bl o.isSome, H, I3, rfl, fin⟩
 ·rw [hK] at h1 h2
  exact op_inD hu pins s σ H _ _ v u Q I rx ry ⟨p, ds, h1, h2, h3, h4, fin⟩
 ·rw [hK] at h1 h2
  obtain ⟨as, r1⟩ := Dp.reads I p x v h1 rx
  obtain ⟨bs, r2⟩ := Dp.reads I (.tuple ds) y u h2 ry
  exact SeqAt.in_tuple_reads r2 r1 (SeqAt.canLay_of_shaped h4) (SeqAt.canLay_of_shaped h3) (room_in_shaped h3 hu) ⟨.bl _, H, I, rfl, fin⟩
theorem or_nin (hK : G.K = X.K) (hu : X.A.units + 65 < cLine) : OpR X (compareOp .NotIn) (rD G cNin) := by
 intro pins s σ H x y v u Q I rx ry hq
 obtain ⟨S, h, d, e, z, R, vx, vy, q, k⟩ := hq
 obtain ⟨b, q0, rfl⟩ := Option.map_eq_some_iff.mp q
 replace q := q0
 have fin := k H _ .refl R (.bl (!b))
 rcases inD_at R vx vy q with ⟨s1, t1, rfl, rfl, rfl⟩ | ⟨a, o, rfl, g, rfl⟩ | ⟨p, ds, h1, h2, h3, h4, rfl⟩ | ⟨p, ds, h1, h2, h3, h4, rfl⟩
 ·exact op_notin_str pins s σ H _ _ v u Q I rx ry ⟨_, _, rfl, rfl, fin⟩
 ·obtain rfl : u = Value.ref a := ry
  exact d_notIn (by omega) I g rx fun s3 I3 => ⟨.bl (!o.isSome), H, I3, rfl, fin⟩
 ·rw [hK] at h1 h2
  exact op_notInD hu pins s σ H _ _ v u Q I rx ry ⟨p, ds, h1, h2, h3, h4, fin⟩
 ·rw [hK] at h1 h2
  obtain ⟨as, r1⟩ := Dp.reads I p x v h1 rx
  obtain ⟨bs, r2⟩ := Dp.reads I (.tuple ds) y u h2 ry
  exact SeqAt.notIn_tuple_reads r2 r1 (SeqAt.canLay_of_shaped h4) (SeqAt.canLay_of_shaped h3) (room_in_shaped h3 hu) ⟨.bl _, H, I, rfl, fin⟩
theorem or_cmp (hK : G.K = X.K) (hu : X.A.units + 65 < cLine) : ∀ o : CmpOp, OpR X (compareOp o) (rD G (cmpD o))
 | .Eq => or_eq hK hu
 | .NotEq => or_ne hK hu
 | .Lt => or_lt op_lt
 | .LtE => or_lt op_le
 | .Gt => or_lt op_gt
 | .GtE => or_lt op_ge
 | .Is => or_is
 | .IsNot => or_not
 | .In => or_in hK hu
 | .NotIn => or_nin hK hu
end
end Sb
namespace Sb
open L2 PySem PySem.Spec PyProof.Rows
def opIdx (h : Hh) (x y : D) : Option D := match asK h x with
 | some l => match keyD y with
  | some k => valD l k
  | none => none
 | none => match y with
  | .int i => match x with
   | .str s => if fits s.length = true then (atI s.cps.toList i).map fun c => .str ⟨#[c]⟩ else none
   | .tup l => atI l i
   | x => match asL h x with
    | some l => atI l i
    | none => none
  | .bl b => match asL h x with
   | some l => atI l (if b = true then 1 else 0)
   | none => none
  | _ => none
theorem VDs.atI {G : Cg} {S : Rho} {H : Hp} {l : List D} {vs : List V} {i : Int} {d : D} (r : VDs G S H l vs) (e : L2.atI l i = some d) : ∃ v, L2.atI vs i = some v ∧ VD G S H d v := by
 unfold L2.atI at e ⊢
 rw [← r.length]
 cases q : ixN l.length i with
 | none => rw [q] at e; cases e
 | some j =>
  rw [q] at e
  exact r.get (i := j) e
theorem ix_dict {X : Cx} (hu : X.A.units + 1 < cLine) : IxR X (fun x y H Q => ∃ a v, x = .ref a ∧ DGet H a y (some v) ∧ Q v H) := by
 intro value slice pins s σ H x y v u Q I rx ry h hs
 obtain ⟨a, z, rfl, g, q⟩ := h
 obtain rfl : v = Value.ref a := rx
 exact tail_any (dict_typeIs I g) PySem.F.slot_dict_getitem.lookup (d_getItem hu I g ry fun w' s' I' rw' => ⟨z, H, I', rw', q⟩) hs
section
variable {M : Model} {A : Around} {E : Value → Shared → Prop} {s : Shared}
theorem lsub_bool {b : Bool} {Q : Option Int → Shared → Prop} (h : Q (some (if b = true then 1 else 0)) s) : wpAny M A (Builtin.List.listSubscript? (.bool b)) Q E s := by
 unfold Builtin.List.listSubscript?
 refine wpAny_bind (wpAny_specialOf (T := "bool") (PySem.typeIs_bool s b) F.slot_bool_index.lookup ?_)
 show wpAny M A (asIndex (.bool b) >>= _) Q E s
 cases b
 ·refine wpAny_bind (wpAny_of_eq (a := 0) rfl ?_)
  show wpAny M A (if (!Builtin.List.listFitsIndex 0) = true then _ else _) Q E s
  rw [if_neg (by decide)]
  exact wpAny_pure h
 ·refine wpAny_bind (wpAny_of_eq (a := 1) rfl ?_)
  show wpAny M A (if (!Builtin.List.listFitsIndex 1) = true then _ else _) Q E s
  rw [if_neg (by decide)]
  exact wpAny_pure h
end
section
variable {prog : Program} {w : World} {A : Around} {E : Value → Shared → Prop} {s : Shared}
theorem getItem_bool {l : Addr} {items : Array Value} {b : Bool} {x : Value} {Q : Value → Shared → Prop} (hl : s.heap.IsList l items)
  (hx : items[if b = true then 1 else 0]? = some x) (h : Q x s) : wpAny (model prog w) A (getItem (.ref l) (.bool b)) Q E s := by
 obtain ⟨o, ho, hc, ne, hd⟩ := id hl
 unfold getItem
 try with_reducible refine wpAny_holding ?_
 first | refine wpAny_bind (wpAny_pure ?_) | skip
 refine wpAny_bind (wpAny_sequenceKey hl.typeIs (by decide) ?_)
 refine wpAny_bind (wpAny_callSpecial?_slot (name := Str.ofString "__getitem__") hl.typeIs slot_list_getitem
  (wpAny_call_entry slot_list_getitem hl.typeIs entry_list_getitem ?_ (args_list_getitem _ _)))
 show wpAny _ _ (Builtin.List.listSubscript? (.bool b) >>= _) _ _ s
 refine wpAny_bind (lsub_bool ?_)
 cases b
 ·have hx' : items[0]? = some x := hx
  show wpAny _ _ ((seqItemAt l 0 >>= fun r => pure (r.map (0, ·))) >>= _) _ _ s
  refine wpAny_bind (wpAny_bind (wpAny_seqItemAt ho hd (wpAny_pure ?_)))
  rw [hx']
  first
   | exact wpAny_bind (wpAny_pure (wpAny_pure ⟨x, rfl, wpAny_pure h⟩))
   | exact wpAny_pure ⟨x, rfl, wpAny_pure h⟩
 ·have hx' : items[1]? = some x := hx
  show wpAny _ _ ((seqItemAt l 1 >>= fun r => pure (r.map (1, ·))) >>= _) _ _ s
  refine wpAny_bind (wpAny_bind (wpAny_seqItemAt ho hd (wpAny_pure ?_)))
  rw [hx']
  first
   | exact wpAny_bind (wpAny_pure (wpAny_pure ⟨x, rfl, wpAny_pure h⟩))
   | exact wpAny_pure ⟨x, rfl, wpAny_pure h⟩
end
theorem ix_lbool {X : Cx} : IxR X (fun x y H Q => ∃ p xs b v, x = .ref p ∧ y = .bl b ∧ SqL X.K H p xs ∧ atI xs (if b = true then 1 else 0) = some v ∧ Q v H) := by
 intro value slice pins s σ H x y v u Q I rx ry h hs
 obtain ⟨p, xs, b, z, rfl, rfl, hq, he, q⟩ := h
 cases rx
 obtain rfl : u = Value.bool b := ry
 obtain ⟨its, r, pl, hz⟩ := I.list hq
 obtain ⟨j, h1, h2, h3, h4, h5⟩ := atI_get he
 obtain ⟨w, ew, rw'⟩ := r.get h2
 have hj : (if b = true then 1 else 0) = j := by
  rw [seqIndex_of (by split <;> omega) h5] at h1
  have := Option.some.inj h1
  rw [← this]
  split <;> rfl
 exact subscriptTail_builtinR (x := w) pl.isList.typeIs slot_list_getitem.lookup
  (getItem_bool (Q := fun r s' => r = w ∧ EP X pins σ Q r s') pl.isList (by rw [hj]; simpa using ew) ⟨rfl, ⟨z, H, I, rw', q⟩⟩) hs
theorem ix_all {X : Cx} {G : Cg} (hK : G.K = X.K) (hu : X.A.units + 1 < cLine) : IxR X (rD G opIdx) := by
 intro value slice pins s σ H x y v u Q I rx ry hq hs
 obtain ⟨S, h, d, e, z, R, vx, vy, q, k⟩ := hq
 unfold opIdx at q
 split at q
 ·rename_i l ql
  split at q
  ·rename_i j qk
   obtain ⟨a, vs, rfl, ha, r⟩ := asK_at R vx ql
   have ek := keyD_at vy qk
   subst ek
   rcases r.val j with ⟨e1, _⟩ | ⟨d1, v1, e1, e2, r1⟩
   ·rw [e1] at q; cases q
   ·rw [e1] at q
    cases q
    exact ix_dict hu value slice pins s σ H _ _ v u Q I rx ry ⟨a, v1, rfl, .inl ⟨vs, j, ha, rfl, e2.symm⟩, k H _ .refl R r1⟩ hs
  ·cases q
 ·split at q
  ·rename_i i
   cases vy
   split at q
   ·rename_i t
    split at q
    ·rename_i c
     obtain ⟨c1, e1, rfl⟩ := Option.map_eq_some_iff.mp q
     cases vx
     exact ix_str value slice pins s σ H _ _ v u Q I rx ry ⟨_, _, c1, rfl, rfl, fits_ok c, e1, k H _ .refl R (.str _)⟩ hs
    ·cases q
   ·rename_i l
    cases vx with
    | tup ha r =>
     obtain ⟨v1, e1, r1⟩ := r.atI q
     rw [hK] at ha
     exact ix_tup value slice pins s σ H _ _ v u Q I rx ry ⟨_, _, _, v1, rfl, rfl, ha, e1, k H _ .refl R r1⟩ hs
   ·split at q
    ·rename_i l ql
     obtain ⟨a, vs, rfl, ha, r⟩ := asL_at R vx ql
     obtain ⟨v1, e1, r1⟩ := r.atI q
     rw [hK] at ha
     exact ix_list value slice pins s σ H _ _ v u Q I rx ry ⟨_, _, _, v1, rfl, rfl, ha, e1, k H _ .refl R r1⟩ hs
    ·cases q
  ·rename_i b
   cases vy
   split at q
   ·rename_i l ql
    obtain ⟨a, vs, rfl, ha, r⟩ := asL_at R vx ql
    obtain ⟨v1, e1, r1⟩ := r.atI q
    rw [hK] at ha
    exact ix_lbool value slice pins s σ H _ _ v u Q I rx ry ⟨_, _, _, v1, rfl, rfl, ha, e1, k H _ .refl R r1⟩ hs
   ·cases q
  ·cases q
def noSlice : Expr → Bool
 | .Slice _ _ _ _ => false
 | _ => true
theorem plain_of {b : Expr} (h : noSlice b = true) : PlainIx b := by
 cases b <;> first | exact fun _ _ => rfl | cases h
section
variable {X : Cx} {G : Cf} {W : WX} {a b : Expr} {f g : F D} {pos : Pos}
theorem e_idx (hK : G.K = X.K) (hu : X.A.units + 1 < cLine) (ha : PE X a (tE G W f)) (hb : PE X b (tE G W g)) (hs : noSlice b = true) : PE X (.Subscript a b pos) (tE G W (dB f g opIdx)) :=
 PE.imp (pe_ix (ix_all hK hu) ha hb (plain_of hs)) fun _ _ _ h => tE_op h
end
def cut {α : Type} (xs : List α) (lo hi : Option Int) : List α := (xs.drop (HT.sIx xs.length 0 lo)).take (HT.sIx xs.length xs.length hi - HT.sIx xs.length 0 lo)
theorem VDs.cut {G : Cg} {S : Rho} {H : Hp} {l : List D} {vs : List V} (r : VDs G S H l vs) (lo hi : Option Int) : VDs G S H (Sb.cut l lo hi) (cutV vs lo hi) := by
 unfold Sb.cut cutV
 rw [r.length]
 exact (r.drop _).take _
theorem cut_whole {α : Type} {xs : List α} {n : Nat} {lo hi : Option Int} (e : xs.length = n) (h1 : HT.sIx n 0 lo = 0) (h2 : HT.sIx n n hi = n) : Sb.cut xs lo hi = xs := by
 unfold Sb.cut
 rw [e, h1, h2, List.drop_zero, Nat.sub_zero, ← e, List.take_length]
def opSl (h : Hh) (x : D) (lo hi : Option Int) : Option D := match x with
 | .str s => if fits s.length = true then some (.str (cutS s lo hi)) else none
 | .tup l => some (.tup (cut l lo hi))
 | x => match asL h x with
  | some l => some (.lst (cut l lo hi))
  | none => none
def pNone : F (Option Int) := fun _ h => .ok none h
def pSome (f : F D) : F (Option Int) := fun e h => (f e h).bind fun d h1 => match d with
 | .int i => .ok (some i) h1
 | _ => .fail
def dSl (f : F D) (lo hi : F (Option Int)) : F D := fun e h => (f e h).bind fun x h1 => (lo e h1).bind fun l h2 => (hi e h2).bind fun u h3 => opt h3 (opSl h3 x l u)
def relO : Rho → Hp → Option Int → Option Int → Prop := fun _ _ a b => a = b
abbrev tO (G : Cf) (W : WX) (f : F (Option Int)) : TO := tX G W relO f
def rSl (G : Cg) : V → Option Int → Option Int → Hp → VK → Prop := fun x lo hi H Q => ∃ S h d z, Rel G S h H ∧ VD G S H d x ∧ opSl h d lo hi = some z ∧ ∀ H' v, Nx G S H S H' → Rel G S h H' → VD G S H' z v → Q v H'
theorem sl_all {X : Cx} {G : Cg} (hK : G.K = X.K) : SlR X (rSl G) := by
 intro pins s σ H x v vl vu lo hi sl Q I rx hs pl pu hq
 obtain ⟨S, h, d, z, R, vx, q, k⟩ := hq
 unfold opSl at q
 split at q
 ·split at q
  ·rename_i c
   cases q
   cases vx
   exact sl_str pins s σ H _ v vl vu lo hi sl Q I rx hs pl pu ⟨_, rfl, fits_ok c, k H _ .refl R (.str _)⟩
  ·cases q
 ·cases q
  cases vx with
  | tup ha r =>
   have hK2 := ha
   rw [hK] at hK2
   refine sl_tupA pins s σ H _ v vl vu lo hi sl Q I rx hs pl pu ⟨_, _, rfl, hK2, fun hw => ?_, fun _ p hp => ?_⟩
   ·rw [cut_whole r.length hw.1 hw.2] at k
    exact k H _ .refl R (.tup ha r)
   ·obtain ⟨n1, rr, x1⟩ := new_tup R (r.cut lo hi) hp
    exact k _ _ n1 rr x1
 ·split at q
  ·rename_i l ql
   cases q
   obtain ⟨a, vs, rfl, ha, r⟩ := asL_at R vx ql
   rw [hK] at ha
   refine sl_list pins s σ H _ v vl vu lo hi sl Q I rx hs pl pu ⟨a, vs, rfl, ha, fun p hp => ?_⟩
   obtain ⟨n1, rr, x1⟩ := new_lst R (r.cut lo hi) hp
   exact k _ _ n1 rr x1
  ·cases q
section
variable {X : Cx} {G : Cf} {W : WX} {a b : Expr} {f g : F D} {pos p2 : Pos} {lo hi : Option Expr} {fl fh : F (Option Int)}
theorem o_none : PO X none (tO G W pNone) := ⟨fun pins s σ H Q I ⟨S, h, e, R, E, P⟩ => po_none.run pins s σ H Q I (P.here R rfl)⟩
theorem o_some (ha : PE X a (tE G W f)) : PO X (some a) (tO G W (pSome f)) := ⟨fun pins s σ H Q I ⟨S, h, e, R, E, P⟩ => (po_some ha).run pins s σ H Q I ⟨S, h, e, R, E, P.bind fun x h1 S1 H1 v _ N1 R1 v1 P1 => by
 cases v1 with
 | int i => exact ⟨i, rfl, P1.here R1 rfl⟩
 | _ => exact P1.elim⟩⟩
theorem e_slice (hK : G.K = X.K) (ha : PE X a (tE G W f)) (hl : PO X lo (tO G W fl)) (hh : PO X hi (tO G W fh)) : PE X (.Subscript a (.Slice lo hi none p2) pos) (tE G W (dSl f fl fh)) :=
 PE.imp (pe_slice (sl_all hK) ha hl hh) fun σ H Q ⟨S, h, e, R, E, P⟩ => ⟨S, h, e, R, E, P.bind fun x h1 S1 H1 v _ N1 R1 v1 P1 =>
  have E1 := E.mono N1 R.bad
  ⟨S1, h1, e, R1, E1, P1.bind fun l h2 S2 H2 l' _ N2 R2 e2 P2 =>
   ⟨S2, h2, e, R2, E1.mono N2 R1.bad, P2.bind fun u h3 S3 H3 u' _ N3 R3 e3 P3 => by
    subst e2 e3
    cases q : opSl h3 x l u with
    | none => rw [q] at P3; exact P3.elim
    | some z =>
     rw [q] at P3
     exact ⟨S3, h3, x, z, R3, (v1.mono N2 R1.bad).mono N3 R2.bad, q, fun H' v n r y => P3 S3 H' v n r y⟩⟩⟩⟩
end
def rC (G : Cg) (op : Hh → List D → Option D) : List V → Hp → VK → Prop := fun vs H Q => ∃ S h ds z, Rel G S h H ∧ VDs G S H ds vs ∧ op h ds = some z ∧ ∀ H' v, Nx G S H S H' → Rel G S h H' → VD G S H' z v → Q v H'
def dBi (r : F (List D)) (op : Hh → List D → Option D) : F D := fun e h => (r e h).bind fun l h1 => opt h1 (op h1 l)
theorem tE_bi {G : Cf} {W : WX} {r : F (List D)} {op : Hh → List D → Option D} {σ : L2.St} {H : Hp} {Q : VK} (h : tE G W (dBi r op) σ H Q) : tCB (rC G op) (tA G W r) σ H Q := by
 obtain ⟨S, h, e, R, E, P⟩ := h
 refine ⟨S, h, e, R, E, P.bind fun l h1 S1 H1 vs _ N1 R1 v1 P1 => ?_⟩
 cases q : op h1 l with
 | none => rw [q] at P1; exact P1.elim
 | some z =>
  rw [q] at P1
  exact ⟨S1, h1, l, z, R1, v1, q, fun H' v n r x => P1 S1 H' v n r x⟩
section
variable {X : Cx} {G : Cf} {W : WX} {e : Expr} {es : List Expr} {r : F (List D)} {p pos : Pos} {x : Str} {op : Hh → List D → Option D}
theorem e_callB {id : String} (hc : CallR X (.builtin id) (rC G op)) (hg : Gl X x) (hm : X.mg x = none) (hv : bootBuiltins x = some (.builtin id)) (ha : PA X (e :: es) (tA G W r)) (hs : (e :: es).all noStar = true) (hn : x ≠ "__name__") (hdb : (x == ("__debug__" : Str)) = false) :
  PE X (.Call (.Name x p) (e :: es) [] pos) (tE G W (dBi r op)) :=
 have h2 : noStar e = true ∧ es.all noStar = true := Bool.and_eq_true_iff.mp hs
 PE.imp (pe_callB hc hg hm hv ha hn hdb (star_of h2.1 _ _) (stars_of h2.2)) fun _ _ _ h => tE_bi h
theorem e_callTy {T : String} (hc : CallR X (.type T) (rC G op)) (hg : Gl X x) (hm : X.mg x = none) (hv : bootBuiltins x = some (.type T)) (ha : PA X (e :: es) (tA G W r)) (hs : (e :: es).all noStar = true) (hn : x ≠ "__name__") (hdb : (x == ("__debug__" : Str)) = false) :
  PE X (.Call (.Name x p) (e :: es) [] pos) (tE G W (dBi r op)) :=
 have h2 : noStar e = true ∧ es.all noStar = true := Bool.and_eq_true_iff.mp hs
 PE.imp (pe_callTy hc hg hm hv ha hn hdb (star_of h2.1 _ _) (stars_of h2.2)) fun _ _ _ h => tE_bi h
end
def bLen (h : Hh) : List D → Option D
 | [x] => match x with
  | .str s => if fits s.length = true then some (.int s.length) else none
  | .tup l => some (.int l.length)
  | x => match asL h x with
   | some l => some (.int l.length)
   | none => match asK h x with
    | some l => some (.int l.length)
    | none => none
 | _ => none
def intsD : List D → Option (List Int)
 | [] => some []
 | .int i :: l => (intsD l).map (i :: ·)
 | _ => none
def blsD : List D → Option (List Bool)
 | [] => some []
 | .bl i :: l => (blsD l).map (i :: ·)
 | _ => none
theorem intsD_at {G : Cg} {S : Rho} {H : Hp} : ∀ {l : List D} {vs : List V} {ns : List Int}, VDs G S H l vs → intsD l = some ns → vs = ns.map V.int
 | _, _, _, .nil, e => by cases e; rfl
 | _, _, ns, .cons (d := d) (l := l) a t, e => by
  cases a with
  | int i =>
   have e2 : (intsD l).map (i :: ·) = some ns := e
   obtain ⟨ms, e3, rfl⟩ := Option.map_eq_some_iff.mp e2
   rw [intsD_at t e3]; rfl
  | _ => cases e
theorem blsD_at {G : Cg} {S : Rho} {H : Hp} : ∀ {l : List D} {vs : List V} {ns : List Bool}, VDs G S H l vs → blsD l = some ns → vs = ns.map V.bl
 | _, _, _, .nil, e => by cases e; rfl
 | _, _, ns, .cons (d := d) (l := l) a t, e => by
  cases a with
  | bl i =>
   have e2 : (blsD l).map (i :: ·) = some ns := e
   obtain ⟨ms, e3, rfl⟩ := Option.map_eq_some_iff.mp e2
   rw [blsD_at t e3]; rfl
  | _ => cases e
def asQ (h : Hh) : D → Option (List D)
 | .tup l => some l
 | x => asL h x
def bSum (h : Hh) : List D → Option D
 | [x] => ((asQ h x).bind intsD).map fun ns => .int ns.sum
 | _ => none
def bAll (h : Hh) : List D → Option D
 | [x] => ((asL h x).bind blsD).map fun ns => .bl (ns.all id)
 | _ => none
def bAny (h : Hh) : List D → Option D
 | [x] => ((asL h x).bind blsD).map fun ns => .bl (ns.any id)
 | _ => none
def maxL : List Int → Option Int
 | [] => none
 | i :: l => match maxL l with
  | some m => some (if m > i then m else i)
  | none => some i
def minL : List Int → Option Int
 | [] => none
 | i :: l => match minL l with
  | some m => some (if m < i then m else i)
  | none => some i
def bMax (h : Hh) : List D → Option D
 | [.int i, .int j] => some (.int (if j > i then j else i))
 | [x] => (((asQ h x).bind intsD).bind maxL).map .int
 | _ => none
def bMin (h : Hh) : List D → Option D
 | [.int i, .int j] => some (.int (if j < i then j else i))
 | [.int i, .int j, .int k] => some (.int (if k < (if j < i then j else i) then k else (if j < i then j else i)))
 | [x] => (((asQ h x).bind intsD).bind minL).map .int
 | _ => none
theorem maxL_is : ∀ {l : List Int} {m k : Int}, maxL l = some k → m ∈ l → (∀ y ∈ l, y ≤ m) → m = k
 | [], _, _, e, _, _ => by cases e
 | i :: l, m, k, e, hm, h => by
  unfold maxL at e
  split at e
  ·rename_i n q
   cases e
   have key : ∀ {l : List Int} {n : Int}, maxL l = some n → n ∈ l ∧ ∀ y ∈ l, y ≤ n := by
    intro l
    induction l with
    | nil => intro n e; cases e
    | cons j l ih =>
     intro n e
     unfold maxL at e
     split at e
     ·rename_i n' q'
      cases e
      obtain ⟨a, b⟩ := ih q'
      split
      ·rename_i c
       exact ⟨List.mem_cons_of_mem _ a, fun y hy => by
        rcases List.mem_cons.mp hy with rfl | hy
        ·omega
        ·exact b y hy⟩
      ·rename_i c
       exact ⟨List.mem_cons_self, fun y hy => by
        rcases List.mem_cons.mp hy with rfl | hy
        ·omega
        ·have := b y hy; omega⟩
     ·rename_i q'
      cases e
      cases l with
      | nil => exact ⟨List.mem_cons_self, fun y hy => by rw [List.mem_singleton] at hy; omega⟩
      | cons x l => unfold maxL at q'; split at q' <;> cases q'
   obtain ⟨a, b⟩ := key q
   have h1 := h i List.mem_cons_self
   have h2 := h n (List.mem_cons_of_mem _ a)
   rcases List.mem_cons.mp hm with rfl | hm
   ·split <;> omega
   ·have := b m hm
    split <;> omega
  ·rename_i q
   cases e
   cases l with
   | nil => rw [List.mem_singleton] at hm; exact hm
   | cons x l => unfold maxL at q; split at q <;> cases q
theorem minL_is : ∀ {l : List Int} {m k : Int}, minL l = some k → m ∈ l → (∀ y ∈ l, m ≤ y) → m = k
 | [], _, _, e, _, _ => by cases e
 | i :: l, m, k, e, hm, h => by
  unfold minL at e
  split at e
  ·rename_i n q
   cases e
   have key : ∀ {l : List Int} {n : Int}, minL l = some n → n ∈ l ∧ ∀ y ∈ l, n ≤ y := by
    intro l
    induction l with
    | nil => intro n e; cases e
    | cons j l ih =>
     intro n e
     unfold minL at e
     split at e
     ·rename_i n' q'
      cases e
      obtain ⟨a, b⟩ := ih q'
      split
      ·rename_i c
       exact ⟨List.mem_cons_of_mem _ a, fun y hy => by
        rcases List.mem_cons.mp hy with rfl | hy
        ·omega
        ·exact b y hy⟩
      ·rename_i c
       exact ⟨List.mem_cons_self, fun y hy => by
        rcases List.mem_cons.mp hy with rfl | hy
        ·omega
        ·have := b y hy; omega⟩
     ·rename_i q'
      cases e
      cases l with
      | nil => exact ⟨List.mem_cons_self, fun y hy => by rw [List.mem_singleton] at hy; omega⟩
      | cons x l => unfold minL at q'; split at q' <;> cases q'
   obtain ⟨a, b⟩ := key q
   have h1 := h i List.mem_cons_self
   have h2 := h n (List.mem_cons_of_mem _ a)
   rcases List.mem_cons.mp hm with rfl | hm
   ·split <;> omega
   ·have := b m hm
    split <;> omega
  ·rename_i q
   cases e
   cases l with
   | nil => rw [List.mem_singleton] at hm; exact hm
   | cons x l => unfold minL at q; split at q <;> cases q
theorem maxL_ne {l : List Int} {k : Int} (e : maxL l = some k) : 0 < l.length := by
 cases l with
 | nil => cases e
 | cons _ _ => exact Nat.succ_pos _
theorem minL_ne {l : List Int} {k : Int} (e : minL l = some k) : 0 < l.length := by
 cases l with
 | nil => cases e
 | cons _ _ => exact Nat.succ_pos _
def bInt (_ : Hh) : List D → Option D
 | [.int i] => some (.int i)
 | [.bl k] => some (.int (if k then 1 else 0))
 | [.str s] => if s.length ≤ 640 then (PySem.intText? s).map .int else none
 | _ => none
def bStr (_ : Hh) : List D → Option D
 | [.int i] => if i.natAbs.log2 < 1920 then some (.str (Str.ofString (toString i))) else none
 | _ => none
def strsD : List D → Option (List Str)
 | [] => some []
 | .str i :: l => (strsD l).map (i :: ·)
 | _ => none
theorem strsD_at {G : Cg} {S : Rho} {H : Hp} : ∀ {l : List D} {vs : List V} {ns : List Str}, VDs G S H l vs → strsD l = some ns → vs = ns.map V.str
 | _, _, _, .nil, e => by cases e; rfl
 | _, _, ns, .cons (d := d) (l := l) a t, e => by
  cases a with
  | str i =>
   have e2 : (strsD l).map (i :: ·) = some ns := e
   obtain ⟨ms, e3, rfl⟩ := Option.map_eq_some_iff.mp e2
   rw [strsD_at t e3]; rfl
  | _ => cases e
theorem VDs.strs {G : Cg} {S : Rho} {H : Hp} : ∀ l : List Str, VDs G S H (l.map .str) (l.map V.str)
 | [] => .nil
 | i :: l => .cons (.str i) (VDs.strs l)
def kD : Key → D
 | .inl n => .int n
 | .inr s => .str s
theorem VDk.keysL {G : Cg} {S : Rho} {H : Hp} : ∀ {l : List (Key × D)} {vs : List (Key × V)}, VDk G S H l vs → VDs G S H (l.map fun p => kD p.1) (vs.map fun p => kV p.1)
 | _, _, .nil => .nil
 | _, _, @VDk.cons _ _ _ k _ _ _ _ _ t => .cons (match k with | .inl n => .int n | .inr s => .str s) t.keysL
def keysI : List (Key × D) → Option (List Int)
 | [] => some []
 | (.inl n, _) :: l => (keysI l).map (n :: ·)
 | _ => none
theorem keysI_at {G : Cg} {S : Rho} {H : Hp} : ∀ {l : List (Key × D)} {vs : List (Key × V)} {ns : List Int}, VDk G S H l vs → keysI l = some ns → vs.map (·.1) = ns.map Sum.inl
 | _, _, _, .nil, e => by cases e; rfl
 | _, _, ns, @VDk.cons _ _ _ k d v l vs _ t, e => by
  cases k with
  | inr s => cases e
  | inl n =>
   have e2 : (keysI l).map (n :: ·) = some ns := e
   obtain ⟨m, e3, rfl⟩ := Option.map_eq_some_iff.mp e2
   rw [List.map_cons, List.map_cons, keysI_at t e3]
def bList (h : Hh) : List D → Option D
 | [x] => match asQ h x with
  | some l => some (.lst l)
  | none => match asK h x with
   | some l => some (.lst (l.map fun p => kD p.1))
   | none => none
 | _ => none
def bTuple (h : Hh) : List D → Option D
 | [x] => (asQ h x).map .tup
 | _ => none
def insI (i : Int) : List Int → List Int
 | [] => [i]
 | j :: l => if i ≤ j then i :: j :: l else j :: insI i l
def sortI : List Int → List Int
 | [] => []
 | i :: l => insI i (sortI l)
def bSorted (h : Hh) : List D → Option D
 | [x] => match asL h x with
  | some l => match intsD l with
   | some ns => some (.lst ((sortI ns).map .int))
   | none => none
  | none => match asK h x with
   | some l => match keysI l with
    | some ns => if ns.length < 64 then some (.lst ((sortI ns).map .int)) else none
    | none => none
   | none => none
 | _ => none
theorem insI_perm (i : Int) : ∀ l, (insI i l).Perm (i :: l)
 | [] => .refl _
 | j :: l => by
  unfold insI
  split
  ·exact .refl _
  ·exact ((insI_perm i l).cons j).trans (.swap i j l)
theorem sortI_perm : ∀ l, (sortI l).Perm l
 | [] => .refl _
 | i :: l => (insI_perm i _).trans ((sortI_perm l).cons i)
theorem perm_sorted : ∀ {a b : List Int}, a.Perm b → a.Pairwise (· ≤ ·) → b.Pairwise (· ≤ ·) → a = b := fun hp ha hb =>
 List.Perm.eq_of_pairwise (fun _ _ _ _ h1 h2 => Int.le_antisymm h1 h2) ha hb hp
theorem insI_sorted (i : Int) : ∀ {l : List Int}, l.Pairwise (· ≤ ·) → (insI i l).Pairwise (· ≤ ·)
 | [], _ => by simp [insI]
 | j :: l, h => by
  have h1 := List.pairwise_cons.mp h
  unfold insI
  split
  ·rename_i c
   refine List.pairwise_cons.mpr ⟨fun k hk => ?_, h⟩
   rcases List.mem_cons.mp hk with e | e
   ·omega
   ·have := h1.1 k e; omega
  ·rename_i c
   refine List.pairwise_cons.mpr ⟨fun k hk => ?_, insI_sorted i h1.2⟩
   rcases List.mem_cons.mp ((insI_perm i l).mem_iff.mp hk) with e | e
   ·omega
   ·exact h1.1 k e
theorem sortI_sorted : ∀ l, (sortI l).Pairwise (· ≤ ·)
 | [] => .nil
 | i :: l => insI_sorted i (sortI_sorted l)
section
variable {X : Cx} {G : Cg}
theorem asQ_at {S : Rho} {h : Hh} {H : Hp} {d : D} {v : V} {l : List D} (R : Rel G S h H) (x : VD G S H d v) (e : asQ h d = some l) : ∃ a vs, v = .ref a ∧ (SqL G.K H a vs ∨ SqT G.K H a vs) ∧ VDs G S H l vs := by
 cases d with
 | tup l' =>
  cases e
  cases x with
  | tup a r => exact ⟨_, _, rfl, .inr a, r⟩
 | _ =>
  obtain ⟨a, vs, e1, e2, e3⟩ := asL_at R x e
  exact ⟨a, vs, e1, .inl e2, e3⟩
theorem cr_len (hK : G.K = X.K) : CallR X (.builtin "len") (rC G bLen) := by
 intro pins s σ H xs us Q I r hq
 obtain ⟨S, h, ds, z, R, vx, q, k⟩ := hq
 unfold bLen at q
 split at q
 ·cases vx with
  | cons v1 t1 =>
   cases t1
   split at q
   ·split at q
    ·rename_i c
     cases q
     cases v1
     exact call_len pins s σ H _ us Q I r ⟨_, _, rfl, ⟨fits_ok c, rfl⟩, k H _ .refl R (.int _)⟩
    ·cases q
   ·cases q
    cases v1 with
    | tup ha rr =>
     rw [hK] at ha
     have e := rr.length
     exact call_len pins s σ H _ us Q I r ⟨_, _, rfl, .inr ⟨_, ha, e⟩, k H _ .refl R (.int _)⟩
   ·split at q
    ·rename_i l ql
     cases q
     obtain ⟨a, vs, rfl, ha, rr⟩ := asL_at R v1 ql
     rw [hK] at ha
     exact call_len pins s σ H _ us Q I r ⟨_, _, rfl, .inl ⟨_, ha, rr.length⟩, k H _ .refl R (.int _)⟩
    ·split at q
     ·rename_i l ql
      cases q
      obtain ⟨a, vs, rfl, ha, rr⟩ := asK_at R v1 ql
      rw [Vals.ref1 r]
      have fin := k H _ .refl R (.int _)
      rw [rr.length] at fin
      exact d_len I ha fun t s' I' => ⟨.int _, H, I', ⟨t, rfl⟩, fin⟩
     ·cases q
 ·cases q
theorem sum_tup {prog : Program} {w : World} {A : Around} {E : Value → Shared → Prop} {s : Shared} {a : Addr} {its : List Value} {ns : List Int} {Q : Value → Shared → Prop} (hh : A.handled = none) (hl : IsTup s.heap a its.toArray) (hi : IntsAre its ns)
  (h : ∀ h' tk t', (∀ b o, s.heap.get? b = some o → h'.get? b = some o) → Q (.int ns.sum t') { s with heap := h', toks := tk }) : wpAny (model prog w) A (call (.builtin "sum") [.ref a]) Q E s := by
 obtain ⟨xs, e⟩ := hi.allInts.items
 have hn : numsOf (intItems xs).toList = ns := by rw [← e]; exact hi.numsOf
 rw [nums_intItems] at hn
 rw [e] at hl
 have hl2 : s.heap.IsTuple a (intItems xs) := hl
 have hlt : a < s.heap.objs.size := by obtain ⟨_, e, _⟩ := hl2; exact Heap.lt_size e
 refine call_sum_walkG (wpAny_pyIter_tuple hl2 ?_)
 refine ⟨_, _, _, _, _, _, numAt xs, rfl, Walks.tuple (A := A.in1) hh s.heap.objs.size a (Nat.ne_of_lt hlt) (intItems xs), ⟨⟨_, Heap.get?_push_size _ rfl, rfl, rfl⟩, hl2.push _⟩, fun b hb => ?_, (fun _ _ => intItems_at), fun h' tk t' hk => ?_⟩
 ·show b < (s.heap.push _).objs.size
  rw [Heap.size_push]
  rcases List.mem_cons.mp hb with rfl | hb
  ·exact Nat.lt_succ_self _
  ·have e : b = a := by simpa using hb
   subst e
   exact Nat.lt_succ_of_lt hlt
 ·have z := h h' tk t' fun b o e => hk b o (by simpa using Nat.ne_of_lt (Heap.lt_size e)) (Heap.get?_push_of_some _ e)
  rw [preSum_eq, List.take_of_length_le (by simp [intItems]), hn]
  exact z
theorem min_tup {prog : Program} {w : World} {A : Around} {E : Value → Shared → Prop} {s : Shared} {a : Addr} {its : List Value} {ns : List Int} {Q : Value → Shared → Prop} (hh : A.handled = none) (hl : IsTup s.heap a its.toArray) (hi : IntsAre its ns) (hne : 0 < ns.length)
  (h : ∀ h' tk M t', (∀ b o, s.heap.get? b = some o → h'.get? b = some o) → M ∈ ns → (∀ y, y ∈ ns → M ≤ y) → Q (.int M t') { s with heap := h', toks := tk }) : wpAny (model prog w) A (call (.builtin "min") [.ref a]) Q E s := by
 obtain ⟨xs, e⟩ := hi.allInts.items
 have hn : numsOf (intItems xs).toList = ns := by rw [← e]; exact hi.numsOf
 rw [nums_intItems] at hn
 subst hn
 rw [e] at hl
 have hsz : 0 < xs.size := by simpa using hne
 have hl2 : s.heap.IsTuple a (intItems xs) := hl
 have hlt : a < s.heap.objs.size := by obtain ⟨_, e, _⟩ := hl2; exact Heap.lt_size e
 refine call_min_walk (wpAny_pyIter_tuple hl2 ?_)
 refine ⟨_, _, _, _, _, _, _, rfl, Walks.tuple (A := A.in1) hh s.heap.objs.size a (Nat.ne_of_lt hlt) (intItems xs), ⟨⟨_, Heap.get?_push_size _ rfl, rfl, rfl⟩, hl2.push _⟩, fun b hb => ?_, by simpa [intItems] using hsz, CmpOf.ints_lt (numAt xs) (fun _ _ => intItems_at), fun v h' tk hP hk => ?_⟩
 ·show b < (s.heap.push _).objs.size
  rw [Heap.size_push]
  rcases List.mem_cons.mp hb with rfl | hb
  ·exact Nat.lt_succ_self _
  ·have e : b = a := by simpa using hb
   subst e
   exact Nat.lt_succ_of_lt hlt
 ·have hv : (intItems xs)[argBest (fun i j => decide (numAt xs i < numAt xs j)) (xs.size - 1)]? = some v := by simpa [intItems] using hP
  obtain ⟨t, rfl⟩ := intItems_at hv
  obtain ⟨h1, h2⟩ := argBest_lt (numAt xs) (xs.size - 1)
  refine h h' tk _ t (fun b o e => hk b o (fun z => by rw [List.mem_singleton] at z; subst z; exact absurd (Heap.lt_size e) (Nat.lt_irrefl _)) (Heap.get?_push_of_some _ e)) ?_ fun y hy => ?_
  ·rw [numAt_eq]; exact PySem.getD_mem (by rw [List.length_map, Array.length_toList]; omega)
  ·obtain ⟨j, hj, rfl⟩ := mem_getD hy
   rw [List.length_map, Array.length_toList] at hj
   rw [← numAt_eq]; exact h2 j (by omega)
theorem max_tup {prog : Program} {w : World} {A : Around} {E : Value → Shared → Prop} {s : Shared} {a : Addr} {its : List Value} {ns : List Int} {Q : Value → Shared → Prop} (hh : A.handled = none) (hl : IsTup s.heap a its.toArray) (hi : IntsAre its ns) (hne : 0 < ns.length)
  (h : ∀ h' tk M t', (∀ b o, s.heap.get? b = some o → h'.get? b = some o) → M ∈ ns → (∀ y, y ∈ ns → y ≤ M) → Q (.int M t') { s with heap := h', toks := tk }) : wpAny (model prog w) A (call (.builtin "max") [.ref a]) Q E s := by
 obtain ⟨xs, e⟩ := hi.allInts.items
 have hn : numsOf (intItems xs).toList = ns := by rw [← e]; exact hi.numsOf
 rw [nums_intItems] at hn
 subst hn
 rw [e] at hl
 have hsz : 0 < xs.size := by simpa using hne
 have hl2 : s.heap.IsTuple a (intItems xs) := hl
 have hlt : a < s.heap.objs.size := by obtain ⟨_, e, _⟩ := hl2; exact Heap.lt_size e
 refine call_max_walk (wpAny_pyIter_tuple hl2 ?_)
 refine ⟨_, _, _, _, _, _, _, rfl, Walks.tuple (A := A.in1) hh s.heap.objs.size a (Nat.ne_of_lt hlt) (intItems xs), ⟨⟨_, Heap.get?_push_size _ rfl, rfl, rfl⟩, hl2.push _⟩, fun b hb => ?_, by simpa [intItems] using hsz, CmpOf.ints_gt (numAt xs) (fun _ _ => intItems_at), fun v h' tk hP hk => ?_⟩
 ·show b < (s.heap.push _).objs.size
  rw [Heap.size_push]
  rcases List.mem_cons.mp hb with rfl | hb
  ·exact Nat.lt_succ_self _
  ·have e : b = a := by simpa using hb
   subst e
   exact Nat.lt_succ_of_lt hlt
 ·have hv : (intItems xs)[argBest (fun i j => decide (numAt xs i > numAt xs j)) (xs.size - 1)]? = some v := by simpa [intItems] using hP
  obtain ⟨t, rfl⟩ := intItems_at hv
  obtain ⟨h1, h2⟩ := argBest_gt (numAt xs) (xs.size - 1)
  refine h h' tk _ t (fun b o e => hk b o (fun z => by rw [List.mem_singleton] at z; subst z; exact absurd (Heap.lt_size e) (Nat.lt_irrefl _)) (Heap.get?_push_of_some _ e)) ?_ fun y hy => ?_
  ·rw [numAt_eq]; exact PySem.getD_mem (by rw [List.length_map, Array.length_toList]; omega)
  ·obtain ⟨j, hj, rfl⟩ := mem_getD hy
   rw [List.length_map, Array.length_toList] at hj
   rw [← numAt_eq]; exact h2 j (by omega)
theorem cr_sumD (hK : G.K = X.K) (hc : X.calm = true) : CallR X (.builtin "sum") (rC G bSum) := by
 intro pins s σ H xs us Q I r hq
 obtain ⟨S, h, ds, z, R, vx, q, k⟩ := hq
 unfold bSum at q
 split at q
 ·cases vx with
  | cons v1 t1 =>
   cases t1
   obtain ⟨ns, q0, rfl⟩ := Option.map_eq_some_iff.mp q
   obtain ⟨l, q1, q2⟩ := Option.bind_eq_some_iff.mp q0
   obtain ⟨a, vs, rfl, ha, rr⟩ := asQ_at R v1 q1
   have e := intsD_at rr q2
   subst e
   have fin := k H _ .refl R (.int _)
   rw [hK] at ha
   rcases ha with ha | ha
   ·exact cr_sum hc pins s σ H _ us Q I r ⟨a, ns, rfl, ha, fin⟩
   ·obtain ⟨its, rv, ht, _⟩ := I.tuple ha
    rw [Vals.ref1 r]
    exact sum_tup (I.ok.hd hc) ht rv.ints fun h' tk t' hk => ⟨.int _, H, I.kept hk, ⟨_, rfl⟩, fin⟩
 ·cases q
theorem cr_allD (hK : G.K = X.K) (hc : X.calm = true) : CallR X (.builtin "all") (rC G bAll) := by
 intro pins s σ H xs us Q I r hq
 obtain ⟨S, h, ds, z, R, vx, q, k⟩ := hq
 unfold bAll at q
 split at q
 ·cases vx with
  | cons v1 t1 =>
   cases t1
   obtain ⟨ns, q0, rfl⟩ := Option.map_eq_some_iff.mp q
   obtain ⟨l, q1, q2⟩ := Option.bind_eq_some_iff.mp q0
   obtain ⟨a, vs, rfl, ha, rr⟩ := asL_at R v1 q1
   have e := blsD_at rr q2
   subst e
   rw [hK] at ha
   exact cr_all hc pins s σ H _ us Q I r ⟨a, ns, rfl, ha, k H _ .refl R (.bl _)⟩
 ·cases q
theorem cr_anyD (hK : G.K = X.K) (hc : X.calm = true) : CallR X (.builtin "any") (rC G bAny) := by
 intro pins s σ H xs us Q I r hq
 obtain ⟨S, h, ds, z, R, vx, q, k⟩ := hq
 unfold bAny at q
 split at q
 ·cases vx with
  | cons v1 t1 =>
   cases t1
   obtain ⟨ns, q0, rfl⟩ := Option.map_eq_some_iff.mp q
   obtain ⟨l, q1, q2⟩ := Option.bind_eq_some_iff.mp q0
   obtain ⟨a, vs, rfl, ha, rr⟩ := asL_at R v1 q1
   have e := blsD_at rr q2
   subst e
   rw [hK] at ha
   exact cr_any hc pins s σ H _ us Q I r ⟨a, ns, rfl, ha, k H _ .refl R (.bl _)⟩
 ·cases q
theorem cr_maxD (hK : G.K = X.K) (hc : X.calm = true) : CallR X (.builtin "max") (rC G bMax) := by
 intro pins s σ H xs us Q I r hq
 obtain ⟨S, h, ds, z, R, vx, q, k⟩ := hq
 unfold bMax at q
 split at q
 ·cases q
  cases vx with
  | cons v1 t1 => cases t1 with
   | cons v2 t2 =>
    cases t2
    cases v1
    cases v2
    exact call_max2 hc pins s σ H _ us Q I r ⟨_, _, rfl, k H _ .refl R (.int _)⟩
 ·obtain ⟨m, e1, rfl⟩ := Option.map_eq_some_iff.mp q
  obtain ⟨ns, e2, e3⟩ := Option.bind_eq_some_iff.mp e1
  obtain ⟨l, e4, e5⟩ := Option.bind_eq_some_iff.mp e2
  cases vx with
  | cons v1 t1 =>
   cases t1
   obtain ⟨a, vs, rfl, ha, rr⟩ := asQ_at R v1 e4
   have ev := intsD_at rr e5
   subst ev
   rw [hK] at ha
   have fin := k H _ .refl R (.int _)
   rcases ha with ha | ha
   ·exact cr_max hc pins s σ H _ us Q I r ⟨a, ns, rfl, ha, maxL_ne e3, fun M h1 h2 => by
     have := maxL_is e3 h1 h2
     subst this
     exact fin⟩
   ·obtain ⟨its, rv, ht, _⟩ := I.tuple ha
    rw [Vals.ref1 r]
    exact max_tup (I.ok.hd hc) ht rv.ints (maxL_ne e3) fun h' tk M t' hk h1 h2 => by
     have := maxL_is e3 h1 h2
     subst this
     exact ⟨.int _, H, I.kept hk, ⟨_, rfl⟩, fin⟩
 ·cases q
theorem nuMin3_int (i j k : Int) : nuMin3 (.int i) (.int j) (.int k) = some (.int (if k < (if j < i then j else i) then k else (if j < i then j else i))) := by
 have two : ∀ a b : Int, nuMin2 (.int a) (.int b) = some (.int (if b < a then b else a)) := fun a b => by
  show some (if decide (b < a) = true then V.int b else V.int a) = _
  by_cases c : b < a
  ·rw [if_pos (decide_eq_true c), if_pos c]
  ·rw [if_neg (by rw [decide_eq_false c]; decide), if_neg c]
 unfold nuMin3
 rw [two]
 exact two _ _
theorem cr_minD (hK : G.K = X.K) (hc : X.calm = true) : CallR X (.builtin "min") (rC G bMin) := by
 intro pins s σ H xs us Q I r hq
 obtain ⟨S, h, ds, z, R, vx, q, k⟩ := hq
 unfold bMin at q
 split at q
 ·cases q
  cases vx with
  | cons v1 t1 => cases t1 with
   | cons v2 t2 =>
    cases t2
    cases v1
    cases v2
    exact call_min2 hc pins s σ H _ us Q I r ⟨_, _, rfl, k H _ .refl R (.int _)⟩
 ·cases q
  cases vx with
  | cons v1 t1 => cases t1 with
   | cons v2 t2 => cases t2 with
    | cons v3 t3 =>
     cases t3
     cases v1
     cases v2
     cases v3
     exact call_min3Nu hc pins s σ H _ us Q I r ⟨_, _, _, _, rfl, nuMin3_int _ _ _, k H _ .refl R (.int _)⟩
 ·obtain ⟨m, e1, rfl⟩ := Option.map_eq_some_iff.mp q
  obtain ⟨ns, e2, e3⟩ := Option.bind_eq_some_iff.mp e1
  obtain ⟨l, e4, e5⟩ := Option.bind_eq_some_iff.mp e2
  cases vx with
  | cons v1 t1 =>
   cases t1
   obtain ⟨a, vs, rfl, ha, rr⟩ := asQ_at R v1 e4
   have ev := intsD_at rr e5
   subst ev
   rw [hK] at ha
   have fin := k H _ .refl R (.int _)
   rcases ha with ha | ha
   ·exact cr_min hc pins s σ H _ us Q I r ⟨a, ns, rfl, ha, minL_ne e3, fun M h1 h2 => by
     have := minL_is e3 h1 h2
     subst this
     exact fin⟩
   ·obtain ⟨its, rv, ht, _⟩ := I.tuple ha
    rw [Vals.ref1 r]
    exact min_tup (I.ok.hd hc) ht rv.ints (minL_ne e3) fun h' tk M t' hk h1 h2 => by
     have := minL_is e3 h1 h2
     subst this
     exact ⟨.int _, H, I.kept hk, ⟨_, rfl⟩, fin⟩
 ·cases q
theorem cr_intD : CallR X (.type "int") (rC G bInt) := by
 intro pins s σ H xs us Q I r hq
 obtain ⟨S, h, ds, z, R, vx, q, k⟩ := hq
 unfold bInt at q
 split at q
 ·cases q
  cases vx with
  | cons v1 t1 =>
   cases t1
   cases v1
   exact call_int1 pins s σ H _ us Q I r (.inl ⟨_, rfl, k H _ .refl R (.int _)⟩)
 ·cases q
  cases vx with
  | cons v1 t1 =>
   cases t1
   cases v1
   exact call_int1 pins s σ H _ us Q I r (.inr ⟨_, rfl, k H _ .refl R (.int _)⟩)
 ·split at q
  ·rename_i c
   obtain ⟨n, e, rfl⟩ := Option.map_eq_some_iff.mp q
   cases vx with
   | cons v1 t1 =>
    cases t1
    cases v1
    exact call_int_str pins s σ H _ us Q I r ⟨_, n, rfl, e, c, k H _ .refl R (.int _)⟩
  ·cases q
 ·cases q
theorem cr_strD : CallR X (.type "str") (rC G bStr) := by
 intro pins s σ H xs us Q I r hq
 obtain ⟨S, h, ds, z, R, vx, q, k⟩ := hq
 unfold bStr at q
 split at q
 ·split at q
  ·rename_i c
   cases q
   cases vx with
   | cons v1 t1 =>
    cases t1
    cases v1
    exact call_str_int pins s σ H _ us Q I r ⟨_, rfl, c, k H _ .refl R (.str _)⟩
  ·cases q
 ·cases q
theorem cr_listD (hK : G.K = X.K) (hc : X.calm = true) : CallR X (.type "list") (rC G bList) := by
 intro pins s σ H xs us Q I r hq
 obtain ⟨S, h, ds, z, R, vx, q, k⟩ := hq
 unfold bList at q
 split at q
 ·cases vx with
  | cons v1 t1 =>
   cases t1
   split at q
   ·rename_i l q1
    cases q
    obtain ⟨a, vs, rfl, ha, rr⟩ := asQ_at R v1 q1
    rw [hK] at ha
    refine call_list_of pins s σ H _ us Q I r ⟨a, vs, rfl, ha, fun p hp => ?_⟩
    obtain ⟨n1, r1, x1⟩ := new_lst R rr hp
    exact k _ _ n1 r1 x1
   ·split at q
    ·rename_i l q1
     cases q
     obtain ⟨a, vs, rfl, ha, rr⟩ := asK_at R v1 q1
     refine call_listD hc pins s σ H _ us Q I r ⟨a, vs, rfl, ha, fun p hp => ?_⟩
     obtain ⟨n1, r1, x1⟩ := new_lst R rr.keysL hp
     exact k _ _ n1 r1 x1
    ·cases q
 ·cases q
theorem cr_tupleD (hK : G.K = X.K) : CallR X (.type "tuple") (rC G bTuple) := by
 intro pins s σ H xs us Q I r hq
 obtain ⟨S, h, ds, z, R, vx, q, k⟩ := hq
 unfold bTuple at q
 split at q
 ·cases vx with
  | cons v1 t1 =>
   cases t1
   obtain ⟨l, q1, rfl⟩ := Option.map_eq_some_iff.mp q
   obtain ⟨a, vs, rfl, ha, rr⟩ := asQ_at R v1 q1
   refine call_tuple_of pins s σ H _ us Q I r ⟨a, vs, rfl, ?_⟩
   rcases ha with ha | ha
   ·rw [hK] at ha
    refine .inl ⟨ha, fun p hp => ?_⟩
    obtain ⟨n1, r1, x1⟩ := new_tup R rr hp
    exact k _ _ n1 r1 x1
   ·have hb := ha
    rw [hK] at hb
    exact .inr ⟨hb, k H _ .refl R (.tup ha rr)⟩
 ·cases q
theorem cr_sortedD (hK : G.K = X.K) (hc : X.calm = true) : CallR X (.builtin "sorted") (rC G bSorted) := by
 intro pins s σ H xs us Q I r hq
 obtain ⟨S, h, ds, z, R, vx, q, k⟩ := hq
 unfold bSorted at q
 split at q
 ·cases vx with
  | cons v1 t1 =>
   cases t1
   split at q
   ·rename_i l q1
    split at q
    ·rename_i ns q2
     cases q
     obtain ⟨a, vs, rfl, ha, rr⟩ := asL_at R v1 q1
     have e := intsD_at rr q2
     subst e
     rw [hK] at ha
     refine cr_sortedI pins s σ H _ us Q I r ⟨a, ns, rfl, ha, fun ns' p hperm hsort hp => ?_⟩
     have e : ns' = sortI ns := perm_sorted (hperm.trans (sortI_perm ns).symm) hsort (sortI_sorted ns)
     subst e
     obtain ⟨n1, r1, x1⟩ := new_lst R (VDs.ints (G := G) (S := S) (H := H) (sortI ns)) hp
     exact k _ _ n1 r1 x1
    ·cases q
   ·split at q
    ·rename_i l q1
     split at q
     ·rename_i ns q2
      split at q
      ·rename_i q3
       cases q
       obtain ⟨a, vs, rfl, ha, rr⟩ := asK_at R v1 q1
       refine call_sortedDI hc pins s σ H _ us Q I r ⟨a, vs, ns, rfl, ha, keysI_at rr q2, q3, fun ns' p hperm hsort hp => ?_⟩
       have e : ns' = sortI ns := perm_sorted (hperm.trans (sortI_perm ns).symm) hsort (sortI_sorted ns)
       subst e
       obtain ⟨n1, r1, x1⟩ := new_lst R (VDs.ints (G := G) (S := S) (H := H) (sortI ns)) hp
       exact k _ _ n1 r1 x1
      ·cases q
     ·cases q
    ·cases q
 ·cases q
end
end Sb
namespace Sb
open L2 PySem PySem.Spec PyProof.Rows
abbrev MOp := Hh → D → List D → Option (D × Hh)
def rM (G : Cg) (op : MOp) : V → List V → Hp → VK → Prop := fun x vs H Q => ∃ S h d ds z h', Rel G S h H ∧ VD G S H d x ∧ VDs G S H ds vs ∧ op h d ds = some (z, h') ∧ ∀ H' v, Nx G S H S H' → Rel G S h' H' → VD G S H' z v → Q v H'
def dM (f : F D) (c : Hh → D → Bool) (r : F (List D)) (op : MOp) : F D := fun e h => (f e h).bind fun x h1 => if c h1 x = true then (r e h1).bind fun l h2 => match op h2 x l with
 | some (z, h3) => .ok z h3
 | none => .fail else .fail
def TyC (X : Cx) (G : Cg) (T : String) (c : Hh → D → Bool) : Prop := ∀ {S h H d v}, Rel G S h H → VD G S H d v → c h d = true → tyV X.K T v H
section
variable {X : Cx} {G : Cf} {W : WX} {o e : Expr} {es : List Expr} {f : F D} {r : F (List D)} {c : Hh → D → Bool} {op : MOp} {T id : String} {name : Str} {apos cpos : Pos}
theorem tE_M {σ : L2.St} {H : Hp} {Q : VK} (ty : TyC X G T c) (h : tE G W (dM f c r op) σ H Q) : tBM X.K T (rM G op) (tE G W f) (tA G W r) σ H Q := by
 obtain ⟨S, h, e, R, E, P⟩ := h
 refine ⟨S, h, e, R, E, P.bind fun x h1 S1 H1 v _ N1 R1 v1 P1 => ?_⟩
 by_cases q : c h1 x = true
 ·rw [if_pos q] at P1
  refine ⟨ty R1 v1 q, S1, h1, e, R1, E.mono N1 R.bad, P1.bind fun l h2 S2 H2 vs _ N2 R2 v2 P2 => ?_⟩
  cases q2 : op h2 x l with
  | none => rw [q2] at P2; exact P2.elim
  | some z =>
   obtain ⟨z, h3⟩ := z
   rw [q2] at P2
   exact ⟨S2, h2, x, l, z, h3, R2, v1.mono N2 R1.bad, v2, q2, fun H' v n r x => P2 S2 H' v n r x⟩
 ·rw [if_neg q] at P1; exact P1.elim
def okBase : Expr → Bool
 | .Call (.Name x _) [] [] _ => !decide (x = "super")
 | _ => true
theorem base_of {o : Expr} (h : okBase o = true) (name : Str) (env : Env) (whole : Sem Value) : attributeBase o name env whole = whole := by
 unfold attributeBase
 split
 ·rename_i id _ pos
  have h2 : (!decide (id = ("super" : Str))) = true := h
  have h3 : id ≠ "super" := by simpa using h2
  have h4 : (id != ("super" : Str)) = true := by simpa using h3
  rw [h4]
  rfl
 ·rfl
theorem few_of {env : Env} {cpos : Pos} : ∀ {es : List Expr}, es.all noStar = true → (backTo cpos (starEach es env)).all (fun x => !x.1) = true
 | [], _ => rfl
 | e :: es, h => by
  have h2 : noStar e = true ∧ es.all noStar = true := Bool.and_eq_true_iff.mp h
  rw [star_of h2.1]
  show (true && (backTo cpos (starEach es env)).all (fun x => !x.1)) = true
  rw [few_of h2.2]; rfl
theorem e_bm (pa : PlainAttrs T) (slot : Slot T name id) (hty : typeOf (.builtin id) = pure (.type "method_descriptor")) (hm : MtR X id (rM G op)) (ty : TyC X G T c) (ho : PE X o (tE G W f)) (ha : PA X (e :: es) (tA G W r))
  (hb : okBase o = true) (hl : (apos.endLine == cpos.line) = true) (hs : (e :: es).all noStar = true) (hn : es.length < 20) : PE X (.Call (.Attribute o name apos) (e :: es) [] cpos) (tE G W (dM f c r op)) :=
 have h2 : noStar e = true ∧ es.all noStar = true := Bool.and_eq_true_iff.mp hs
 PE.imp (pe_bm pa slot hty hm ho ha (base_of hb _ _ _) (by
  rw [few_of hs]
  show (true && true && decide ((e :: es).length + 0 + 0 < 30)) = true
  rw [decide_eq_true (by simp only [List.length_cons]; omega)]
  rfl) hl (star_of h2.1 _ _) (stars_of h2.2)) fun _ _ _ h => tE_M ty h
theorem e_bm0 (pa : PlainAttrs T) (slot : Slot T name id) (hty : typeOf (.builtin id) = pure (.type "method_descriptor")) (hm : MtR X id (rM G op)) (ty : TyC X G T c) (ho : PE X o (tE G W f))
  (hb : okBase o = true) (hl : (apos.endLine == cpos.line) = true) : PE X (.Call (.Attribute o name apos) [] [] cpos) (tE G W (dM f c dNil op)) :=
 PE.imp (pe_bm0 pa slot hty hm ho (base_of hb _ _ _) hl) fun σ H Q hq => by
  have z := tE_M (X := X) ty hq
  obtain ⟨S, h, en, R, E, P⟩ := z
  refine ⟨S, h, en, R, E, P.imp fun v H' ⟨t, S', h', e', R', E', P'⟩ => ⟨t, P'.here R' .nil⟩⟩
end
def cLst (h : Hh) (d : D) : Bool := (asL h d).isSome
def cStr (_ : Hh) (d : D) : Bool := match d with
 | .str _ => true
 | _ => false
theorem ty_lst {X : Cx} {G : Cg} (hK : G.K = X.K) : TyC X G "list" cLst := fun {S h H d v} R x e => by
 obtain ⟨l, e⟩ := Option.isSome_iff_exists.mp e
 obtain ⟨a, vs, rfl, ha, _⟩ := asL_at R x e
 rw [hK] at ha
 exact .inl ⟨rfl, _, ha⟩
theorem ty_str {X : Cx} {G : Cg} : TyC X G "str" cStr := fun {S h H d v} R x e => by
 cases d <;> first | (cases x; rfl) | cases e
def mAppend : MOp := fun h x ds => match x, ds with
 | .ref i, [y] => match h[i]? with
  | some (.lst l) => if l.length < 16777216 then some (.non, h.set i (.lst (l ++ [y]))) else none
  | _ => none
 | _, _ => none
def mCount : MOp := fun h x ds => match ds with
 | [.int k] => match (asL h x).bind intsD with
  | some ns => some (.int (ns.count k : Nat), h)
  | none => none
 | _ => none
def mJoin : MOp := fun h x ds => match x, ds with
 | .str a, [y] => match (asL h y).bind strsD with
  | some ys => if (ys.map (·.length)).sum + ys.length * a.length ≤ 16777216 then some (.str (Txt.join a ys), h) else none
  | none => none
 | _, _ => none
def mSplit : MOp := fun h x ds => match x, ds with
 | .str a, [.str b] => if (b.length == 0) = false ∧ fits (a.length + 2) = true then some (.lst ((Txt.split a b).map .str), h) else none
 | _, _ => none
section
variable {X : Cx} {G : Cg}
theorem mt_joinD (hK : G.K = X.K) : MtR X "str.join" (rM G mJoin) := by
 intro pins s σ H x xs v us Q I rx rxs hq
 obtain ⟨S, h, d, ds, z, h', R, vx, vs, q, k⟩ := hq
 unfold mJoin at q
 split at q
 ·split at q
  ·rename_i ys e
   split at q
   ·rename_i c
    cases q
    obtain ⟨l, q1, q2⟩ := Option.bind_eq_some_iff.mp e
    cases vs with
    | cons vy t =>
     cases t
     cases vx
     obtain ⟨a, ws, rfl, ha, rl⟩ := asL_at R vy q1
     have e2 := strsD_at rl q2
     subst e2
     rw [hK] at ha
     exact mt_join pins s σ H _ _ v us Q I rx rxs ⟨_, a, ys, rfl, rfl, .inl ha, c, k H _ .refl R (.str _)⟩
   ·cases q
  ·cases q
 ·cases q
theorem mt_splitD : MtR X "str.split" (rM G mSplit) := by
 intro pins s σ H x xs v us Q I rx rxs hq
 obtain ⟨S, h, d, ds, z, h', R, vx, vs, q, k⟩ := hq
 unfold mSplit at q
 split at q
 ·split at q
  ·rename_i c
   cases q
   cases vs with
   | cons vy t =>
    cases t
    cases vx
    cases vy
    refine mt_split pins s σ H _ _ v us Q I rx rxs ⟨_, _, rfl, rfl, c.1, fits_ok c.2, fun p hp => ?_⟩
    obtain ⟨n1, r1, x1⟩ := new_lst R (VDs.strs (G := G) (S := S) (H := H) (Txt.split _ _)) hp
    exact k _ _ n1 r1 x1
  ·cases q
 ·cases q
theorem lst_ref {S : Rho} {h : Hh} {H : Hp} {i : Nat} {v : V} {l : List D} (R : Rel G S h H) (x : VD G S H (.ref i) v) (e : h[i]? = some (.lst l)) : ∃ vs, i < S.n ∧ v = .ref (S.r i) ∧ H (S.r i) = some (.lst vs) ∧ VDs G S H l vs := by
 cases x with
 | ref hi =>
  cases R.obj i _ e with
  | lst q r => exact ⟨_, hi, rfl, q, r⟩
theorem mt_appendD : MtR X "list.append" (rM G mAppend) := by
 intro pins s σ H x xs v us Q I rx rxs hq
 obtain ⟨S, h, d, ds, z, h', R, vx, vs, q, k⟩ := hq
 unfold mAppend at q
 split at q
 ·split at q
  ·rename_i l e
   split at q
   ·rename_i c
    cases q
    obtain ⟨ws, hi, rfl, hl, rl⟩ := lst_ref R vx e
    cases vs with
    | @cons _ v1 _ _ vy t =>
     cases t
     have N : Nx G S H S (upd H (S.r _) (.lst (ws ++ [v1]))) := Nx.write R hi hl (fun _ z => by cases z) (fun _ _ z => by cases z)
     have R2 := R.write hi hl (fun _ z => by cases z) (fun _ _ z => by cases z) (.lst upd_same ((rl.mono N R.bad).append (.cons (vy.mono N R.bad) .nil)))
     have hl2 : ws.length < sizeLine := by rw [sizeLine_eq, ← rl.length]; exact c
     exact mt_append pins s σ H _ _ v us Q I rx rxs ⟨_, ws, _, rfl, rfl, hl, hl2, k _ _ N R2 .non⟩
   ·cases q
  ·cases q
 ·cases q
theorem mt_countD (hK : G.K = X.K) : MtR X "list.count" (rM G mCount) := by
 intro pins s σ H x xs v us Q I rx rxs hq
 obtain ⟨S, h, d, ds, z, h', R, vx, vs, q, k⟩ := hq
 unfold mCount at q
 split at q
 ·split at q
  ·rename_i ns e
   cases q
   obtain ⟨l, q1, q2⟩ := Option.bind_eq_some_iff.mp e
   obtain ⟨a, ws, rfl, ha, rl⟩ := asL_at R vx q1
   have e2 := intsD_at rl q2
   subst e2
   rw [hK] at ha
   cases vs with
   | cons vy t =>
    cases t
    cases vy
    exact mt_lcount pins s σ H _ _ v us Q I rx rxs ⟨a, ns, _, rfl, rfl, ha, k H _ .refl R (.int _)⟩
  ·cases q
 ·cases q
end
inductive BT where
 | non | bl | int | str | tup | lst | dct
 deriving DecidableEq
def BT.name : BT → String
 | .non => "NoneType"
 | .bl => "bool"
 | .int => "int"
 | .str => "str"
 | .tup => "tuple"
 | .lst => "list"
 | .dct => "dict"
def isBT (t T : BT) : Bool := decide (t = T) || (decide (t = .bl) && decide (T = .int))
def tyB (h : Hh) : D → Option BT
 | .non => some .non
 | .bl _ => some .bl
 | .int _ => some .int
 | .str _ => some .str
 | .tup _ => some .tup
 | .lst _ => some .lst
 | .scr _ => some .lst
 | .dct _ => some .dct
 | .ref i => match h[i]? with
  | some (.lst _) => some .lst
  | some (.lck (.lst _)) => some .lst
  | some (.dct _) => some .dct
  | some (.lck (.dct _)) => some .dct
  | _ => none
 | _ => none
def isiD (T : BT) (h : Hh) (d : D) : Option D := (tyB h d).map fun t => .bl (isBT t T)
theorem kit_bt {K : PySem.W.Frag} (t T : BT) : PySem.W.kitOne K (.type t.name) (.type T.name) = some (isBT t T) := kit_ty (by cases t <;> cases T <;> decide +kernel)
theorem tyB_at {X : Cx} {G : Cg} (hK : G.K = X.K) {S : Rho} {h : Hh} {H : Hp} {d : D} {v : V} {t : BT} (R : Rel G S h H) (x : VD G S H d v) (e : tyB h d = some t) : TyX X.K H v (.type t.name) := by
 cases x with
 | non => cases e; exact .base .non
 | bl b => cases e; exact .base (.bl b)
 | int b => cases e; exact .base (.int b)
 | str b => cases e; exact .base (.str b)
 | tup a r =>
  cases e
  rw [hK] at a
  rcases a with (a | ⟨o, a⟩) | ⟨o, its, n, a, c, _⟩
  ·exact .base (.tup a)
  ·exact .fTuple a
  ·exact .kTuple a c
 | scr a =>
  cases e
  rw [hK] at a
  rcases a with ⟨o, a⟩ | ⟨o, its, n, a, c, _⟩
  ·exact .base (.frz a)
  ·exact .kList a c
 | lst a b c => cases e; exact .base (.lst a)
 | dct a b c =>
  cases e
  rcases a with a | ⟨o, a⟩
  ·exact .base (.dK a)
  ·exact .fDict a
 | ins a b c => cases e
 | @ref i hi =>
  have e2 : (match h[i]? with
   | some (.lst _) => some BT.lst
   | some (.lck (.lst _)) => some BT.lst
   | some (.dct _) => some BT.dct
   | some (.lck (.dct _)) => some BT.dct
   | _ => none) = some t := e
  clear e
  split at e2
  ·rename_i l q
   cases e2
   cases R.obj i _ q with
   | lst q r => exact .base (.lst q)
  ·rename_i l q
   cases e2
   cases R.obj i _ q with
   | lckL q r => exact .base (.lst q)
  ·rename_i l q
   cases e2
   cases R.obj i _ q with
   | dct q r => exact .base (.dK q)
  ·rename_i l q
   cases e2
   cases R.obj i _ q with
   | lckD q r => exact .fDict q
  ·cases e2
theorem e_isi {X : Cx} {G : Cf} {W : WX} {a : Expr} {f : F D} {p p2 pos : Pos} {x : Str} (T : BT) (hK : G.K = X.K) (hg : Gl X "isinstance") (hm : X.mg "isinstance" = none) (hg2 : Gl X x) (hm2 : X.mg x = none) (hx : bootBuiltins x = some (.type T.name)) (hnx : x ≠ "__name__") (hdx : (x == ("__debug__" : Str)) = false)
  (ha : PE X a (tE G W f)) (hs : noStar a = true) : PE X (.Call (.Name "isinstance" p) [a, .Name x p2] [] pos) (tE G W (dU f (isiD T))) :=
 PE.imp (pe_callB (id := "isinstance") call_isi hg hm (by decide +kernel) (pa_cons ha (pa_cons (pe_bltn hg2 hm2 hx (v := .ty T.name) rfl hnx hdx) pa_nil (star_of rfl _ _)) (star_of hs _ _)) (by decide) (by decide) (star_of hs _ _) (stars_of rfl)) fun σ H Q hq => by
  obtain ⟨S, h, e, R, E, P⟩ := hq
  refine ⟨S, h, e, R, E, P.bind fun d h1 S1 H1 v _ N1 R1 v1 P1 => ?_⟩
  cases q : tyB h1 d with
  | none =>
   unfold isiD at P1
   rw [q] at P1; exact P1.elim
  | some t =>
   unfold isiD at P1
   rw [q] at P1
   exact ⟨v, .ty T.name, .type t.name, .type T.name, isBT t T, rfl, .ty _, tyB_at hK R1 v1 q, kit_bt t T, P1.here R1 (.bl _)⟩
inductive Tg where
 | nm (i : Nat) | tp (l : List Tg)
mutual
def bindT : Tg → D → En → Option En
 | .nm i, d, e => some (e.set i (some d))
 | .tp l, d, e => match d with
  | .tup ds => bindTs l ds e
  | .lst ds => bindTs l ds e
  | _ => none
def bindTs : List Tg → List D → En → Option En
 | [], [], e => some e
 | t :: l, d :: ds, e => match bindT t d e with
  | some e' => bindTs l ds e'
  | none => none
 | _, _, _ => none
end
mutual
def slotsT : Tg → List Nat
 | .nm i => [i]
 | .tp l => slotsTs l
def slotsTs : List Tg → List Nat
 | [] => []
 | t :: l => slotsT t ++ slotsTs l
end
def Agr (vs : List Nat) (σ σ' : L2.St) : Prop := σ'.length = σ.length ∧ ∀ j, j ∉ vs → σ'[j]? = σ[j]?
def gT (G : Cf) (t : Tg) : TG := fun v σ H Q => ∃ S h e d e', Rel G S h H ∧ EnR G S H e σ ∧ VD G S H d v ∧ bindT t d e = some e' ∧ ∀ σ', EnR G S H e' σ' → Agr (slotsT t) σ σ' → Q σ' H
def gTs (G : Cf) (t : List Tg) : TGs := fun vs σ H Q => ∃ S h e ds e', Rel G S h H ∧ EnR G S H e σ ∧ VDs G S H ds vs ∧ bindTs t ds e = some e' ∧ ∀ σ', EnR G S H e' σ' → Agr (slotsTs t) σ σ' → Q σ' H
theorem EnR.set {G : Cf} {S : Rho} {H : Hp} {e : En} {σ : L2.St} {i : Nat} {d : D} {v : V} (E : EnR G S H e σ) (x : VD G S H d v) (hb : ∀ c a, G.cur ≠ some (i, c, a)) : EnR G S H (e.set i (some d)) (σ.set i (some v)) where
 len := by rw [List.length_set, List.length_set]; exact E.len
 at_ := fun j d' q => by
  by_cases hj : i = j
  ·subst hj
   by_cases hl : i < e.length
   ·rw [List.getElem?_set_self hl] at q
    cases q
    exact ⟨v, List.getElem?_set_self (by rw [← E.len]; exact hl), x⟩
   ·rw [List.getElem?_eq_none (by simpa using hl)] at q; cases q
  ·rw [List.getElem?_set_ne hj] at q
   rw [List.getElem?_set_ne hj]
   exact E.at_ j d' q
 cur := fun j c a q => by
  by_cases hj : i = j
  ·subst hj; exact absurd q (hb c a)
  ·rw [List.getElem?_set_ne hj, List.getElem?_set_ne hj]
   exact E.cur j c a q
section
variable {X : Cx} {G : Cf} {pos : Pos}
theorem PG.imp {e : Expr} {t t' : TG} (p : PG X e t) (h : ∀ v σ H Q, t' v σ H Q → t v σ H Q) : PG X e t' := ⟨fun pins s σ H v u Q I r q => p.run pins s σ H v u Q I r (h _ _ _ _ q)⟩
theorem PGs.imp {e : List Expr} {t t' : TGs} (p : PGs X e t) (h : ∀ v σ H Q, t' v σ H Q → t v σ H Q) : PGs X e t' := ⟨fun pins s σ H v u Q I r q => p.run pins s σ H v u Q I r (h _ _ _ _ q)⟩
theorem g_nm {i : Nat} {x : Str} (hN : X.N.Nodup) (hi : X.N[i]? = some x) (hx : Loc X.env.scope x) (hf : X.fn x = true ∨ X.env.scope.names.lookup x = some .local) (hb : ∀ c a, G.cur ≠ some (i, c, a)) : PG X (.Name x pos) (gT G (.nm i)) :=
 PG.imp (pg_name hN hi hx hf) fun v σ H Q ⟨S, h, e, d, e', R, E, x, q, k⟩ => by
  unfold bindT at q
  cases q
  refine k _ (E.set x hb) ⟨List.length_set, fun j hj => ?_⟩
  unfold slotsT at hj
  exact List.getElem?_set_ne (fun z => hj (by simp [z]))
theorem PG.or {e : Expr} {t t' : TG} (p : PG X e t) (q : PG X e t') : PG X e (fun v σ H Q => t v σ H Q ∨ t' v σ H Q) := ⟨fun pins s σ H v u Q I r h => h.elim (p.run pins s σ H v u Q I r) (q.run pins s σ H v u Q I r)⟩
theorem each_of {e : Expr} (h : noStar e = true) (es : List Expr) (env : Env) : assignEach (e :: es) env = (false, assign e env) :: assignEach es env := by
 cases e <;> first | rfl | cases h
theorem gs_nil : PGs X [] (gTs G []) := PGs.imp pgs_nil fun vs σ H Q ⟨S, h, e, ds, e', R, E, x, q, k⟩ => by
 cases x with
 | nil =>
  unfold bindTs at q
  cases q
  exact ⟨rfl, k _ E ⟨rfl, fun _ _ => rfl⟩⟩
 | cons _ _ => unfold bindTs at q; cases q
theorem gs_cons {a : Expr} {es : List Expr} {t : Tg} {l : List Tg} (ha : PG X a (gT G t)) (hs : PGs X es (gTs G l)) (hn : noStar a = true) : PGs X (a :: es) (gTs G (t :: l)) :=
 PGs.imp (pgs_cons ha hs (by rw [each_of hn]; rfl)) fun vs σ H Q ⟨S, h, e, ds, e', R, E, x, q, k⟩ => by
  cases x with
  | nil => unfold bindTs at q; cases q
  | cons v1 r =>
   unfold bindTs at q
   split at q
   ·rename_i e1 q1
    exact ⟨_, _, rfl, S, h, e, _, e1, R, E, v1, q1, fun σ' E' A1 => ⟨S, h, e1, _, e', R, E', r, q, fun σ2 E2 A2 => k σ2 E2 ⟨A2.1.trans A1.1, fun j hj => by
     unfold slotsTs at hj
     rw [List.mem_append, not_or] at hj
     exact (A2.2 j hj.2).trans (A1.2 j hj.1)⟩⟩⟩
   ·cases q
theorem each_len {env : Env} : ∀ {es : List Expr}, es.all noStar = true → (assignEach es env).length = es.length ∧ (assignEach es env).findIdx? (·.1) = none
 | [], _ => ⟨rfl, rfl⟩
 | e :: es, h => by
  have h2 : noStar e = true ∧ es.all noStar = true := Bool.and_eq_true_iff.mp h
  obtain ⟨a, b⟩ := each_len (env := env) h2.2
  rw [each_of h2.1]
  refine ⟨congrArg Nat.succ a, ?_⟩
  rw [List.findIdx?_cons]
  simp [b]
theorem bindTs_len : ∀ {l : List Tg} {ds : List D} {e e' : En}, bindTs l ds e = some e' → ds.length = l.length
 | [], [], _, _, _ => rfl
 | [], _ :: _, _, _, h => by unfold bindTs at h; cases h
 | _ :: _, [], _, _, h => by unfold bindTs at h; cases h
 | t :: l, d :: ds, e, e', h => by
  unfold bindTs at h
  split at h
  ·exact congrArg Nat.succ (bindTs_len h)
  ·cases h
theorem g_tp {es : List Expr} {k : Nat} {l : List Tg} (hK : G.K = X.K) (hc : X.calm = true) (hs : PGs X es (gTs G l)) (hn : es.all noStar = true) (hl : es.length = l.length) : PG X (.Tuple es k pos) (gT G (.tp l)) :=
 PG.imp (PG.or (pg_tup hc hs (each_len hn).1 (each_len hn).2) (pg_lst hc hs (each_len hn).1 (each_len hn).2)) fun v σ H Q ⟨S, h, e, d, e', R, E, x, q, k⟩ => by
  unfold bindT at q
  split at q
  ·cases x with
   | tup a r =>
    rw [hK] at a
    refine .inl ⟨_, _, rfl, a, ?_, S, h, e, _, e', R, E, r, q, fun σ' E' A => k σ' E' (by unfold slotsT; exact A)⟩
    rw [← r.length, bindTs_len q, hl]
  ·cases x with
   | lst a _ r =>
    refine .inr ⟨_, _, rfl, .inl (.inl a), ?_, S, h, e, _, e', R, E, r, q, fun σ' E' A => k σ' E' (by unfold slotsT; exact A)⟩
    rw [← r.length, bindTs_len q, hl]
  ·cases q
end
abbrev FS := En → Hh → RS
def R.st {α : Type} (r : R α) (e : En) (k : α → Hh → RS) : RS := match r with
 | .ok a h => k a h
 | .exc c fs h => .exc c fs e h
 | .fail => .fail
theorem PstS.st {G : Cf} {W : WX} {S : Rho} {h : Hh} {H : Hp} {e : En} {σ : L2.St} {α β : Type} {rel : Rho → Hp → α → β → Prop} {r : R α} {k : α → Hh → RS} {Z : Ends} {Q' : β → Hp → Prop} (R0 : Rel G S h H) (E : EnR G S H e σ)
  (P : PstS G W S H (r.st e k) Z) (step : ∀ a h1 S1 H1 v, r = .ok a h1 → Nx G S H S1 H1 → Rel G S1 h1 H1 → rel S1 H1 a v → PstS G W S1 H1 (k a h1) Z → Q' v H1) : Pst G (fun c d H => W c d σ H) S H rel r Q' := by
 cases r with
 | ok a h1 => exact fun S1 H1 v N R x => step a h1 S1 H1 v rfl N R x (PstS.mono (r := k a h1) P N)
 | exc c fs h' => exact fun S' H' d N R x => P S' H' σ d N R (E.mono N R0.bad) x
 | fail => exact P
theorem PstS.next {G : Cf} {W : WX} {S : Rho} {h : Hh} {H : Hp} {e : En} {σ : L2.St} {Z : Ends} (P : PstS G W S H (.nx e h) Z) (R : Rel G S h H) (E : EnR G S H e σ) : Z.nx σ H := P S H σ .refl R E
def sNx : FS := fun e h => .nx e h
def sSeq (a b : FS) : FS := fun e h => match a e h with
 | .nx e1 h1 => b e1 h1
 | r => r
def sAsg (f : F D) (t : Tg) : FS := fun e h => (f e h).st e fun d h1 => match bindT t d e with
 | some e' => .nx e' h1
 | none => .fail
def sDrop (f : F D) : FS := fun e h => (f e h).st e fun _ h1 => .nx e h1
def sRet (f : F D) : FS := fun e h => (f e h).st e fun d h1 => .rt d h1
def sRetN : FS := fun _ h => .rt .non h
def sBrk : FS := fun e h => .bk e h
def sCnt : FS := fun e h => .ct e h
def sIf (t : F Bool) (a b : FS) : FS := fun e h => (t e h).st e fun c h1 => if c = true then a e h1 else b e h1
def sNever : FS := fun _ _ => .fail
section
variable {X : Cx} {G : Cf} {W : WX} {st : Stmt} {rest a b : List Stmt} {ts us : FS} {e c : Expr} {f : F D} {t : F Bool} {pos : Pos} {r : FS}
theorem b_nil : PSs X [] (tS G W sNx) := PSs.imp pss_nil fun Z σ H ⟨S, h, e, R, E, P⟩ => P.next R E
theorem b_cons (h1 : PS X st (tS G W ts)) (h2 : PSs X rest (tS G W us)) : PSs X (st :: rest) (tS G W (sSeq ts us)) :=
 PSs.imp (pss_cons h1 h2) fun Z σ H ⟨S, h, e, R, E, P⟩ => by
  refine ⟨S, h, e, R, E, ?_⟩
  unfold sSeq at P
  cases q : ts e h with
  | nx e1 h1 =>
   rw [q] at P
   exact fun S' H' σ' N R' E' => ⟨S', h1, e1, R', E', PstS.mono (r := us e1 h1) P N⟩
  | rt d h1 => rw [q] at P; exact P
  | bk d h1 => rw [q] at P; exact P
  | ct d h1 => rw [q] at P; exact P
  | exc _ _ _ _ => rw [q] at P; exact P
  | fail => rw [q] at P; exact P
theorem s_pass : PS X (.Pass pos) (tS G W sNx) := PS.imp ps_pass fun Z σ H ⟨S, h, e, R, E, P⟩ => P.next R E
theorem s_brk : PS X (.Break pos) (tS G W sBrk) := PS.imp ps_break fun Z σ H ⟨S, h, e, R, E, P⟩ => P S H σ .refl R E
theorem s_cnt : PS X (.Continue pos) (tS G W sCnt) := PS.imp ps_continue fun Z σ H ⟨S, h, e, R, E, P⟩ => P S H σ .refl R E
theorem s_never : PS X st (tS G W sNever) := PS.imp ps_never fun Z σ H ⟨S, h, e, R, E, P⟩ => P
theorem e_never : PE X e (tE G W fun _ _ => .fail) := ⟨fun pins s σ H Q I ⟨S, h, e, R, E, P⟩ => P.elim⟩
def noComp : Expr → Bool
 | .ListComp _ _ _ _ => false
 | .SetComp _ _ _ _ => false
 | .DictComp _ _ _ _ _ => false
 | _ => true
theorem swaps_of {v : Expr} (h : noComp v = true) (t : Option Expr) (l : Nat) (env : Env) : swapsWith v t l env = pure false := by
 cases v <;> first | rfl | cases h
def noTup : Expr → Bool
 | .Tuple _ _ _ => false
 | .List _ _ => false
 | _ => true
theorem stores_of {tg v : Expr} (h : (noTup tg || noTup v) = true) (env : Env) : swappedStores [tg] v env = pure none := by
 cases tg <;> first | rfl | (cases v <;> first | rfl | cases h)
theorem s_asg {tg : Expr} {g : Tg} (he : PE X e (tE G W f)) (hg : PG X tg (gT G g)) (hc : noComp e = true) (ht : (noTup tg || noTup e) = true) (hs : noStar tg = true) : PS X (.Assign [tg] e pos) (tS G W (sAsg f g)) :=
 PS.imp (ps_asg he hg (by unfold swapsWithSole; exact swaps_of hc _ _ _) (stores_of ht _) (by rw [each_of hs]; rfl)) fun Z σ H ⟨S, h, e, R, E, P⟩ =>
  ⟨S, h, e, R, E, P.st R E fun d h1 S1 H1 v _ N1 R1 v1 P1 => by
   cases q : bindT g d e with
   | none => rw [q] at P1; exact P1.elim
   | some e' =>
    rw [q] at P1
    exact ⟨S1, h1, e, d, e', R1, E.mono N1 R.bad, v1, q, fun σ' E' _ => P1.next R1 E'⟩⟩
theorem s_drop (he : PE X e (tE G W f)) (hc : noComp e = true) : PS X (.Expr e pos) (tS G W (sDrop f)) :=
 PS.imp (ps_expr he (swaps_of hc _ _ _)) fun Z σ H ⟨S, h, e, R, E, P⟩ => ⟨S, h, e, R, E, P.st R E fun d h1 S1 H1 v _ N1 R1 v1 P1 => P1.next R1 (E.mono N1 R.bad)⟩
theorem s_ret (he : PE X e (tE G W f)) : PS X (.Return (some e) pos) (tS G W (sRet f)) :=
 PS.imp (ps_ret he) fun Z σ H ⟨S, h, e, R, E, P⟩ => ⟨S, h, e, R, E, P.st R E fun d h1 S1 H1 v _ N1 R1 v1 P1 => P1 S1 H1 v .refl R1 v1⟩
theorem s_retN : PS X (.Return none pos) (tS G W sRetN) := PS.imp ps_retN fun Z σ H ⟨S, h, e, R, E, P⟩ => P S H .non .refl R .non
theorem s_if (hc : PT X c (tT G W t)) (ha : PSs X a (tS G W ts)) (hb : PSs X b (tS G W us)) : PS X (.If c a b pos) (tS G W (sIf t ts us)) :=
 PS.imp (ps_if hc ha hb) fun Z σ H ⟨S, h, e, R, E, P⟩ => ⟨S, h, e, R, E, P.st R E fun d h1 S1 H1 v _ N1 R1 v1 P1 => by
  subst v1
  cases d with
  | true => exact ⟨S1, h1, e, R1, E.mono N1 R.bad, P1⟩
  | false => exact ⟨S1, h1, e, R1, E.mono N1 R.bad, P1⟩⟩
def whl (t : F Bool) (b : FS) : Nat → FS
 | 0, _, _ => .fail
 | n + 1, e, h => (t e h).st e fun c h1 => if c = true then (match b e h1 with
  | .nx e1 h2 => whl t b n e1 h2
  | .ct e1 h2 => whl t b n e1 h2
  | .bk e1 h2 => .nx e1 h2
  | r => r) else .nx e h1
theorem s_while {n : Nat} (hp : PassesOwn (model X.prog X.w) X.A X.env X.xe) (hc : PT X c (tT G W t)) (hb : PSs X a (tS G W ts)) : PS X (.While c a [] pos) (tS G W (whl t ts n)) :=
 PS.imp (ps_while hp hc hb) fun Z σ H h0 => by
  refine ⟨fun m σ H => tS G W (whl t ts m) Z σ H, ⟨n, h0⟩, ?_⟩
  rintro m σ H ⟨S, h, e, R, E, P⟩
  cases m with
  | zero => exact P.elim
  | succ m =>
   refine ⟨S, h, e, R, E, P.st R E fun d h1 S1 H1 v _ N1 R1 v1 P1 => ?_⟩
   subst v1
   have E1 := E.mono N1 R.bad
   cases d with
   | false => exact P1.next R1 E1
   | true =>
    refine ⟨fun σ' H' => tS G W (whl t ts m) Z σ' H', fun σ' H' w => ⟨m, Nat.lt_succ_self m, w⟩, S1, h1, e, R1, E1, ?_⟩
    have P2 : PstS G W S1 H1 (match ts e h1 with | .nx e1 h2 => whl t ts m e1 h2 | .ct e1 h2 => whl t ts m e1 h2 | .bk e1 h2 => .nx e1 h2 | r => r) Z := P1
    cases q : ts e h1 with
    | nx e1 h2 => rw [q] at P2; exact fun S' H' σ' N R' E' => ⟨S', h2, e1, R', E', PstS.mono (r := whl t ts m e1 h2) P2 N⟩
    | ct e1 h2 => rw [q] at P2; exact fun S' H' σ' N R' E' => ⟨S', h2, e1, R', E', PstS.mono (r := whl t ts m e1 h2) P2 N⟩
    | bk e1 h2 => rw [q] at P2; exact P2
    | rt d h1 => rw [q] at P2; exact P2
    | exc _ _ _ _ => rw [q] at P2; exact P2
    | fail => rw [q] at P2; exact P2
end
end Sb
namespace Sb
open L2 PySem PySem.Spec PyProof.Rows
structure Src where
 n : Nat
 at_ : Hh → Nat → Option (Option D)
def Walks (G : Cg) (J : It) (a : Hh → Nat → Option (Option D)) (S0 : Rho) (H0 : Hp) : Prop := ∀ S h H i, Nx G S0 H0 S H → Rel G S h H →
 (a h i = some none → J.stop i H) ∧ ∀ d, a h i = some (some d) → J.go i H ∧ ∀ x H', J.yld i H x H' → Nx G S H S H' ∧ Rel G S h H' ∧ VD G S H' d x
abbrev relI (G : Cg) : Rho → Hp → Src → It → Prop := fun S H a J => Walks G J a.at_ S H
abbrev tI (G : Cf) (W : WX) (f : F Src) : TI := tX G W (relI G) f
theorem PI.imp {X : Cx} {tg iter : Expr} {t t' : TI} (p : PI X tg iter t) (h : ∀ σ H R, t' σ H R → t σ H R) : PI X tg iter t' := ⟨fun pins s σ H R I q => p.run pins s σ H R I (h σ H R q)⟩
theorem PI.or {X : Cx} {tg iter : Expr} {t t' : TI} (p : PI X tg iter t) (q : PI X tg iter t') : PI X tg iter (fun σ H R => t σ H R ∨ t' σ H R) :=
 ⟨fun pins s σ H R I h => h.elim (p.run pins s σ H R I) (q.run pins s σ H R I)⟩
def seqAt (d : D) : Hh → Nat → Option (Option D) := fun h i => match asQ h d with
 | some l => some l[i]?
 | none => none
def lenQ (h : Hh) (d : D) : Nat := match asQ h d with
 | some l => l.length
 | none => 0
def iSeq (f : F D) : F Src := fun e h => (f e h).bind fun d h1 => if (asQ h1 d).isSome = true then .ok ⟨lenQ h1 d, seqAt d⟩ h1 else .fail
def txtAt (s : Str) : Hh → Nat → Option (Option D) := fun _ i => some (s.cps[i]?.map fun c => .str ⟨#[c]⟩)
def iTxt (f : F D) : F Src := fun e h => (f e h).bind fun d h1 => match d with
 | .str s => .ok ⟨s.cps.size, txtAt s⟩ h1
 | _ => .fail
theorem walks_txt {G : Cg} {S : Rho} {H : Hp} (s : Str) : Walks G (Its s) (txtAt s) S H := fun S' h H' i N R => by
 cases q : s.cps[i]? with
 | none =>
  have e0 : txtAt s h i = some none := by unfold txtAt; rw [q]; rfl
  rw [e0]
  exact ⟨fun _ => Array.getElem?_eq_none_iff.mp q, fun d e => by cases e⟩
 | some c =>
  have e0 : txtAt s h i = some (some (.str ⟨#[c]⟩)) := by unfold txtAt; rw [q]; rfl
  rw [e0]
  refine ⟨fun z => (by cases z), fun d e => ?_⟩
  cases e
  refine ⟨(Array.getElem?_eq_some_iff.mp q).1, fun x H2 y => ?_⟩
  obtain ⟨rfl, c', hc, rfl⟩ := y
  rw [q] at hc
  cases hc
  exact ⟨.refl, R, .str _⟩
def rngAt (lo : Int) (n : Nat) : Hh → Nat → Option (Option D) := fun _ i => some (if i < n then some (.int (lo + i)) else none)
def iRange1 (f : F D) : F Src := fun e h => (f e h).bind fun d h1 => match d with
 | .int j => if -(2 ^ 62) ≤ j ∧ j < 2 ^ 62 then .ok ⟨j.toNat, rngAt 0 j.toNat⟩ h1 else .fail
 | _ => .fail
def iRange2 (f g : F D) : F Src := fun e h => (f e h).bind fun d h1 => (g e h1).bind fun d' h2 => match d, d' with
 | .int i, .int j => if -(2 ^ 62) ≤ i ∧ i < 2 ^ 62 ∧ -(2 ^ 62) ≤ j ∧ j < 2 ^ 62 then .ok ⟨(j - i).toNat, rngAt i (j - i).toNat⟩ h2 else .fail
 | _, _ => .fail
theorem walks_rng {G : Cg} {S : Rho} {H : Hp} (lo : Int) (n : Nat) : Walks G (Itr lo n) (rngAt lo n) S H := fun S' h H' i N R => by
 by_cases q : i < n
 ·have e0 : rngAt lo n h i = some (some (.int (lo + i))) := by unfold rngAt; rw [if_pos q]
  rw [e0]
  refine ⟨fun z => (by cases z), fun d e => ?_⟩
  cases e
  refine ⟨q, fun x H2 y => ?_⟩
  obtain ⟨rfl, rfl⟩ := y
  exact ⟨.refl, R, .int _⟩
 ·have e0 : rngAt lo n h i = some none := by unfold rngAt; rw [if_neg q]
  rw [e0]
  exact ⟨fun _ => Nat.not_lt.mp q, fun d e => by cases e⟩
theorem VDs.get2 {G : Cg} {S : Rho} {H : Hp} {l : List D} {vs : List V} {i : Nat} (r : VDs G S H l vs) : (l[i]? = none ∧ vs.length ≤ i) ∨ ∃ d v, l[i]? = some d ∧ vs[i]? = some v ∧ VD G S H d v := by
 cases q : l[i]? with
 | none => exact .inl ⟨rfl, by rw [← r.length]; exact List.getElem?_eq_none_iff.mp q⟩
 | some d =>
  obtain ⟨v, a, b⟩ := r.get q
  exact .inr ⟨d, v, rfl, a, b⟩
theorem sqL_inj_at {K : PySem.W.Frag} {H : Hp} {a : Addr} {xs : List V} {i : Nat} {x : V} (h : xs[i]? = some x) (y : V) (q : ∀ ys, SqL K H a ys → ys[i]? = some y) (hs : SqL K H a xs) : y = x := by
 have e := q xs hs
 rw [h] at e
 exact (Option.some.inj e).symm
theorem sqT_inj_at {K : PySem.W.Frag} {H : Hp} {a : Addr} {xs : List V} {i : Nat} {x : V} (h : xs[i]? = some x) (y : V) (q : ∀ ys, SqT K H a ys → ys[i]? = some y) (hs : SqT K H a xs) : y = x := by
 have e := q xs hs
 rw [h] at e
 exact (Option.some.inj e).symm
theorem asL_ref_eq {G : Cg} {S : Rho} {h : Hh} {H : Hp} {d : D} {a : Addr} {l : List D} (R : Rel G S h H) (x : VD G S H d (.ref a)) (e : asL h d = some l) : ∃ vs, SqL G.K H a vs ∧ VDs G S H l vs := by
 obtain ⟨b, vs, e1, e2, e3⟩ := asL_at R x e
 cases e1
 exact ⟨vs, e2, e3⟩
theorem walks_lst {G : Cg} {S : Rho} {H : Hp} {d : D} {a : Addr} (bad : ∀ i, i < S.n → S.B (S.r i)) (x : VD G S H d (.ref a)) (hd : ∀ l, d ≠ .tup l) : Walks G (Itl G.K a) (seqAt d) S H := fun S' h H' i N R => by
 have x' := x.mono N bad
 unfold seqAt
 have e : asQ h d = asL h d := by cases d <;> first | rfl | exact absurd rfl (hd _)
 rw [e]
 cases q : asL h d with
 | none => exact ⟨fun z => (by cases z), fun d e => (by cases e)⟩
 | some l =>
  obtain ⟨vs, hs, r⟩ := asL_ref_eq R x' q
  rcases r.get2 (i := i) with ⟨q1, q2⟩ | ⟨d1, v1, q1, q2, r1⟩
  ·simp only [q1]
   exact ⟨fun _ => ⟨vs, hs, q2⟩, fun d e => by cases e⟩
  ·simp only [q1]
   refine ⟨fun z => (by cases z), fun d e => ?_⟩
   cases e
   refine ⟨⟨vs, v1, hs, q2⟩, fun y H2 z => ?_⟩
   obtain ⟨rfl, z⟩ := z
   rw [sqL_inj_at q2 y z hs]
   exact ⟨.refl, R, r1⟩
theorem walks_tup {G : Cg} {S : Rho} {H : Hp} {l : List D} {a : Addr} (bad : ∀ i, i < S.n → S.B (S.r i)) (x : VD G S H (.tup l) (.ref a)) : Walks G (Itt G.K a) (seqAt (.tup l)) S H := fun S' h H' i N R => by
 have x' := x.mono N bad
 unfold seqAt
 cases x' with
 | tup hs r =>
  rcases r.get2 (i := i) with ⟨q1, q2⟩ | ⟨d1, v1, q1, q2, r1⟩
  ·show (some l[i]? = some none → _) ∧ ∀ d, some l[i]? = some (some d) → _
   rw [q1]
   exact ⟨fun _ => ⟨_, hs, q2⟩, fun d e => by cases e⟩
  ·show (some l[i]? = some none → _) ∧ ∀ d, some l[i]? = some (some d) → _
   rw [q1]
   refine ⟨fun z => (by cases z), fun d e => ?_⟩
   cases e
   refine ⟨⟨_, v1, hs, q2⟩, fun y H2 z => ?_⟩
   obtain ⟨rfl, z⟩ := z
   rw [sqT_inj_at q2 y z hs]
   exact ⟨.refl, R, r1⟩
section
variable {X : Cx} {G : Cf} {W : WX} {tg a b : Expr} {f g : F D} {p pos : Pos}
theorem i_seq (hK : G.K = X.K) (ha : PE X a (tE G W f)) : PI X tg a (tI G W (iSeq f)) := Sb.PI.imp (Sb.PI.or (pi_list ha) (pi_tup ha)) fun σ H R0 ⟨S, h, e, R, E, P⟩ => by
 have key : ∀ d h1 S1 H1 v, Rel G S1 h1 H1 → VD G S1 H1 d v → Pst G (fun c d H => W c d σ H) S1 H1 (relI G) (if (asQ h1 d).isSome = true then Sb.R.ok ⟨lenQ h1 d, seqAt d⟩ h1 else Sb.R.fail) R0 →
   (∃ l, d = .tup l ∧ ∃ a, v = .ref a ∧ (∃ xs, SqT X.K H1 a xs) ∧ R0 (Itt X.K a) H1) ∨ ((∀ l, d ≠ .tup l) ∧ ∃ a, v = .ref a ∧ (∃ xs, SqL X.K H1 a xs) ∧ R0 (Itl X.K a) H1) := by
  intro d h1 S1 H1 v R1 v1 P1
  by_cases c : (asQ h1 d).isSome = true
  ·rw [if_pos c] at P1
   obtain ⟨l, e1⟩ := Option.isSome_iff_exists.mp c
   cases d with
   | tup l' =>
    refine .inl ⟨l', rfl, ?_⟩
    cases v1 with
    | tup hs r =>
     have hs2 := hs
     rw [hK] at hs2
     have fin := P1.here R1 (walks_tup R1.bad (.tup hs r))
     rw [hK] at fin
     exact ⟨_, rfl, ⟨_, hs2⟩, fin⟩
   | _ =>
    refine .inr ⟨fun l z => (by cases z), ?_⟩
    obtain ⟨a, vs, rfl, hs, r⟩ := asL_at R1 v1 e1
    have fin := P1.here R1 (walks_lst R1.bad v1 fun l z => (by cases z))
    rw [hK] at fin hs
    exact ⟨a, rfl, ⟨vs, hs⟩, fin⟩
  ·rw [if_neg c] at P1; exact P1.elim
 by_cases tp : ∃ l h1, f e h = .ok (.tup l) h1
 ·refine .inr ⟨S, h, e, R, E, P.bind fun d h1 S1 H1 v ef N1 R1 v1 P1 => ?_⟩
  obtain ⟨l, h2, e2⟩ := tp
  rw [e2] at ef
  cases ef
  rcases key _ _ _ _ _ R1 v1 P1 with ⟨_, _, q⟩ | ⟨n, _⟩
  ·exact q
  ·exact absurd rfl (n l)
 ·refine .inl ⟨S, h, e, R, E, P.bind fun d h1 S1 H1 v ef N1 R1 v1 P1 => ?_⟩
  rcases key _ _ _ _ _ R1 v1 P1 with ⟨l, e1, _⟩ | ⟨_, q⟩
  ·subst e1; exact absurd ⟨l, h1, ef⟩ tp
  ·exact q
theorem i_txt (ha : PE X a (tE G W f)) : PI X tg a (tI G W (iTxt f)) := Sb.PI.imp (pi_str ha) fun σ H R0 ⟨S, h, e, R, E, P⟩ => ⟨S, h, e, R, E, P.bind fun d h1 S1 H1 v ef N1 R1 v1 P1 => by
  cases v1 with
  | str s =>
   have P2 : Pst G (fun c d H => W c d σ H) S1 H1 (relI G) (Sb.R.ok ⟨s.cps.size, txtAt s⟩ h1) R0 := P1
   exact ⟨s, rfl, P2.here R1 (walks_txt s)⟩
  | _ => exact P1.elim⟩
theorem i_rng1 (hg : Gl X "range") (hm : X.mg "range" = none) (ha : PE X a (tE G W f)) (hs : noStar a = true) : PI X tg (.Call (.Name "range" p) [a] [] pos) (tI G W (iRange1 f)) :=
 Sb.PI.imp (pi_range1 hg hm (pa_cons ha pa_nil (star_of hs _ _)) (star_of hs _ _)) fun σ H R0 ⟨S, h, e, R, E, P⟩ => ⟨S, h, e, R, E, P.bind fun d h1 S1 H1 v ef N1 R1 v1 P1 => by
  cases v1 with
  | int j =>
   by_cases c : -(2 ^ 62) ≤ j ∧ j < 2 ^ 62
   ·have P2 : Pst G (fun c d H => W c d σ H) S1 H1 (relI G) (Sb.R.ok ⟨j.toNat, rngAt 0 j.toNat⟩ h1) R0 := by
     have z : (if -(2 ^ 62) ≤ j ∧ j < 2 ^ 62 then (Sb.R.ok (⟨j.toNat, rngAt 0 j.toNat⟩ : Src) h1) else Sb.R.fail) = Sb.R.ok ⟨j.toNat, rngAt 0 j.toNat⟩ h1 := if_pos c
     rw [← z]; exact P1
    exact ⟨j, rfl, c.1, c.2, P2.here R1 (walks_rng 0 j.toNat)⟩
   ·have z : (if -(2 ^ 62) ≤ j ∧ j < 2 ^ 62 then (Sb.R.ok (⟨j.toNat, rngAt 0 j.toNat⟩ : Src) h1) else Sb.R.fail) = Sb.R.fail := if_neg c
    have P2 : Pst G (fun c d H => W c d σ H) S1 H1 (relI G) (Sb.R.fail (α := Src)) R0 := by rw [← z]; exact P1
    exact P2.elim
  | _ => exact P1.elim⟩
theorem i_rng2 (hg : Gl X "range") (hm : X.mg "range" = none) (ha : PE X a (tE G W f)) (hb : PE X b (tE G W g)) (hs : noStar a = true) (hs2 : noStar b = true) : PI X tg (.Call (.Name "range" p) [a, b] [] pos) (tI G W (iRange2 f g)) :=
 Sb.PI.imp (pi_range2 hg hm (pa_cons ha (pa_cons hb pa_nil (star_of hs2 _ _)) (star_of hs _ _)) (by rw [star_of hs, star_of hs2]; rfl) (star_of hs2 _ _)) fun σ H R0 ⟨S, h, e, R, E, P⟩ => ⟨S, h, e, R, E, P.bind fun d h1 S1 H1 v ef N1 R1 v1 P1 =>
  ⟨S1, h1, e, R1, E.mono N1 R.bad, P1.bind fun d2 h2 S2 H2 v' ef2 N2 R2 v2 P2 => by
  cases v1 with
  | int i =>
   cases v2 with
   | int j =>
    by_cases c : -(2 ^ 62) ≤ i ∧ i < 2 ^ 62 ∧ -(2 ^ 62) ≤ j ∧ j < 2 ^ 62
    ·have P3 : Pst G (fun c d H => W c d σ H) S2 H2 (relI G) (Sb.R.ok ⟨(j - i).toNat, rngAt i (j - i).toNat⟩ h2) R0 := by
      have z : (if -(2 ^ 62) ≤ i ∧ i < 2 ^ 62 ∧ -(2 ^ 62) ≤ j ∧ j < 2 ^ 62 then (Sb.R.ok (⟨(j - i).toNat, rngAt i (j - i).toNat⟩ : Src) h2) else Sb.R.fail) = Sb.R.ok ⟨(j - i).toNat, rngAt i (j - i).toNat⟩ h2 := if_pos c
      rw [← z]; exact P2
     exact ⟨i, j, rfl, c, P3.here R2 (walks_rng i _)⟩
    ·have z : (if -(2 ^ 62) ≤ i ∧ i < 2 ^ 62 ∧ -(2 ^ 62) ≤ j ∧ j < 2 ^ 62 then (Sb.R.ok (⟨(j - i).toNat, rngAt i (j - i).toNat⟩ : Src) h2) else Sb.R.fail) = Sb.R.fail := if_neg c
     have P3 : Pst G (fun c d H => W c d σ H) S2 H2 (relI G) (Sb.R.fail (α := Src)) R0 := by rw [← z]; exact P2
     exact P3.elim
   | _ => exact P2.elim
  | _ => exact P2.elim⟩⟩
end
def forS (a : Hh → Nat → Option (Option D)) (g : Tg) (b : FS) : Nat → Nat → FS
 | m, i, e, h => match a h i with
  | some none => .nx e h
  | some (some d) => match m with
   | 0 => .fail
   | m + 1 => match bindT g d e with
    | some e1 => match b e1 h with
     | .nx e2 h2 => forS a g b m (i + 1) e2 h2
     | .ct e2 h2 => forS a g b m (i + 1) e2 h2
     | .bk e2 h2 => .nx e2 h2
     | r => r
    | none => .fail
  | none => .fail
def sFor (f : F Src) (g : Tg) (b : FS) : FS := fun e h => (f e h).st e fun s h1 => forS s.at_ g b s.n 0 e h1
def noSetT : Expr → Bool
 | .Set _ _ _ => false
 | _ => true
theorem folded_of {e : Expr} (h : noSetT e = true) {env : Env} : ∀ x, foldedSetIterable e env x = pure x := by
 intro x
 cases e <;> first | rfl | cases h
theorem s_for {X : Cx} {G : Cf} {W : WX} {tg iter : Expr} {body : List Stmt} {f : F Src} {g : Tg} {b : FS} {pos : Pos} (hc : X.calm = true) (hp : PassesOwn (model X.prog X.w) X.A X.env X.xe) (hi : PI X tg iter (tI G W f)) (hg : PG X tg (gT G g)) (hb : PSs X body (tS G W b)) (hs : noSetT iter = true) :
  PS X (.For tg iter body [] pos) (tS G W (sFor f g b)) :=
 PS.imp (ps_for hp hc hi hg hb (folded_of hs)) fun Z σ H ⟨S, h, e, R, E, P⟩ => ⟨S, h, e, R, E, P.st R E fun s h1 S1 H1 J _ N1 R1 w P1 => by
  refine ⟨fun i m σ H => ∃ S h e, Nx G S1 H1 S H ∧ Rel G S h H ∧ EnR G S H e σ ∧ PstS G W S H (forS s.at_ g b m i e h) Z, ⟨s.n, S1, h1, e, .refl, R1, E.mono N1 R.bad, P1⟩, ?_⟩
  rintro i m σ2 H2 ⟨S2, h2, e2, N2, R2, E2, P2⟩
  obtain ⟨w1, w2⟩ := w S2 h2 H2 i N2 R2
  unfold forS at P2
  split at P2
  ·rename_i q
   exact .inl ⟨w1 q, P2.next R2 E2⟩
  ·rename_i d q
   obtain ⟨g1, g2⟩ := w2 d q
   refine .inr ⟨g1, ?_⟩
   cases m with
   | zero => exact P2.elim
   | succ m =>
    simp only at P2
    split at P2
    ·rename_i e3 q3
     refine ⟨fun σ' H' => ∃ S h e, Nx G S1 H1 S H' ∧ Rel G S h H' ∧ EnR G S H' e σ' ∧ PstS G W S H' (forS s.at_ g b m (i + 1) e h) Z, fun σ' H' z => ⟨m, Nat.lt_succ_self m, z⟩, fun x H3 y => ?_⟩
     obtain ⟨N3, R3, x3⟩ := g2 x H3 y
     refine ⟨S2, h2, e2, d, e3, R3, E2.mono N3 R2.bad, x3, q3, fun σ4 E4 _ => ⟨S2, h2, e3, R3, E4, ?_⟩⟩
     have P3 := PstS.mono P2 N3
     cases q5 : b e3 h2 with
     | nx e5 h5 => rw [q5] at P3; exact fun S' H' σ' N R' E' => ⟨S', h5, e5, (N2.trans N3).trans N, R', E', PstS.mono (r := forS s.at_ g b m (i + 1) e5 h5) P3 N⟩
     | ct e5 h5 => rw [q5] at P3; exact fun S' H' σ' N R' E' => ⟨S', h5, e5, (N2.trans N3).trans N, R', E', PstS.mono (r := forS s.at_ g b m (i + 1) e5 h5) P3 N⟩
     | bk e5 h5 => rw [q5] at P3; exact P3
     | rt _ _ => rw [q5] at P3; exact P3
     | exc _ _ _ _ => rw [q5] at P3; exact P3
     | fail => rw [q5] at P3; exact P3
    ·exact P2.elim
  ·exact P2.elim⟩
end Sb
namespace Sb
open L2 PySem PySem.Spec PyProof.Rows
def W0 : WX := fun _ _ _ _ => False
def Rho.ban (S : Rho) (p : Addr) : Rho := ⟨S.r, S.n, fun b => S.B b ∨ b = p⟩
def Rho.unban (S : Rho) (p : Addr) : Rho := ⟨S.r, S.n, fun b => S.B b ∧ b ≠ p⟩
section
variable {G : Cg} {S S' : Rho} {H : Hp} {h : Hh} {p : Addr} {vs ws : List V}
mutual
theorem VD.lessB (hr : S'.r = S.r) (hn : S'.n = S.n) (hB : ∀ b, S'.B b → S.B b) : ∀ {d : D} {v : V}, VD G S H d v → VD G S' H d v
 | _, _, .non => .non
 | _, _, .bl b => .bl b
 | _, _, .int b => .int b
 | _, _, .str b => .str b
 | _, _, .tup a b => .tup a (VDs.lessB hr hn hB b)
 | _, _, .scr a => .scr a
 | _, _, .lst a b c => .lst a (fun z => b (hB _ z)) (VDs.lessB hr hn hB c)
 | _, _, .dct a b c => .dct a (fun z => b (hB _ z)) (VDk.lessB hr hn hB c)
 | _, _, .ins a b c => .ins a (fun z => b (hB _ z)) (VDf.lessB hr hn hB c)
 | _, _, .ref hi => by rw [← hr]; exact .ref (by rw [hn]; exact hi)
theorem VDs.lessB (hr : S'.r = S.r) (hn : S'.n = S.n) (hB : ∀ b, S'.B b → S.B b) : ∀ {d : List D} {v : List V}, VDs G S H d v → VDs G S' H d v
 | _, _, .nil => .nil
 | _, _, .cons a b => .cons (VD.lessB hr hn hB a) (VDs.lessB hr hn hB b)
theorem VDk.lessB (hr : S'.r = S.r) (hn : S'.n = S.n) (hB : ∀ b, S'.B b → S.B b) : ∀ {d : List (Key × D)} {v : List (Key × V)}, VDk G S H d v → VDk G S' H d v
 | _, _, .nil => .nil
 | _, _, .cons a b => .cons (VD.lessB hr hn hB a) (VDk.lessB hr hn hB b)
theorem VDf.lessB (hr : S'.r = S.r) (hn : S'.n = S.n) (hB : ∀ b, S'.B b → S.B b) : ∀ {d : List (Str × D)} {v : List (Str × V)}, VDf G S H d v → VDf G S' H d v
 | _, _, .nil => .nil
 | _, _, .cons a b => .cons (VD.lessB hr hn hB a) (VDf.lessB hr hn hB b)
end
theorem OD.lessB (hr : S'.r = S.r) (hn : S'.n = S.n) (hB : ∀ b, S'.B b → S.B b) {a : Addr} {o : O} (x : OD G S H a o) : OD G S' H a o := by
 cases x with
 | lst q v => exact .lst q (v.lessB hr hn hB)
 | dct q v => exact .dct q (v.lessB hr hn hB)
 | ins q v => exact .ins q (v.lessB hr hn hB)
 | lckL q v => exact .lckL q (v.lessB hr hn hB)
 | lckD q v => exact .lckD q (v.lessB hr hn hB)
 | dkn q v a b c d => exact .dkn q v a b c d
theorem seqT_upd (e : H p = some (.lst vs)) {a : Addr} {xs : List V} (q : SqT G.K H a xs) : SqT G.K (upd H p (.lst ws)) a xs := by
 rcases q with (q | ⟨o, q⟩) | q
 ·exact .inl (.inl (by rw [upd_ne (fun z => by rw [z, e] at q; cases q)]; exact q))
 ·exact .inl (.inr ⟨o, by rw [upd_ne (fun z => by rw [z, e] at q; cases q)]; exact q⟩)
 ·exact .inr q
theorem seqF_upd (e : H p = some (.lst vs)) {a : Addr} {xs : List V} (q : SqF G.K H a xs) : SqF G.K (upd H p (.lst ws)) a xs := by
 rcases q with ⟨o, q⟩ | q
 ·exact .inl ⟨o, by rw [upd_ne (fun z => by rw [z, e] at q; cases q)]; exact q⟩
 ·exact .inr q
mutual
theorem VD.updB (hp : S.B p) (e : H p = some (.lst vs)) : ∀ {d : D} {v : V}, VD G S H d v → VD G S (upd H p (.lst ws)) d v
 | _, _, .non => .non
 | _, _, .bl b => .bl b
 | _, _, .int b => .int b
 | _, _, .str b => .str b
 | _, _, .tup a b => .tup (seqT_upd e a) (VDs.updB hp e b)
 | _, _, .scr a => .scr (seqF_upd e a)
 | _, _, .lst a b c => .lst (by rw [upd_ne (fun z => b (by rw [z]; exact hp))]; exact a) b (VDs.updB hp e c)
 | _, _, .dct a b c => .dct (by
   rcases a with a | ⟨o, a⟩
   ·exact .inl (by rw [upd_ne (fun z => b (by rw [z]; exact hp))]; exact a)
   ·exact .inr ⟨o, by rw [upd_ne (fun z => b (by rw [z]; exact hp))]; exact a⟩) b (VDk.updB hp e c)
 | _, _, .ins a b c => .ins (by rw [upd_ne (fun z => b (by rw [z]; exact hp))]; exact a) b (VDf.updB hp e c)
 | _, _, .ref hi => .ref hi
theorem VDs.updB (hp : S.B p) (e : H p = some (.lst vs)) : ∀ {d : List D} {v : List V}, VDs G S H d v → VDs G S (upd H p (.lst ws)) d v
 | _, _, .nil => .nil
 | _, _, .cons a b => .cons (VD.updB hp e a) (VDs.updB hp e b)
theorem VDk.updB (hp : S.B p) (e : H p = some (.lst vs)) : ∀ {d : List (Key × D)} {v : List (Key × V)}, VDk G S H d v → VDk G S (upd H p (.lst ws)) d v
 | _, _, .nil => .nil
 | _, _, .cons a b => .cons (VD.updB hp e a) (VDk.updB hp e b)
theorem VDf.updB (hp : S.B p) (e : H p = some (.lst vs)) : ∀ {d : List (Str × D)} {v : List (Str × V)}, VDf G S H d v → VDf G S (upd H p (.lst ws)) d v
 | _, _, .nil => .nil
 | _, _, .cons a b => .cons (VD.updB hp e a) (VDf.updB hp e b)
end
theorem Rel.updB (R : Rel G S h H) (hp : S.B p) (e : H p = some (.lst vs)) (hn : ∀ i, i < S.n → S.r i ≠ p) : Rel G S h (upd H p (.lst ws)) where
 len := R.len
 bad := R.bad
 inj := R.inj
 live := fun b z => by
  by_cases q : b = p
  ·rw [q, upd_same]; simp
  ·rw [upd_ne q]; exact R.live b z
 obj := fun i o q0 => by
  have hi : i < S.n := by rw [← R.len]; exact (List.getElem?_eq_some_iff.mp q0).1
  have ne : upd H p (.lst ws) (S.r i) = H (S.r i) := upd_ne (hn i hi)
  cases R.obj i o q0 with
  | lst q v => exact .lst (by rw [ne]; exact q) (v.updB hp e)
  | dct q v => exact .dct (by rw [ne]; exact q) (v.updB hp e)
  | ins q v => exact .ins (by rw [ne]; exact q) (v.updB hp e)
  | lckL q v => exact .lckL (by rw [ne]; exact q) (v.updB hp e)
  | lckD q v => exact .lckD (by rw [ne]; exact q) (v.updB hp e)
  | dkn q v a b c d => exact .dkn (by rw [ne]; exact q) (fun x hx => ⟨(v x hx).1.to fun a xs z => seqT_upd e z, (v x hx).2⟩) a b c d
theorem Nx.updB {S0 : Rho} {H0 : Hp} (N : Nx G S0 H0 S H) (h0 : H0 p = none) (e : H p = some (.lst vs)) : Nx G S0 H0 S (upd H p (.lst ws)) where
 n := N.n
 r := N.r
 new := N.new
 up := N.up
 dn := N.dn
 keep := fun b u n q => by rw [upd_ne (fun z => by rw [z, h0] at q; cases q)]; exact N.keep b u n q
 there := fun b q => by
  by_cases z : b = p
  ·rw [z, upd_same]; simp
  ·rw [upd_ne z]; exact N.there b q
 seqT := fun a xs q => seqT_upd e (N.seqT a xs q)
 seqF := fun a xs q => seqF_upd e (N.seqF a xs q)
 frz := fun b o u q => by
  have z := N.frz b o u q
  rw [upd_ne (fun y => by rw [y, e] at z; cases z)]; exact z
end
def wipeE (e : En) : List Nat → En
 | [] => e
 | v :: vs => (wipeE e vs).set v none
theorem wipe_at {α : Type} (w : List (Option α) → List Nat → List (Option α)) (h0 : ∀ e, w e [] = e) (h1 : ∀ e v vs, w e (v :: vs) = (w e vs).set v none) : ∀ (vs : List Nat) (e : List (Option α)) (j : Nat), (w e vs).length = e.length ∧ (j ∉ vs → (w e vs)[j]? = e[j]?) ∧ (j ∈ vs → j < e.length → (w e vs)[j]? = some none)
 | [], e, j => by rw [h0]; exact ⟨rfl, fun _ => rfl, fun z => by cases z⟩
 | v :: vs, e, j => by
  obtain ⟨a, b, c⟩ := wipe_at w h0 h1 vs e j
  rw [h1]
  refine ⟨by rw [List.length_set]; exact a, fun z => ?_, fun z l => ?_⟩
  ·rw [List.mem_cons, not_or] at z
   rw [List.getElem?_set_ne (fun y => z.1 y.symm)]
   exact b z.2
  ·by_cases y : v = j
   ·subst y
    rw [List.getElem?_set_self (by rw [a]; exact l)]
   ·rw [List.getElem?_set_ne y]
    rcases List.mem_cons.mp z with z | z
    ·exact absurd z.symm y
    ·exact c z l
theorem wipe_V (vs : List Nat) (σ : L2.St) (j : Nat) : (wipe σ vs).length = σ.length ∧ (j ∉ vs → (wipe σ vs)[j]? = σ[j]?) ∧ (j ∈ vs → j < σ.length → (wipe σ vs)[j]? = some none) := wipe_at wipe (fun _ => rfl) (fun _ _ _ => rfl) vs σ j
theorem wipe_E (vs : List Nat) (e : En) (j : Nat) : (wipeE e vs).length = e.length ∧ (j ∉ vs → (wipeE e vs)[j]? = e[j]?) ∧ (j ∈ vs → j < e.length → (wipeE e vs)[j]? = some none) := wipe_at wipeE (fun _ => rfl) (fun _ _ _ => rfl) vs e j
theorem wipe_same {vs : List Nat} {σ σ' : L2.St} (A : Agr vs σ σ') : wipe σ' vs = wipe σ vs := by
 refine List.ext_getElem? fun j => ?_
 obtain ⟨a, b, c⟩ := wipe_V vs σ j
 obtain ⟨a', b', c'⟩ := wipe_V vs σ' j
 by_cases z : j ∈ vs
 ·by_cases l : j < σ.length
  ·rw [c z l, c' z (by rw [A.1]; exact l)]
  ·rw [List.getElem?_eq_none (by rw [a', A.1]; omega), List.getElem?_eq_none (by rw [a]; omega)]
 ·rw [b z, b' z, A.2 j z]
theorem wipe_wipe (vs : List Nat) (σ : L2.St) : wipe (wipe σ vs) vs = wipe σ vs := wipe_same ⟨(wipe_V vs σ 0).1, fun j z => (wipe_V vs σ j).2.1 z⟩
theorem EnR.wipe {G : Cf} {S : Rho} {H : Hp} {e : En} {σ : L2.St} (E : EnR G S H e σ) (hc : G.cur = none) (vs : List Nat) : EnR G S H (wipeE e vs) (L2.wipe σ vs) where
 len := by rw [(wipe_E vs e 0).1, (wipe_V vs σ 0).1]; exact E.len
 at_ := fun i d q => by
  obtain ⟨a, b, c⟩ := wipe_E vs e i
  by_cases z : i ∈ vs
  ·by_cases l : i < e.length
   ·rw [c z l] at q; cases q
   ·rw [List.getElem?_eq_none (by rw [a]; omega)] at q; cases q
  ·rw [b z] at q
   rw [(wipe_V vs σ i).2.1 z]
   exact E.at_ i d q
 cur := fun i c a q => by rw [hc] at q; cases q
def compS (a : Hh → Nat → Option (Option D)) (g : Tg) (t : F Bool) (f : F D) : Nat → Nat → En → Hh → Option (List D × Hh)
 | m, i, e, h => match a h i with
  | some none => some ([], h)
  | some (some d) => match m with
   | 0 => none
   | m + 1 => match bindT g d e with
    | some e1 => match t e1 h with
     | .ok b h1 => if b = true then (match f e1 h1 with
      | .ok y h2 => match compS a g t f m (i + 1) e h2 with
       | some (l, h3) => some (y :: l, h3)
       | none => none
      | _ => none) else compS a g t f m (i + 1) e h1
     | _ => none
    | none => none
  | none => none
def dComp (fs : F Src) (g : Tg) (t : F Bool) (f : F D) (vs : List Nat) : F D := fun e h => (fs e h).bind fun s h1 => if fits s.n = true then (match compS s.at_ g t f s.n 0 (wipeE e vs) h1 with
 | some (l, h2) => .ok (.lst l) h2
 | none => .fail) else .fail
def bYes : F Bool := fun _ h => .ok true h
theorem ts_nil {X : Cx} {G : Cf} {W : WX} : PTs X [] (tT G W bYes) := ⟨fun pins s σ H Q I ⟨S, h, e, R, E, P⟩ => pts_nil.run pins s σ H Q I (P.here R rfl)⟩
section
variable {X : Cx} {G : Cf} {W : WX} {elt tg iter : Expr} {ifs : List Expr} {scope : Scope} {own : List (Str × Nat)} {pos : Pos} {fs : F Src} {g : Tg} {t : F Bool} {f : F D}
theorem tE_lc (hcu : G.cur = none) (vs : List Nat) (hsl : ∀ i ∈ slotsT g, i ∈ vs) {σ : L2.St} {H : Hp} {Q : VK} (h0 : tE G W (dComp fs g t f vs) σ H Q) : tLc (tI G W fs) (gT G g) (tT G W0 t) (tE G W0 f) vs σ H Q := by
 obtain ⟨S, h, e, R, E, P⟩ := h0
 refine ⟨S, h, e, R, E, P.bind fun s h1 S1 H1 J _ N1 R1 w P1 => fun p hp => ?_⟩
 have E1 := E.mono N1 R.bad
 by_cases c : fits s.n = true
 rotate_left
 ·rw [if_neg c] at P1; exact P1.elim
 rw [if_pos c] at P1
 cases q : compS s.at_ g t f s.n 0 (wipeE e vs) h1 with
 | none => rw [q] at P1; exact P1.elim
 | some z =>
  obtain ⟨l, h2⟩ := z
  rw [q] at P1
  have hn : s.n ≤ sizeLine := fits_ok c
  refine ⟨fun i m H => ∃ S4 h4 acc vacc l', Nx G S1 H1 S4 H ∧ Rel G S4 h4 H ∧ S4.B p ∧ (∀ i, i < S4.n → S4.r i ≠ p) ∧ H p = some (.lst vacc) ∧ VDs G S4 H acc vacc ∧ acc.length ≤ i ∧ i + m = s.n ∧
   compS s.at_ g t f m i (wipeE e vs) h4 = some (l', h2) ∧ l = acc ++ l', ⟨s.n, ?_⟩, ?_⟩
  ·
   have k := keeps_new (o := .lst []) hp
   have N2 : Nx G S1 H1 (S1.ban p) (upd H1 p (.lst [])) := ⟨Nat.le_refl _, fun _ _ => rfl, fun i a b => absurd b (Nat.not_lt.mpr a), fun _ z => .inl z, fun b z => z.elim .inl fun y => .inr (by rw [y]; exact hp), fun b u _ e => k b u e,
    (Nx.same (G := G) (S := S1) k).there, (Nx.same (G := G) (S := S1) k).seqT, (Nx.same (G := G) (S := S1) k).seqF, (Nx.same (G := G) (S := S1) k).frz⟩
   have ne : ∀ i, i < S1.n → S1.r i ≠ p := fun i hi z => R1.nb hp (z ▸ R1.bad i hi)
   refine ⟨S1.ban p, h1, [], [], l, N2, ⟨R1.len, fun i hi => .inl (R1.bad i hi), R1.inj, fun b z => ?_, fun i o q => (R1.obj i o q).mono N2 R1.bad fun u q => k _ u q⟩, .inr rfl, ne, upd_same, .nil, Nat.le_refl _, Nat.zero_add _, q, rfl⟩
   rcases z with z | z
   ·exact N2.there b (R1.live b z)
   ·rw [z, upd_same]; simp
  ·rintro i m H4 ⟨S4, h4, acc, vacc, l', N4, R4, hb, ne, hpl, va, la, im, q4, el⟩
   obtain ⟨w1, w2⟩ := w S4 h4 H4 i N4 R4
   unfold compS at q4
   split at q4
   ·
    rename_i qa
    cases q4
    refine .inl ⟨w1 qa, ?_⟩
    rw [List.append_nil] at el
    subst el
    have hB : ∀ b, (S4.unban p).B b → S4.B b := fun b z => z.1
    refine P1 (S4.unban p) H4 (.ref p) ⟨N4.n, N4.r, N4.new, fun b z => ⟨N4.up b z, fun y => R1.live b z (by rw [y]; exact hp)⟩, fun b z => N4.dn b z.1, N4.keep, N4.there, N4.seqT, N4.seqF, N4.frz⟩
     ⟨R4.len, fun i hi => ⟨R4.bad i hi, ne i hi⟩, R4.inj, fun b z => R4.live b z.1, fun i o q => OD.lessB (S := S4) (S' := S4.unban p) rfl rfl hB (R4.obj i o q)⟩ (.lst hpl (fun z => z.2 rfl) (VDs.lessB (S := S4) (S' := S4.unban p) rfl rfl hB va))
   ·rename_i d qa
    obtain ⟨g1, g2⟩ := w2 d qa
    refine .inr ⟨g1, ?_⟩
    cases m with
    | zero => cases q4
    | succ m =>
     simp only at q4
     split at q4
     rotate_left
     ·cases q4
     rename_i e1 qb
     refine ⟨fun H' => ∃ S4 h4 acc vacc l', Nx G S1 H1 S4 H' ∧ Rel G S4 h4 H' ∧ S4.B p ∧ (∀ i, i < S4.n → S4.r i ≠ p) ∧ H' p = some (.lst vacc) ∧ VDs G S4 H' acc vacc ∧ acc.length ≤ i + 1 ∧ (i + 1) + m = s.n ∧
      compS s.at_ g t f m (i + 1) (wipeE e vs) h4 = some (l', h2) ∧ l = acc ++ l', fun H' z => ⟨m, Nat.lt_succ_self m, z⟩, fun x H5 y => ?_⟩
     obtain ⟨N5, R5, x5⟩ := g2 x H5 y
     have N05 := N4.trans N5
     have E5 : EnR G S4 H5 (wipeE e vs) (wipe σ vs) := (E1.mono N05 R1.bad).wipe hcu vs
     have stay : ∀ {S6 H6}, Nx G S4 H4 S6 H6 → S6.B p ∧ (∀ i, i < S6.n → S6.r i ≠ p) ∧ H6 p = some (.lst vacc) := fun {S6 H6} N => by
      refine ⟨N.up p hb, fun i hi z => ?_, N.keep p _ ne hpl⟩
      by_cases k : i < S4.n
      ·exact ne i k ((N.r i k).symm.trans z)
      ·have := N.new i (Nat.not_lt.mp k) hi
       rw [z, hpl] at this
       cases this
     refine ⟨S4, h4, wipeE e vs, d, e1, R5, E5, x5, qb, fun σ2 E6 A6 => ⟨?_, ?_⟩⟩
     ·exact (wipe_same ⟨A6.1, fun j hj => A6.2 j (fun z => hj (hsl j z))⟩).trans (wipe_wipe vs σ)
     refine ⟨S4, h4, e1, R5, E6, ?_⟩
     cases qt : t e1 h4 with
     | fail => rw [qt] at q4; cases q4
     | exc _ _ _ => rw [qt] at q4; cases q4
     | ok b h6 =>
      rw [qt] at q4
      simp only at q4
      intro S6 H6 b' N6 R6 eb
      subst eb
      have N46 := N5.trans N6
      cases b with
      | false =>
       obtain ⟨k1, k2, k3⟩ := stay N46
       exact ⟨S6, h6, acc, vacc, l', N4.trans N46, R6, k1, k2, k3, va.mono N46 R4.bad, by omega, by omega, q4, el⟩
      | true =>
       refine ⟨S6, h6, e1, R6, E6.mono N6 R5.bad, ?_⟩
       rw [if_pos rfl] at q4
       cases qf : f e1 h6 with
       | fail => rw [qf] at q4; cases q4
       | exc _ _ _ => rw [qf] at q4; cases q4
       | ok y7 h7 =>
        rw [qf] at q4
        simp only at q4
        intro S7 H7 v7 N7 R7 x7
        cases q8 : compS s.at_ g t f m (i + 1) (wipeE e vs) h7 with
        | none => rw [q8] at q4; cases q4
        | some z8 =>
         obtain ⟨l8, h8⟩ := z8
         rw [q8] at q4
         have N47 := N46.trans N7
         obtain ⟨k1, k2, k3⟩ := stay N47
         have va7 := va.mono N47 R4.bad
         have l1 := va7.length
         refine ⟨vacc, k3, by omega, S7, h7, acc ++ [y7], vacc ++ [v7], l8, (N4.trans N47).updB hp k3, R7.updB k1 k3 k2, k1, k2, upd_same, (va7.append (.cons x7 .nil)).updB k1 k3, by rw [List.length_append]; exact Nat.succ_le_succ la, by omega, ?_, ?_⟩
         ·cases q4; exact q8
         ·cases q4; rw [el, List.append_assoc]; rfl
   ·cases q4
theorem e_lc (hc : X.calm = true) (hN : X.N.Nodup) (hcu : G.cur = none) (hi : PI X tg iter (tI G W fs)) (ok : BlkOk X.N X.env.scope scope own) (hsl : ∀ i ∈ slotsT g, i ∈ own.map (·.2))
  (hg : ∀ (s : Shared) (H : Hp) (C : Addr) (cl : List (Str × Addr)) (fp : List Addr), PG (X.blk s H scope (compEnvC scope cl C X.env) fp) tg (gT G g)) (ht : ∀ (s : Shared) (H : Hp) (C : Addr) (cl : List (Str × Addr)) (fp : List Addr), PTs (X.blk s H scope (compEnvC scope cl C X.env) fp) ifs (tT G W0 t))
  (he : ∀ (s : Shared) (H : Hp) (C : Addr) (cl : List (Str × Addr)) (fp : List Addr), PE (X.blk s H scope (compEnvC scope cl C X.env) fp) elt (tE G W0 f)) (hs : noSetT iter = true) :
  PE X (.ListComp elt [⟨tg, iter, ifs, 0⟩] scope pos) (tE G W (dComp fs g t f (own.map (·.2)))) :=
 PE.imp (pe_lc hc hN hi ok hg ht he (folded_of hs)) fun _ _ _ h => tE_lc hcu _ hsl h
theorem s_setLc {i : Nat} {y : Str} {py spos : Pos} (hc : X.calm = true) (hN : X.N.Nodup) (hcu : G.cur = none) (hy : X.N[i]? = some y) (hyl : X.env.scope.names.lookup y = some .local) (hsw : swapsWith (.ListComp elt [⟨tg, iter, ifs, 0⟩] scope pos) (some (.Name y py)) spos.line X.env = pure true)
  (hi : PI X tg iter (tI G W fs)) (ok : BlkOk X.N X.env.scope scope own) (hsl : ∀ i ∈ slotsT g, i ∈ own.map (·.2))
  (hg : ∀ (s : Shared) (H : Hp) (C : Addr) (cl : List (Str × Addr)) (fp : List Addr), PG (X.blk s H scope (compEnvC scope cl C X.env) fp) tg (gT G g)) (ht : ∀ (s : Shared) (H : Hp) (C : Addr) (cl : List (Str × Addr)) (fp : List Addr), PTs (X.blk s H scope (compEnvC scope cl C X.env) fp) ifs (tT G W0 t))
  (he : ∀ (s : Shared) (H : Hp) (C : Addr) (cl : List (Str × Addr)) (fp : List Addr), PE (X.blk s H scope (compEnvC scope cl C X.env) fp) elt (tE G W0 f)) (hs : noSetT iter = true) :
  PS X (.Assign [.Name y py] (.ListComp elt [⟨tg, iter, ifs, 0⟩] scope pos) spos) (tS G W (sAsg (dComp fs g t f (own.map (·.2))) (.nm i))) :=
 PS.imp (ps_setLc hc hN hy hyl hsw hi ok hg ht he (folded_of hs)) fun Z σ H ⟨S, h, e, R, E, P⟩ => tE_lc hcu _ hsl ⟨S, h, e, R, E, P.st R E fun d h1 S1 H1 v _ N1 R1 v1 P1 => by
  unfold bindT at P1
  exact P1.next R1 ((E.mono N1 R.bad).set v1 fun c a z => by rw [hcu] at z; cases z)⟩
end
end Sb
namespace Sb
open L2 PySem PySem.Spec PyProof.Rows
def insAt (h : Hh) : D → Option (Nat × List (Str × D))
 | .ins c fs => some (c, fs)
 | .ref i => match h[i]? with
  | some (.ins c fs) => some (c, fs)
  | _ => none
 | _ => none
theorem insAt_at {G : Cg} {S : Rho} {h : Hh} {H : Hp} {d : D} {v : V} {c : Nat} {fs : List (Str × D)} (R : Rel G S h H) (x : VD G S H d v) (e : insAt h d = some (c, fs)) : ∃ a dx gs, v = .ref a ∧ H a = some (.ins (G.cad c) dx gs) ∧ VDf G S H fs gs := by
 cases x with
 | ins a b r => cases e; exact ⟨_, _, _, rfl, a, r⟩
 | @ref i hi =>
  have e2 : (match h[i]? with | some (.ins c fs) => some (c, fs) | _ => none) = some (c, fs) := e
  clear e
  split at e2
  ·rename_i c1 fs1 q
   cases e2
   cases R.obj i _ q with
   | ins q r => exact ⟨_, _, _, rfl, q, r⟩
  ·cases e2
 | _ => cases e
theorem VDf.get {G : Cg} {S : Rho} {H : Hp} (f : Str) : ∀ {fs : List (Str × D)} {gs : List (Str × V)}, VDf G S H fs gs → (fs.lookup f = none ∧ gs.lookup f = none) ∨ ∃ d v, fs.lookup f = some d ∧ gs.lookup f = some v ∧ VD G S H d v
 | _, _, .nil => .inl ⟨rfl, rfl⟩
 | _, _, @VDf.cons _ _ _ k d v l vs a t => by
  rw [List.lookup_cons, List.lookup_cons]
  cases (f == k) with
  | true => exact .inr ⟨d, v, rfl, rfl, a⟩
  | false => exact VDf.get f t
theorem VDf.length {G : Cg} {S : Rho} {H : Hp} : ∀ {fs : List (Str × D)} {gs : List (Str × V)}, VDf G S H fs gs → fs.length = gs.length
 | _, _, .nil => rfl
 | _, _, .cons _ t => congrArg Nat.succ t.length
def putFD (f : Str) (v : D) : List (Str × D) → List (Str × D)
 | [] => [(f, v)]
 | (g, w) :: r => if g = f then (g, v) :: r else (g, w) :: putFD f v r
theorem putF_cons (f : Str) (v : V) (g : Str) (w : V) (r : List (Str × V)) : putF f v ((g, w) :: r) = if g = f then (g, v) :: r else (g, w) :: putF f v r := rfl
theorem VDf.put {G : Cg} {S : Rho} {H : Hp} {f : Str} {d : D} {v : V} (x : VD G S H d v) : ∀ {fs : List (Str × D)} {gs : List (Str × V)}, VDf G S H fs gs → VDf G S H (putFD f d fs) (putF f v gs)
 | _, _, .nil => .cons x .nil
 | _, _, @VDf.cons _ _ _ k d' v' l vs a t => by
  rw [putF_cons]
  unfold putFD
  by_cases q : k = f
  ·rw [if_pos q, if_pos q]; exact .cons x t
  ·rw [if_neg q, if_neg q]; exact .cons a (VDf.put x t)
abbrev FT := Nat → Str → Bool
def FOk (G : Cg) (T : FT) : Prop := ∀ c f, T c f = true → Cls G.K (G.cad c) ∧ NoAttr G.K (G.cad c) f
def fldD (T : FT) (f : Str) (h : Hh) (x : D) : Option D := match insAt h x with
 | some (c, fs) => if T c f = true then fs.lookup f else none
 | none => none
def dFld (T : FT) (g : F D) (f : Str) : F D := dU g (fldD T f)
section
variable {X : Cx} {G : Cf} {W : WX} {e o value : Expr} {f : Str} {g v : F D} {pos pos' : Pos} {T : FT}
theorem e_fld (hK : G.K = X.K) (hT : FOk G T) (he : PE X e (tE G W g)) (hb : okBase e = true) : PE X (.Attribute e f pos) (tE G W (dFld T g f)) :=
 PE.imp (pe_fld he (base_of hb _ _ _)) fun σ H Q ⟨S, h, e, R, E, P⟩ => ⟨S, h, e, R, E, P.bind fun x h1 S1 H1 v _ N1 R1 v1 P1 => by
  cases q : fldD T f h1 x with
  | none => rw [q] at P1; exact P1.elim
  | some z =>
   rw [q] at P1
   unfold fldD at q
   split at q
   ·rename_i c fs qi
    split at q
    ·rename_i ct
     obtain ⟨a, dx, gs, rfl, ha, r⟩ := insAt_at R1 v1 qi
     obtain ⟨k1, k2⟩ := hT c f ct
     rw [hK] at k1 k2
     rcases r.get f with ⟨e1, _⟩ | ⟨d, w, e1, e2, x1⟩
     ·rw [e1] at q; cases q
     ·rw [e1] at q
      cases q
      exact ⟨a, _, dx, gs, w, rfl, ha, k1, k2, e2, P1.here R1 x1⟩
    ·cases q
   ·cases q⟩
def sFldD (T : FT) (g : F D) (f : Str) (v : F D) : FS := fun e h => (v e h).st e fun y h1 => (g e h1).st e fun x h2 => match x with
 | .ref i => match h2[i]? with
  | some (.ins c fs) => if T c f = true ∧ fs.length < 1000 then .nx e (h2.set i (.ins c (putFD f y fs))) else .fail
  | _ => .fail
 | _ => .fail
theorem swaps_fld {v o : Expr} {f : Str} {p : Pos} (l : Nat) (env : Env) : swapsWith v (some (.Attribute o f p)) l env = pure false := by
 cases v <;> rfl
theorem s_fld (hK : G.K = X.K) (hT : FOk G T) (ho : PE X o (tE G W g)) (hv : PE X value (tE G W v)) : PS X (.Assign [.Attribute o f pos'] value pos) (tS G W (sFldD T g f v)) :=
 PS.imp (ps_fld ho hv (swaps_fld _ _)) fun Z σ H ⟨S, h, e, R, E, P⟩ => ⟨S, h, e, R, E, P.st R E fun y h1 S1 H1 vy _ N1 R1 v1 P1 =>
  have E1 := E.mono N1 R.bad
  ⟨S1, h1, e, R1, E1, P1.st R1 E1 fun x h2 S2 H2 vx _ N2 R2 v2 P2 => by
   cases v2 with
   | @ref i hi =>
    have P3 : PstS G W S2 H2 (match h2[i]? with | some (.ins c fs) => if T c f = true ∧ fs.length < 1000 then .nx e (h2.set i (.ins c (putFD f y fs))) else .fail | _ => .fail) Z := P2
    clear P2
    split at P3
    ·rename_i c fs qi
     by_cases cc : T c f = true ∧ fs.length < 1000
     ·rw [if_pos cc] at P3
      cases R2.obj i _ qi with
      | @ins _ _ dx gs q r =>
       obtain ⟨k1, k2⟩ := hT c f cc.1
       rw [hK] at k1 k2
       have N3 : Nx G S2 H2 S2 (upd H2 (S2.r i) (.ins (G.cad c) dx (putF f vy gs))) := Nx.write R2 hi q (fun _ z => by cases z) (fun _ _ z => by cases z)
       have R3 := R2.write hi q (fun _ z => by cases z) (fun _ _ z => by cases z) (v := .ins (G.cad c) dx (putF f vy gs)) (.ins upd_same (((v1.mono N2 R1.bad).mono N3 R2.bad |> fun x => VDf.put (f := f) x (r.mono N3 R2.bad))))
       exact ⟨_, _, dx, gs, rfl, q, k1, k2, by rw [← r.length]; exact cc.2, P3 S2 _ σ N3 R3 ((E1.mono N2 R1.bad).mono N3 R2.bad)⟩
     ·rw [if_neg cc] at P3; exact P3.elim
    ·exact P3.elim
   | _ => exact P2.elim⟩⟩
end
def sSub (o i v : F D) : FS := fun e h => (v e h).st e fun y h1 => (o e h1).st e fun x h2 => (i e h2).st e fun k h3 => match x with
 | .ref j => match h3[j]? with
  | some (.lst l) => match k with
   | .int n => match ixN l.length n with
    | some m => .nx e (h3.set j (.lst (l.set m y)))
    | none => .fail
   | _ => .fail
  | some (.dct l) => match keyD k with
   | some q => if l.length < 16777216 then .nx e (h3.set j (.dct (putD l q y))) else .fail
   | none => .fail
  | _ => .fail
 | _ => .fail
def rSub (G : Cg) : TSet := fun o i v H Q => ∃ S h j k y, Rel G S h H ∧ VD G S H (.ref j) o ∧ VD G S H k i ∧ VD G S H y v ∧
 ((∃ l n m, h[j]? = some (.lst l) ∧ k = .int n ∧ ixN l.length n = some m ∧ ∀ H', Nx G S H S H' → Rel G S (h.set j (.lst (l.set m y))) H' → Q H') ∨
  ∃ l q, h[j]? = some (.dct l) ∧ keyD k = some q ∧ l.length < 16777216 ∧ ∀ H', Nx G S H S H' → Rel G S (h.set j (.dct (putD l q y))) H' → Q H')
theorem set_all {X : Cx} {G : Cg} (hu : X.A.units + 1 < cLine) : PSet X (rSub G) := by
 intro pins s σ H o i v ov iv u Q I ro ri rv hq
 obtain ⟨S, h, j, k, y, R, vo, vi, vv, hw⟩ := hq
 cases vo with
 | ref hi =>
  rcases hw with ⟨l, n, m, q1, rfl, q2, kk⟩ | ⟨l, q, q1, q2, q3, kk⟩
  ·cases R.obj j _ q1 with
   | @lst _ ws q r =>
    cases vi
    have N3 : Nx G S H S (upd H (S.r j) (.lst (ws.set m v))) := Nx.write R hi q (fun _ z => by cases z) (fun _ _ z => by cases z)
    have R3 := R.write hi q (fun _ z => by cases z) (fun _ _ z => by cases z) (.lst upd_same (VDs.set (vv.mono N3 R.bad) m (r.mono N3 R.bad)))
    rw [r.length] at q2
    exact set_list pins s σ H _ _ v ov iv u Q I ro ri rv ⟨_, _, n, m, rfl, rfl, q, q2, kk _ N3 R3⟩
  ·cases R.obj j _ q1 with
   | @dct _ ws e r =>
    have ek := keyD_at vi q2
    subst ek
    have N3 : Nx G S H S (upd H (S.r j) (.dK (putK ws q v))) := Nx.write R hi e (fun _ z => by cases z) (fun _ _ z => by cases z)
    have R3 := R.write hi e (fun _ z => by cases z) (fun _ _ z => by cases z) (.dct upd_same (VDk.put q (vv.mono N3 R.bad) (r.mono N3 R.bad)))
    obtain rfl : ov = Value.ref (S.r j) := ro
    have hl : ws.length < sizeLine := by rw [sizeLine_eq, ← r.length]; exact q3
    exact d_setItem hu I (DPut.k e hl) ri rv fun s' I' => ⟨_, I', kk _ N3 R3⟩
theorem sub_asg {o i : Expr} (h : noSlice i = true) (pos : Pos) (env : Env) : ∀ v, assign (.Subscript o i pos) env v = (do
  let ov ← holding [v] (eval o env)
  let iv ← holding [v, ov] (eval i env)
  standAt pos
  holding [v, ov, iv] (setItem ov iv v)
  release [v, ov, iv] []) := by
 intro v
 cases i <;> first | rfl | cases h
theorem s_sub {X : Cx} {G : Cf} {W : WX} {o i value : Expr} {fo fi fv : F D} {pos pos' : Pos} (hu : X.A.units + 1 < cLine) (ho : PE X o (tE G W fo)) (hi : PE X i (tE G W fi)) (hv : PE X value (tE G W fv)) (hc : noComp value = true) (hsl : noSlice i = true) :
  PS X (.Assign [.Subscript o i pos'] value pos) (tS G W (sSub fo fi fv)) :=
 PS.imp (ps_asg hv (pg_sub ho hi (set_all hu) (sub_asg hsl _ _)) (by unfold swapsWithSole; exact swaps_of hc _ _ _) (stores_of rfl _)) fun Z σ H ⟨S, h, e, R, E, P⟩ => ⟨S, h, e, R, E, P.st R E fun y h1 S1 H1 vy _ N1 R1 v1 P1 =>
  have E1 := E.mono N1 R.bad
  ⟨S1, h1, e, R1, E1, P1.st R1 E1 fun x h2 S2 H2 vx _ N2 R2 v2 P2 =>
   have E2 := E1.mono N2 R1.bad
   ⟨S2, h2, e, R2, E2, P2.st R2 E2 fun k h3 S3 H3 vk _ N3 R3 v3 P3 => by
    have E3 := E2.mono N3 R2.bad
    have y3 := (v1.mono N2 R1.bad).mono N3 R2.bad
    have x3 := v2.mono N3 R2.bad
    cases x with
    | ref j =>
     refine ⟨S3, h3, j, k, y, R3, x3, v3, y3, ?_⟩
     simp only at P3
     split at P3
     ·rename_i l q
      split at P3
      ·split at P3
       ·rename_i m qm
        exact .inl ⟨l, _, m, q, rfl, qm, fun H' N R' => P3 S3 H' σ N R' (E3.mono N R3.bad)⟩
       ·exact P3.elim
      ·exact P3.elim
     ·rename_i l q
      split at P3
      ·rename_i kq qk
       by_cases c : l.length < 16777216
       ·rw [if_pos c] at P3
        exact .inr ⟨l, kq, q, qk, c, fun H' N R' => P3 S3 H' σ N R' (E3.mono N R3.bad)⟩
       ·rw [if_neg c] at P3; exact P3.elim
      ·exact P3.elim
     ·exact P3.elim
    | _ => exact P3.elim⟩⟩⟩
abbrev FC := List D → Hh → R D
def spD (G : Cg) (f : FC) : Sp := fun vs H Q E => ∃ S h ds, Rel G S h H ∧ VDs G S H ds vs ∧ Pst G E S H (relV G) (f ds h) Q
def startE (n : Nat) (ds : List D) : En := ds.map some ++ List.replicate (n - ds.length) none
def bodyF (n np : Nat) (b : FS) : FC := fun ds h => if ds.length = np then match b (startE n ds) h with
 | .nx _ h' => .ok .non h'
 | .rt d h' => .ok d h'
 | .exc c fs _ h' => .exc c fs h'
 | _ => .fail else .fail
theorem start_at {G : Cf} {S : Rho} {H : Hp} {ds : List D} {vs : List V} {N : List Str} (r : VDs G S H ds vs) (hc : G.cur = none) : EnR G S H (startE N.length ds) (L2.start N vs) where
 len := by
  unfold startE L2.start
  simp only [List.length_append, List.length_map, List.length_replicate, r.length]
 at_ := fun i d q => by
  unfold startE at q
  by_cases hi : i < ds.length
  ·rw [List.getElem?_append_left (by rw [List.length_map]; exact hi), List.getElem?_map] at q
   obtain ⟨d', q1, q2⟩ := Option.map_eq_some_iff.mp q
   cases q2
   obtain ⟨v, q3, x⟩ := r.get q1
   refine ⟨v, ?_, x⟩
   unfold L2.start
   rw [List.getElem?_append_left (by rw [List.length_map, ← r.length]; exact hi), List.getElem?_map, q3]; rfl
  ·rw [List.getElem?_append_right (by rw [List.length_map]; omega)] at q
   have := List.mem_of_getElem? q
   rw [List.mem_replicate] at this
   cases this.2
 cur := fun i c a q => by rw [hc] at q; cases q
theorem fn_ok {P : Program} {w : World} {K : PySem.W.Frag} {mg : Str → Option Value} {base : Heap} {G : Cf} {x qual : Str} {params : Arguments} {body : List Stmt} {scope : Scope} {dvs : List V} {kws : List (Str × V)} {f : Addr} {fd : FuncData} {N ps : List Str} {k : Nat} {b : FS} (hcu : G.cur = none)
  (F0 : FunD K x qual params body scope dvs kws f fd) (S0 : FnScope N ps scope)
  (hb : ∀ (cdv : Value) (A : Around) (outer : List Env) (s : Shared) (H : Hp) (E : XK), Room k (A.deeper (envOfC qual scope s.heap.objs.size f cdv)) →
   PSs (cxOf (L2.CX P w) P w K mg base N qual scope f cdv A outer s H E) body (tS G (fun cls d _ H => E cls d H) b)) :
  FnOk P w K mg base (L2.CX P w) (k + 1) f fd ps (spD G (bodyF N.length ps.length b)) := by
 refine F0.ok S0 (fun vs H Q E h => ?_) (fun cdv A outer s H vs Q E hr h => ⟨_, hb cdv A outer s H E hr, ?_⟩)
 ·obtain ⟨S, h, ds, R, r, P⟩ := h
  unfold bodyF at P
  by_cases c : ds.length = ps.length
  ·rw [← r.length]; exact c
  ·rw [if_neg c] at P; exact P.elim
 ·obtain ⟨S, h, ds, R, r, P⟩ := h
  refine ⟨S, h, startE N.length ds, R, start_at r hcu, ?_⟩
  unfold bodyF at P
  by_cases c : ds.length = ps.length
  ·rw [if_pos c] at P
   cases q : b (startE N.length ds) h with
   | nx e h1 => rw [q] at P; exact fun S' H' σ' n R' _ => P S' H' .non n R' .non
   | rt d h1 => rw [q] at P; exact fun S' H' v n R' x => P S' H' v n R' x
   | exc c fs e h1 => rw [q] at P; exact fun S' H' σ' d n R' _ x => P S' H' d n R' x
   | bk _ _ => rw [q] at P; exact P.elim
   | ct _ _ => rw [q] at P; exact P.elim
   | fail => rw [q] at P; exact P.elim
  ·rw [if_neg c] at P; exact P.elim
mutual
def frzD (g : Nat → Option D) : D → Option D
 | .tup l => (frzDs g l).map .tup
 | .lst l => (frzDs g l).map .lst
 | .dct l => (frzDk g l).map .dct
 | .ins c l => (frzDf g l).map (.ins c)
 | .ref i => g i
 | .non => some .non
 | .bl b => some (.bl b)
 | .int i => some (.int i)
 | .str x => some (.str x)
 | .scr l => some (.scr l)
def frzDs (g : Nat → Option D) : List D → Option (List D)
 | [] => some []
 | d :: l => match frzD g d, frzDs g l with
  | some x, some xs => some (x :: xs)
  | _, _ => none
def frzDk (g : Nat → Option D) : List (Key × D) → Option (List (Key × D))
 | [] => some []
 | (k, d) :: l => match frzD g d, frzDk g l with
  | some x, some xs => some ((k, x) :: xs)
  | _, _ => none
def frzDf (g : Nat → Option D) : List (Str × D) → Option (List (Str × D))
 | [] => some []
 | (k, d) :: l => match frzD g d, frzDf g l with
  | some x, some xs => some ((k, x) :: xs)
  | _, _ => none
end
def frzN : Nat → Hh → Nat → Option D
 | 0, _, _ => none
 | n + 1, h, i => match h[i]? with
  | some (.lst l) => (frzDs (frzN n h) l).map .lst
  | some (.dct l) => (frzDk (frzN n h) l).map .dct
  | some (.ins c l) => (frzDf (frzN n h) l).map (.ins c)
  | _ => none
def frz (h : Hh) (d : D) : Option D := frzD (frzN 8 h) d
section
variable {G : Cg} {S S' : Rho} {H : Hp} {h : Hh}
mutual
theorem frzD_at {g : Nat → Option D} (hB : ∀ b, S'.B b → S.B b) (hg : ∀ i d, g i = some d → i < S.n → VD G S' H d (.ref (S.r i))) : ∀ {d d' : D} {v : V}, VD G S H d v → frzD g d = some d' → VD G S' H d' v
 | _, _, _, .non, e => by cases e; exact .non
 | _, _, _, .bl b, e => by cases e; exact .bl b
 | _, _, _, .int b, e => by cases e; exact .int b
 | _, _, _, .str b, e => by cases e; exact .str b
 | _, d', _, .tup (l := l) a b, e => by
  have e2 : (frzDs g l).map D.tup = some d' := e
  obtain ⟨l', e3, rfl⟩ := Option.map_eq_some_iff.mp e2
  exact .tup a (frzDs_at hB hg b e3)
 | _, _, _, .scr a, e => by cases e; exact .scr a
 | _, d', _, .lst (l := l) a b c, e => by
  have e2 : (frzDs g l).map D.lst = some d' := e
  obtain ⟨l', e3, rfl⟩ := Option.map_eq_some_iff.mp e2
  exact .lst a (fun z => b (hB _ z)) (frzDs_at hB hg c e3)
 | _, d', _, .dct (l := l) a b c, e => by
  have e2 : (frzDk g l).map D.dct = some d' := e
  obtain ⟨l', e3, rfl⟩ := Option.map_eq_some_iff.mp e2
  exact .dct a (fun z => b (hB _ z)) (frzDk_at hB hg c e3)
 | _, d', _, .ins (c := c) (fs := l) a b r, e => by
  have e2 : (frzDf g l).map (D.ins c) = some d' := e
  obtain ⟨l', e3, rfl⟩ := Option.map_eq_some_iff.mp e2
  exact .ins a (fun z => b (hB _ z)) (frzDf_at hB hg r e3)
 | _, _, _, .ref hi, e => hg _ _ e hi
theorem frzDs_at {g : Nat → Option D} (hB : ∀ b, S'.B b → S.B b) (hg : ∀ i d, g i = some d → i < S.n → VD G S' H d (.ref (S.r i))) : ∀ {d d' : List D} {v : List V}, VDs G S H d v → frzDs g d = some d' → VDs G S' H d' v
 | _, _, _, .nil, e => by cases e; exact .nil
 | _, d', _, .cons (d := d) (l := l) a t, e => by
  have e2 : (match frzD g d, frzDs g l with | some x, some xs => some (x :: xs) | _, _ => none) = some d' := e
  split at e2
  ·rename_i x xs q1 q2
   cases e2
   exact .cons (frzD_at hB hg a q1) (frzDs_at hB hg t q2)
  ·cases e2
theorem frzDk_at {g : Nat → Option D} (hB : ∀ b, S'.B b → S.B b) (hg : ∀ i d, g i = some d → i < S.n → VD G S' H d (.ref (S.r i))) : ∀ {d d' : List (Key × D)} {v : List (Key × V)}, VDk G S H d v → frzDk g d = some d' → VDk G S' H d' v
 | _, _, _, .nil, e => by cases e; exact .nil
 | _, d', _, .cons (k := k) (d := d) (l := l) a t, e => by
  have e2 : (match frzD g d, frzDk g l with | some x, some xs => some ((k, x) :: xs) | _, _ => none) = some d' := e
  split at e2
  ·rename_i x xs q1 q2
   cases e2
   exact .cons (frzD_at hB hg a q1) (frzDk_at hB hg t q2)
  ·cases e2
theorem frzDf_at {g : Nat → Option D} (hB : ∀ b, S'.B b → S.B b) (hg : ∀ i d, g i = some d → i < S.n → VD G S' H d (.ref (S.r i))) : ∀ {d d' : List (Str × D)} {v : List (Str × V)}, VDf G S H d v → frzDf g d = some d' → VDf G S' H d' v
 | _, _, _, .nil, e => by cases e; exact .nil
 | _, d', _, .cons (k := k) (d := d) (l := l) a t, e => by
  have e2 : (match frzD g d, frzDf g l with | some x, some xs => some ((k, x) :: xs) | _, _ => none) = some d' := e
  split at e2
  ·rename_i x xs q1 q2
   cases e2
   exact .cons (frzD_at hB hg a q1) (frzDf_at hB hg t q2)
  ·cases e2
end
theorem frzN_at (R : Rel G S h H) (hB : ∀ b, S'.B b → S.B b) (hn : ∀ i, i < S.n → ¬ S'.B (S.r i)) : ∀ (n i : Nat) (d : D), frzN n h i = some d → i < S.n → VD G S' H d (.ref (S.r i))
 | 0, _, _, e, _ => by cases e
 | n + 1, i, d, e, hi => by
  unfold frzN at e
  split at e
  ·rename_i l q
   obtain ⟨l', e3, rfl⟩ := Option.map_eq_some_iff.mp e
   cases R.obj i _ q with
   | lst q r => exact .lst q (hn i hi) (frzDs_at hB (frzN_at R hB hn n) r e3)
  ·rename_i l q
   obtain ⟨l', e3, rfl⟩ := Option.map_eq_some_iff.mp e
   cases R.obj i _ q with
   | dct q r => exact .dct (.inl q) (hn i hi) (frzDk_at hB (frzN_at R hB hn n) r e3)
  ·rename_i c l q
   obtain ⟨l', e3, rfl⟩ := Option.map_eq_some_iff.mp e
   cases R.obj i _ q with
   | ins q r => exact .ins q (hn i hi) (frzDf_at hB (frzN_at R hB hn n) r e3)
  ·cases e
theorem frz_at (R : Rel G S h H) (hB : ∀ b, S'.B b → S.B b) (hn : ∀ i, i < S.n → ¬ S'.B (S.r i)) {d d' : D} {v : V} (x : VD G S H d v) (e : frz h d = some d') : VD G S' H d' v := frzD_at hB (frzN_at R hB hn 8) x e
end
def noRefs (l : List D) : Bool := match frzDs (fun _ => none) l with
 | some _ => true
 | none => false
mutual
theorem frzD_id {g : Nat → Option D} : ∀ {d d' : D}, frzD (fun _ => none) d = some d' → frzD g d = some d
 | .non, _, _ => rfl
 | .bl _, _, _ => rfl
 | .int _, _, _ => rfl
 | .str _, _, _ => rfl
 | .scr _, _, _ => rfl
 | .ref i, _, e => by cases e
 | .tup l, d', e => by
  have e2 : (frzDs (fun _ => none) l).map D.tup = some d' := e
  obtain ⟨l', e3, rfl⟩ := Option.map_eq_some_iff.mp e2
  show (frzDs g l).map D.tup = _
  rw [frzDs_id e3]; rfl
 | .lst l, d', e => by
  have e2 : (frzDs (fun _ => none) l).map D.lst = some d' := e
  obtain ⟨l', e3, rfl⟩ := Option.map_eq_some_iff.mp e2
  show (frzDs g l).map D.lst = _
  rw [frzDs_id e3]; rfl
 | .dct l, d', e => by
  have e2 : (frzDk (fun _ => none) l).map D.dct = some d' := e
  obtain ⟨l', e3, rfl⟩ := Option.map_eq_some_iff.mp e2
  show (frzDk g l).map D.dct = _
  rw [frzDk_id e3]; rfl
 | .ins c l, d', e => by
  have e2 : (frzDf (fun _ => none) l).map (D.ins c) = some d' := e
  obtain ⟨l', e3, rfl⟩ := Option.map_eq_some_iff.mp e2
  show (frzDf g l).map (D.ins c) = _
  rw [frzDf_id e3]; rfl
theorem frzDs_id {g : Nat → Option D} : ∀ {d d' : List D}, frzDs (fun _ => none) d = some d' → frzDs g d = some d
 | [], _, _ => rfl
 | d :: l, d', e => by
  have e2 : (match frzD (fun _ => none) d, frzDs (fun _ => none) l with | some x, some xs => some (x :: xs) | _, _ => none) = some d' := e
  split at e2
  ·rename_i x xs q1 q2
   show (match frzD g d, frzDs g l with | some x, some xs => some (x :: xs) | _, _ => none) = _
   rw [frzD_id q1, frzDs_id q2]
  ·cases e2
theorem frzDk_id {g : Nat → Option D} : ∀ {d d' : List (Key × D)}, frzDk (fun _ => none) d = some d' → frzDk g d = some d
 | [], _, _ => rfl
 | (k, d) :: l, d', e => by
  have e2 : (match frzD (fun _ => none) d, frzDk (fun _ => none) l with | some x, some xs => some ((k, x) :: xs) | _, _ => none) = some d' := e
  split at e2
  ·rename_i x xs q1 q2
   show (match frzD g d, frzDk g l with | some x, some xs => some ((k, x) :: xs) | _, _ => none) = _
   rw [frzD_id q1, frzDk_id q2]
  ·cases e2
theorem frzDf_id {g : Nat → Option D} : ∀ {d d' : List (Str × D)}, frzDf (fun _ => none) d = some d' → frzDf g d = some d
 | [], _, _ => rfl
 | (k, d) :: l, d', e => by
  have e2 : (match frzD (fun _ => none) d, frzDf (fun _ => none) l with | some x, some xs => some ((k, x) :: xs) | _, _ => none) = some d' := e
  split at e2
  ·rename_i x xs q1 q2
   show (match frzD g d, frzDf g l with | some x, some xs => some ((k, x) :: xs) | _, _ => none) = _
   rw [frzD_id q1, frzDf_id q2]
  ·cases e2
end
mutual
def immD : D → Bool
 | .non => true
 | .bl _ => true
 | .int _ => true
 | .str _ => true
 | .tup l => immDs l
 | _ => false
def immDs : List D → Bool
 | [] => true
 | d :: l => immD d && immDs l
end
mutual
theorem imm_at {G : Cg} {S S' : Rho} {H : Hp} : ∀ (d : D) {v : V}, VD G S H d v → immD d = true → VD G S' H d v
 | .non, _, x, _ => by cases x; exact .non
 | .bl b, _, x, _ => by cases x; exact .bl b
 | .int i, _, x, _ => by cases x; exact .int i
 | .str s, _, x, _ => by cases x; exact .str s
 | .tup l, _, x, h => by
  cases x with
  | tup a r => exact .tup a (imms_at l r h)
 | .scr _, _, _, h => by cases h
 | .lst _, _, _, h => by cases h
 | .dct _, _, _, h => by cases h
 | .ins _ _, _, _, h => by cases h
 | .ref _, _, _, h => by cases h
theorem imms_at {G : Cg} {S S' : Rho} {H : Hp} : ∀ (d : List D) {v : List V}, VDs G S H d v → immDs d = true → VDs G S' H d v
 | [], _, x, _ => by cases x; exact .nil
 | d :: l, _, x, h => by
  cases x with
  | cons a r =>
   have h2 : (immD d && immDs l) = true := h
   obtain ⟨h3, h4⟩ := Bool.and_eq_true_iff.mp h2
   exact .cons (imm_at d a h3) (imms_at l r h4)
end
mutual
def nfD : D → Bool
 | .lst _ => false
 | .dct _ => false
 | .ins _ _ => false
 | .scr _ => false
 | .tup l => nfDs l
 | _ => true
def nfDs : List D → Bool
 | [] => true
 | d :: l => nfD d && nfDs l
end
def nfO : O → Bool
 | .lst l => nfDs l
 | .dct l => l.all fun p => nfD p.2
 | .ins _ l => l.all fun p => nfD p.2
 | .lck _ => false
 | .dkn _ => false
section
variable {G : Cg} {S S' : Rho} {H : Hp} {h : Hh}
mutual
theorem nfD_at {g : Nat → Option D} (hg : ∀ i d, g i = some d → i < S.n → VD G S' H d (.ref (S.r i))) : ∀ {d d' : D} {v : V}, VD G S H d v → frzD g d = some d' → nfD d = true → VD G S' H d' v
 | _, _, _, .non, e, _ => by cases e; exact .non
 | _, _, _, .bl b, e, _ => by cases e; exact .bl b
 | _, _, _, .int b, e, _ => by cases e; exact .int b
 | _, _, _, .str b, e, _ => by cases e; exact .str b
 | _, d', _, .tup (l := l) a b, e, n => by
  have e2 : (frzDs g l).map D.tup = some d' := e
  obtain ⟨l', e3, rfl⟩ := Option.map_eq_some_iff.mp e2
  exact .tup a (nfDs_at hg b e3 n)
 | _, _, _, .scr a, _, n => by cases n
 | _, d', _, .lst a b c, _, n => by cases n
 | _, d', _, .dct a b c, _, n => by cases n
 | _, d', _, .ins a b r, _, n => by cases n
 | _, _, _, .ref hi, e, _ => hg _ _ e hi
theorem nfDs_at {g : Nat → Option D} (hg : ∀ i d, g i = some d → i < S.n → VD G S' H d (.ref (S.r i))) : ∀ {d d' : List D} {v : List V}, VDs G S H d v → frzDs g d = some d' → nfDs d = true → VDs G S' H d' v
 | _, _, _, .nil, e, _ => by cases e; exact .nil
 | _, d', _, .cons (d := d) (l := l) a t, e, n => by
  have e2 : (match frzD g d, frzDs g l with | some x, some xs => some (x :: xs) | _, _ => none) = some d' := e
  have n2 : (nfD d && nfDs l) = true := n
  obtain ⟨n3, n4⟩ := Bool.and_eq_true_iff.mp n2
  split at e2
  ·rename_i x xs q1 q2
   cases e2
   exact .cons (nfD_at hg a q1 n3) (nfDs_at hg t q2 n4)
  ·cases e2
end
theorem nfDk_at {g : Nat → Option D} (hg : ∀ i d, g i = some d → i < S.n → VD G S' H d (.ref (S.r i))) : ∀ {d d' : List (Key × D)} {v : List (Key × V)}, VDk G S H d v → frzDk g d = some d' → (d.all fun p => nfD p.2) = true → VDk G S' H d' v
 | _, _, _, .nil, e, _ => by cases e; exact .nil
 | _, d', _, .cons (k := k) (d := d) (l := l) a t, e, n => by
  have e2 : (match frzD g d, frzDk g l with | some x, some xs => some ((k, x) :: xs) | _, _ => none) = some d' := e
  rw [List.all_cons] at n
  obtain ⟨n3, n4⟩ := Bool.and_eq_true_iff.mp n
  split at e2
  ·rename_i x xs q1 q2
   cases e2
   exact .cons (nfD_at hg a q1 n3) (nfDk_at hg t q2 n4)
  ·cases e2
theorem nfDf_at {g : Nat → Option D} (hg : ∀ i d, g i = some d → i < S.n → VD G S' H d (.ref (S.r i))) : ∀ {d d' : List (Str × D)} {v : List (Str × V)}, VDf G S H d v → frzDf g d = some d' → (d.all fun p => nfD p.2) = true → VDf G S' H d' v
 | _, _, _, .nil, e, _ => by cases e; exact .nil
 | _, d', _, .cons (k := k) (d := d) (l := l) a t, e, n => by
  have e2 : (match frzD g d, frzDf g l with | some x, some xs => some ((k, x) :: xs) | _, _ => none) = some d' := e
  rw [List.all_cons] at n
  obtain ⟨n3, n4⟩ := Bool.and_eq_true_iff.mp n
  split at e2
  ·rename_i x xs q1 q2
   cases e2
   exact .cons (nfD_at hg a q1 n3) (nfDf_at hg t q2 n4)
  ·cases e2
theorem nfN_at (R : Rel G S h H) (hn : ∀ i, i < S.n → ¬ S'.B (S.r i)) (hf : ∀ o ∈ h, nfO o = true) : ∀ (n i : Nat) (d : D), frzN n h i = some d → i < S.n → VD G S' H d (.ref (S.r i))
 | 0, _, _, e, _ => by cases e
 | n + 1, i, d, e, hi => by
  unfold frzN at e
  split at e
  ·rename_i l q
   obtain ⟨l', e3, rfl⟩ := Option.map_eq_some_iff.mp e
   cases R.obj i _ q with
   | lst q1 r => exact .lst q1 (hn i hi) (nfDs_at (nfN_at R hn hf n) r e3 (hf _ (List.mem_of_getElem? q)))
  ·rename_i l q
   obtain ⟨l', e3, rfl⟩ := Option.map_eq_some_iff.mp e
   cases R.obj i _ q with
   | dct q1 r => exact .dct (.inl q1) (hn i hi) (nfDk_at (nfN_at R hn hf n) r e3 (hf _ (List.mem_of_getElem? q)))
  ·rename_i c l q
   obtain ⟨l', e3, rfl⟩ := Option.map_eq_some_iff.mp e
   cases R.obj i _ q with
   | ins q1 r => exact .ins q1 (hn i hi) (nfDf_at (nfN_at R hn hf n) r e3 (hf _ (List.mem_of_getElem? q)))
  ·cases e
end
def pureC (f : FC) : FC := fun ds h => if noRefs ds = true then match f ds [] with
 | .ok d h' => match frz h' d with
  | some d' => .ok d' h
  | none => .fail
 | .exc c [] _ => .exc c [] h
 | _ => .fail else match frzDs (frzN 8 h) ds with
  | some ds' => match f ds' [] with
   | .ok d h' => if immD d = true then .ok d h else if (h'.all nfO && nfD d) = true then (match frz h' d with
    | some d' => .ok d' h
    | none => .fail) else .fail
   | .exc c [] _ => .exc c [] h
   | _ => .fail
  | none => .fail
def Rho.own (S : Rho) : Rho := ⟨S.r, 0, S.B⟩
theorem own_rel {G : Cg} {S : Rho} {h : Hh} {H : Hp} (R : Rel G S h H) : Rel G S.own [] H := ⟨rfl, fun i hi => absurd hi (Nat.not_lt_zero _), fun i _ hi => absurd hi (Nat.not_lt_zero _), R.live, fun i o e => by simp at e⟩
theorem own_vals {G : Cg} {S : Rho} {H : Hp} {ds : List D} {vs : List V} (r : VDs G S H ds vs) (c : noRefs ds = true) : VDs G S.own H ds vs := by
 unfold noRefs at c
 split at c
 ·rename_i l e
  exact frzDs_at (S := S) (S' := S.own) (g := fun _ => none) (fun _ z => z) (fun _ _ z => by cases z) r (frzDs_id e)
 ·cases c
theorem own_back {G : Cg} {S S1 : Rho} {h h1 : Hh} {H H1 : Hp} {d d' : D} {v : V} (R : Rel G S h H) (N : Nx G S.own H S1 H1) (R1 : Rel G S1 h1 H1) (x : VD G S1 H1 d v) (e : frz h1 d = some d') : Nx G S H S H1 ∧ Rel G S h H1 ∧ VD G S H1 d' v := by
 have k : ∀ b u, H b = some u → H1 b = some u := fun b u q => N.keep b u (fun i hi => absurd hi (Nat.not_lt_zero _)) q
 refine ⟨.same k, R.same k, frz_at (S := S1) (S' := S) R1 (fun b z => N.up b z) (fun i hi z => ?_) x e⟩
 exact R.live _ z (N.new i (Nat.zero_le _) hi)
def Rho.bare (S : Rho) : Rho := ⟨S.r, 0, fun _ => False⟩
theorem bare_rel {G : Cg} {S : Rho} {H : Hp} : Rel G S.bare [] H := ⟨rfl, fun i hi => absurd hi (Nat.not_lt_zero _), fun i _ hi => absurd hi (Nat.not_lt_zero _), fun _ z => z.elim, fun i o e => by simp at e⟩
theorem bare_vals {G : Cg} {S : Rho} {h : Hh} {H : Hp} (R : Rel G S h H) {ds ds' : List D} {vs : List V} (r : VDs G S H ds vs) (e : frzDs (frzN 8 h) ds = some ds') : VDs G S.bare H ds' vs :=
 frzDs_at (S := S) (S' := S.bare) (fun _ z => z.elim) (frzN_at R (S' := S.bare) (fun _ z => z.elim) (fun _ _ z => z) 8) r e
theorem pure_imp {G : Cg} {f : FC} {vs : List V} {H : Hp} {Q : VK} {E : XK} (q : spD G (pureC f) vs H Q E) : spD G f vs H Q E := by
 obtain ⟨S, h, ds, R, r, P⟩ := q
 unfold pureC at P
 by_cases c : noRefs ds = true
 ·rw [if_pos c] at P
  refine ⟨S.own, [], ds, own_rel R, own_vals r c, ?_⟩
  cases e : f ds [] with
  | ok d h' =>
   rw [e] at P
   simp only at P
   cases e2 : frz h' d with
   | none => rw [e2] at P; exact P.elim
   | some d' =>
    rw [e2] at P
    intro S1 H1 v N R1 x
    obtain ⟨n, r1, x1⟩ := own_back R N R1 x e2
    exact P S H1 v n r1 x1
  | exc cc fs h' =>
   rw [e] at P
   cases fs with
   | nil =>
    intro S1 H1 d N R1 x
    have k : ∀ b u, H b = some u → H1 b = some u := fun b u q => N.keep b u (fun i hi => absurd hi (Nat.not_lt_zero _)) q
    rcases x with ⟨_, rfl⟩ | ⟨ne, _⟩
    ·exact P S H1 none (.same k) (R.same k) (.inl ⟨rfl, rfl⟩)
    ·exact absurd rfl ne
   | cons _ _ => exact P.elim
  | fail => rw [e] at P; exact P.elim
 ·rw [if_neg c] at P
  cases e0 : frzDs (frzN 8 h) ds with
  | none => rw [e0] at P; exact P.elim
  | some ds' =>
   rw [e0] at P
   simp only at P
   refine ⟨S.bare, [], ds', bare_rel, bare_vals R r e0, ?_⟩
   cases e : f ds' [] with
   | ok d h' =>
    rw [e] at P
    simp only at P
    by_cases im : immD d = true
    ·rw [if_pos im] at P
     intro S1 H1 v N R1 x
     have k : ∀ b u, H b = some u → H1 b = some u := fun b u q => N.keep b u (fun i hi => absurd hi (Nat.not_lt_zero _)) q
     exact P S H1 v (.same k) (R.same k) (imm_at d x im)
    ·rw [if_neg im] at P
     by_cases nf : (h'.all nfO && nfD d) = true
     ·rw [if_pos nf] at P
      obtain ⟨n1, n2⟩ := Bool.and_eq_true_iff.mp nf
      cases e2 : frz h' d with
      | none => rw [e2] at P; exact P.elim
      | some d' =>
       rw [e2] at P
       intro S1 H1 v N R1 x
       have k : ∀ b u, H b = some u → H1 b = some u := fun b u q => N.keep b u (fun i hi => absurd hi (Nat.not_lt_zero _)) q
       have hn : ∀ i, i < S1.n → ¬ S.B (S1.r i) := fun i hi z => R.live _ z (N.new i (Nat.zero_le _) hi)
       exact P S H1 v (.same k) (R.same k) (nfD_at (nfN_at R1 hn (fun o ho => List.all_eq_true.mp n1 o ho) 8) x e2 n2)
     ·rw [if_neg nf] at P; exact P.elim
   | exc cc fs h' =>
    rw [e] at P
    cases fs with
    | nil =>
     intro S1 H1 d N R1 x
     have k : ∀ b u, H b = some u → H1 b = some u := fun b u q => N.keep b u (fun i hi => absurd hi (Nat.not_lt_zero _)) q
     rcases x with ⟨_, rfl⟩ | ⟨ne, _⟩
     ·exact P S H1 none (.same k) (R.same k) (.inl ⟨rfl, rfl⟩)
     ·exact absurd rfl ne
    | cons _ _ => exact P.elim
   | fail => rw [e] at P; exact P.elim
end Sb
namespace Sb
open L2 PySem PySem.Spec PyProof.Rows
structure Cal (G : Cg) (P : Program) (w : World) (mg : Str → Option Value) (base : Heap) (k : Nat) (fa : Addr) (n : Nat) (dd : List D) (f : FC) : Prop where
 ok : ∃ fd ps ds dvs, FnOk P w G.K mg base (L2.CX P w) k fa fd ps (spD G f) ∧ Binds G.K fd ps ds ∧ Vals dvs ds ∧ (∀ S H, VDs G S H dd dvs) ∧ n + dd.length = ps.length
 kp : PySem.W.keepIn G.K (.ref fa) = true
theorem Cal.pure {G : Cg} {P : Program} {w : World} {mg : Str → Option Value} {base : Heap} {k : Nat} {fa : Addr} {n : Nat} {dd : List D} {f : FC} (c : Cal G P w mg base k fa n dd f) : Cal G P w mg base k fa n dd (pureC f) := by
 obtain ⟨⟨fd, ps, ds, dvs, F, b, v, dv, l⟩, kp⟩ := c
 exact ⟨⟨fd, ps, ds, dvs, F.imp fun _ _ _ _ q => pure_imp q, b, v, dv, l⟩, kp⟩
theorem Cal.mono {G : Cg} {P : Program} {w : World} {mg : Str → Option Value} {base : Heap} {j k : Nat} {fa : Addr} {n : Nat} {dd : List D} {f : FC} (c : Cal G P w mg base j fa n dd f) (h : j ≤ k) : Cal G P w mg base k fa n dd f := by
 obtain ⟨⟨fd, ps, ds, dvs, F, b, v, dv, l⟩, kp⟩ := c
 exact ⟨⟨fd, ps, ds, dvs, F.mono h, b, v, dv, l⟩, kp⟩
def dCl (r : F (List D)) (f : FC) (dd : List D) : F D := fun e h => (r e h).bind fun ds h1 => f (ds ++ dd) h1
theorem pass_at {X : Cx} {W : WX} (tk : Takes X W) (σ : L2.St) : PassesAt (L2.CX X.prog X.w) X σ (fun c d H => W c d σ H) := fun _ _ _ e s' I c => tk e s' (XE.of_call I (fun _ _ _ h => h) c)
section
variable {X : Cx} {G : Cf} {W : WX} {e o : Expr} {es : List Expr} {g : F D} {r : F (List D)} {f : FC} {dd : List D} {k n : Nat} {fa : Addr} {x m : Str} {p pos apos : Pos}
theorem run_cal (hK : G.K = X.K) (C : Cal G X.prog X.w X.mg X.base k fa n dd f) (hr : Room k X.A) (tk : Takes X W) {pins : List (Addr × Obj)} {s : Shared} {σ : L2.St} {S : Rho} {h : Hh} {H : Hp} {ds : List D} {vs : List V} {us : List Value} {Q : VK} (I : Inv X pins σ H s) (R : Rel G S h H) (rv : Vals vs us) (v : VDs G S H ds vs)
  (P : Pst G (fun c d H => W c d σ H) S H (relV G) (f (ds ++ dd) h) Q) : wpAny (model X.prog X.w) X.A (call (.ref fa) us) (EP X pins σ Q) X.xe s := by
 obtain ⟨⟨fd, ps, dss, dvs, F0, hb, hd, hv, _⟩, _⟩ := C
 rw [hK] at F0 hb
 exact run_fnSD (E := fun σ c d H => W c d σ H) F0 hr hb hd (pass_at tk σ) I rv ⟨S, h, ds ++ dd, R, v.append (hv S H), P⟩
theorem e_call (hK : G.K = X.K) (C : Cal G X.prog X.w X.mg X.base k fa n dd f) (hr : Room k X.A) (hg : Gl X x) (hm : X.mg x = some (.ref fa)) (tk : Takes X W) (ha : PA X (e :: es) (tA G W r)) (hdb : (x == ("__debug__" : Str)) = false) (hs : (e :: es).all noStar = true) :
  PE X (.Call (.Name x p) (e :: es) [] pos) (tE G W (dCl r f dd)) := by
 refine ⟨fun pins s σ H Q I q => ?_⟩
 have h2 : noStar e = true ∧ es.all noStar = true := Bool.and_eq_true_iff.mp hs
 have kp := C.kp
 rw [hK] at kp
 obtain ⟨S, h, en, R, E, P⟩ := q
 refine wpAny_Call_Name_kw (ld_glob I hg hm ?_ hdb)
 refine PySem.W.callWith_K (h₀ := X.base) I.ok.mod.kin kp (thn (ha.run pos pins s σ H (fun vs H1 => ∃ S1 h1 ds, Rel G S1 h1 H1 ∧ VDs G S1 H1 ds vs ∧ Pst G (fun c d H => W c d σ H) S1 H1 (relV G) (f (ds ++ dd) h1) Q) I
  ⟨S, h, en, R, E, P.bind fun ds h1 S1 H1 vs _ N1 R1 v1 P1 => ⟨S1, h1, ds, R1, v1, P1⟩⟩) fun us s1 ⟨vs, H1, I1, rv, S1, h1, ds, R1, v1, P1⟩ => ⟨I1.kIn, ?_⟩) (star_of h2.1 _ _) (stars_of h2.2)
 exact run_cal hK C hr tk I1 R1 rv v1 P1
theorem e_call0 (hK : G.K = X.K) (C : Cal G X.prog X.w X.mg X.base k fa n dd f) (hr : Room k X.A) (hg : Gl X x) (hm : X.mg x = some (.ref fa)) (tk : Takes X W) (hdb : (x == ("__debug__" : Str)) = false) :
  PE X (.Call (.Name x p) [] [] pos) (tE G W (dCl dNil f dd)) := by
 refine ⟨fun pins s σ H Q I q => ?_⟩
 have kp := C.kp
 rw [hK] at kp
 obtain ⟨S, h, en, R, E, P⟩ := q
 refine wpAny_Call_Name_kw (ld_glob I hg hm ?_ hdb)
 exact PySem.W.callWith_K0 I.kIn kp (run_cal hK C hr tk I R .nil .nil P)
def dMe (g : F D) (r : F (List D)) (M : Nat → Option (FC × List D)) (m : Str) : F D := fun e h => (g e h).bind fun x h1 => match insAt h1 x with
 | some (c, fs) => match M c with
  | some (f, dd) => if (fs.lookup m).isNone = true then (r e h1).bind fun ds h2 => f ((x :: ds) ++ dd) h2 else .fail
  | none => .fail
 | none => .fail
def MOk (X : Cx) (G : Cg) (k : Nat) (m : Str) (n : Nat) (M : Nat → Option (FC × List D)) : Prop := ∀ c f dd, M c = some (f, dd) → ∃ fa, Cls G.K (G.cad c) ∧ Meth G.K (G.cad c) m fa ∧ Cal G X.prog X.w X.mg X.base k fa n dd f
theorem meth_form (hb : okBase o = true) (hl : (apos.endLine == pos.line) = true) (hs : es.all noStar = true) (hn : es.length < 20) (env : Env) : eval (.Call (.Attribute o m apos) es [] pos) env = (do
  let ov ← eval o env
  standAt apos.atName
  let (f, first) ← holding [ov] (getMethod ov m (do return (← importBound o env).getD true))
  callWith pos f first (backTo pos (starEach es env)) (backToKw pos (keywordEach [] env))) := by
 have hf : methodCallForm (es.length + ([] : List Keyword).length) (backTo pos (starEach es env)) (backToKw pos (keywordEach [] env)) = true := by
  unfold methodCallForm
  have h1 := few_of (env := env) (cpos := pos) hs
  rw [h1]
  show (true && true && decide (es.length + 0 + 0 < 30)) = true
  rw [decide_eq_true (by omega)]
  rfl
 rw [arm_eval_Call, base_of hb]
 unfold methodCall calleeOf methodCallPos
 rw [hf, hl]
 simp only [if_true, Bool.not_true, Bool.false_or, pure_bind]
theorem e_me (hK : G.K = X.K) {M : Nat → Option (FC × List D)} (hM : MOk X G k m (n + 1) M) (hr : Room k X.A) (tk : Takes X W) (ho : PE X o (tE G W g)) (ha : PA X (e :: es) (tA G W r)) (hb : okBase o = true) (hl : (apos.endLine == pos.line) = true) (hs : (e :: es).all noStar = true) (hn : es.length < 18) :
  PE X (.Call (.Attribute o m apos) (e :: es) [] pos) (tE G W (dMe g r M m)) := by
 refine ⟨fun pins s σ H Q I q => ?_⟩
 have h2 : noStar e = true ∧ es.all noStar = true := Bool.and_eq_true_iff.mp hs
 obtain ⟨S, h, en, R, E, P⟩ := q
 refine PySem.W.methodCall_KW (thn (ho.run pins s σ H (fun x H1 => ∃ a c dx gs f dd fa, x = .ref a ∧ H1 a = some (.ins (G.cad c) dx gs) ∧ M c = some (f, dd) ∧ gs.lookup m = none ∧ Cls G.K (G.cad c) ∧ Meth G.K (G.cad c) m fa ∧ Cal G X.prog X.w X.mg X.base k fa (n + 1) dd f ∧
  tA G W r σ H1 (fun vs H2 => ∃ S2 h2 ds, Rel G S2 h2 H2 ∧ VDs G S2 H2 ds (.ref a :: vs) ∧ Pst G (fun c d H => W c d σ H) S2 H2 (relV G) (f (ds ++ dd) h2) Q)) I
  ⟨S, h, en, R, E, P.bind fun x h1 S1 H1 v _ N1 R1 v1 P1 => ?_⟩) fun u s1 ⟨x, H1, I1, rx, a, c, dx, gs, f, dd, fa, ex, ea, eM, l, k1, k2, k3, q⟩ => ?_) (meth_form hb hl hs (by simp only [List.length_cons]; omega) _)
 ·split at P1
  ·rename_i c fs qi
   split at P1
   ·rename_i f dd qm
    obtain ⟨a, dx, gs, rfl, ha', rf⟩ := insAt_at R1 v1 qi
    obtain ⟨fa, k1, k2, k3⟩ := hM c f dd qm
    by_cases ql : (fs.lookup m).isNone = true
    ·rw [if_pos ql] at P1
     have ql2 : fs.lookup m = none := Option.isNone_iff_eq_none.mp ql
     have gl : gs.lookup m = none := by
      rcases rf.get m with ⟨_, e2⟩ | ⟨d, w, e1, _, _⟩
      ·exact e2
      ·rw [ql2] at e1; cases e1
     exact ⟨a, c, dx, gs, f, dd, fa, rfl, ha', qm, gl, k1, k2, k3, S1, h1, en, R1, E.mono N1 R.bad, P1.bind fun ds h2 S2 H2 vs _ N2 R2 v2 P2 => ⟨S2, h2, x :: ds, R2, .cons (v1.mono N2 R1.bad) v2, P2⟩⟩
    ·rw [if_neg ql] at P1; exact P1.elim
   ·exact P1.elim
  ·exact P1.elim
 ·subst ex
  obtain rfl : u = Value.ref a := rx
  rw [hK] at k1 k2
  refine getmeth_ok I1 ea k1 k2 l ?_
  refine PySem.W.callWith_K (first := [.ref a]) (h₀ := X.base) I.ok.mod.kin k2.kp (thn (ha.run pos pins s1 σ H1 _ I1 q) fun us s2 ⟨vs, H2, I2, rv, S2, h2, ds, R2, v2, P2⟩ => ⟨I2.kIn, ?_⟩) (star_of h2.1 _ _) (stars_of h2.2)
  exact run_cal hK k3 hr tk I2 R2 (vs := .ref a :: vs) (.cons rfl rv) v2 P2
theorem e_me0 (hK : G.K = X.K) {M : Nat → Option (FC × List D)} (hM : MOk X G k m n M) (hr : Room k X.A) (tk : Takes X W) (ho : PE X o (tE G W g)) (hb : okBase o = true) (hl : (apos.endLine == pos.line) = true) :
  PE X (.Call (.Attribute o m apos) [] [] pos) (tE G W (dMe g dNil M m)) := by
 refine ⟨fun pins s σ H Q I q => ?_⟩
 obtain ⟨S, h, en, R, E, P⟩ := q
 refine PySem.W.methodCall_KW (thn (ho.run pins s σ H (fun x H1 => ∃ a c dx gs f dd fa, x = .ref a ∧ H1 a = some (.ins (G.cad c) dx gs) ∧ M c = some (f, dd) ∧ gs.lookup m = none ∧ Cls G.K (G.cad c) ∧ Meth G.K (G.cad c) m fa ∧ Cal G X.prog X.w X.mg X.base k fa n dd f ∧
  ∃ S2 h2 d, Rel G S2 h2 H1 ∧ VD G S2 H1 d (.ref a) ∧ Pst G (fun c d H => W c d σ H) S2 H1 (relV G) (f ([d] ++ dd) h2) Q) I
  ⟨S, h, en, R, E, P.bind fun x h1 S1 H1 v _ N1 R1 v1 P1 => ?_⟩) fun u s1 ⟨x, H1, I1, rx, a, c, dx, gs, f, dd, fa, ex, ea, eM, l, k1, k2, k3, S2, h2, d, R2, v2, P2⟩ => ?_) (meth_form hb hl rfl (by simp) _)
 ·split at P1
  ·rename_i c fs qi
   split at P1
   ·rename_i f dd qm
    obtain ⟨a, dx, gs, rfl, ha', rf⟩ := insAt_at R1 v1 qi
    obtain ⟨fa, k1, k2, k3⟩ := hM c f dd qm
    by_cases ql : (fs.lookup m).isNone = true
    ·rw [if_pos ql] at P1
     have ql2 : fs.lookup m = none := Option.isNone_iff_eq_none.mp ql
     have gl : gs.lookup m = none := by
      rcases rf.get m with ⟨_, e2⟩ | ⟨d, w, e1, _, _⟩
      ·exact e2
      ·rw [ql2] at e1; cases e1
     exact ⟨a, c, dx, gs, f, dd, fa, rfl, ha', qm, gl, k1, k2, k3, S1, h1, x, R1, v1, P1⟩
    ·rw [if_neg ql] at P1; exact P1.elim
   ·exact P1.elim
  ·exact P1.elim
 ·subst ex
  obtain rfl : u = Value.ref a := rx
  rw [hK] at k1 k2
  refine getmeth_ok I1 ea k1 k2 l ?_
  exact PySem.W.callWith_K0 (first := [.ref a]) I1.kIn k2.kp (run_cal hK k3 hr tk I1 R2 (vs := [.ref a]) (.cons rfl .nil) (.cons v2 .nil) P2)
def mkC (c : Nat) (f : FC) (dd : List D) : FC := fun ds h => match f ((.ref h.length :: ds) ++ dd) (h ++ [.ins c []]) with
 | .ok .non h' => .ok (.ref h.length) h'
 | .exc k fs h' => .exc k fs h'
 | _ => .fail
def mkP (c : Nat) (f : FC) (dd : List D) : FC := pureC (mkC c f dd)
theorem new_ins {G : Cg} {S : Rho} {h : Hh} {H : Hp} {x dx : Addr} {c : Nat} (R : Rel G S h H) (hx : H x = none) (hdx : H dx = none) (ne : dx ≠ x) :
  Nx G S H (S.push x) (upd (upd H dx (.own x)) x (.ins (G.cad c) dx [])) ∧ Rel G (S.push x) (h ++ [.ins c []]) (upd (upd H dx (.own x)) x (.ins (G.cad c) dx [])) ∧ VD G (S.push x) (upd (upd H dx (.own x)) x (.ins (G.cad c) dx [])) (.ref h.length) (.ref x) := by
 have k1 := keeps_new (o := .own x) hdx
 have hx2 : (upd H dx (.own x)) x = none := by rw [upd_ne (Ne.symm ne)]; exact hx
 have R1 : Rel G S h (upd H dx (.own x)) := R.same k1
 obtain ⟨n, r, v⟩ := new_ref R1 hx2 (u := .ins (G.cad c) dx []) (o := .ins c []) (.ins upd_same .nil)
 exact ⟨(Nx.same k1).trans n, r, v⟩
theorem run_mk (hK : G.K = X.K) {c : Nat} {fi : Addr} (M : Mk X.K (G.cad c) fi) (C : Cal G X.prog X.w X.mg X.base k fi n dd f) (hr : Room (k + 1) X.A) (tk : Takes X W) {pins : List (Addr × Obj)} {s : Shared} {σ : L2.St} {S : Rho} {h : Hh} {H : Hp} {ds : List D} {vs : List V} {us : List Value} {Q : VK} (I : Inv X pins σ H s) (R : Rel G S h H) (rv : Vals vs us) (v : VDs G S H ds vs)
  (P : Pst G (fun c d H => W c d σ H) S H (relV G) (mkC c f dd ds h) Q) : wpAny (model X.prog X.w) X.A (call (.ref (G.cad c)) us) (EP X pins σ Q) X.xe s := by
 obtain ⟨⟨fd, ps, dss, dvs, F0, hb, hd, hv, _⟩, _⟩ := C
 rw [hK] at F0 hb
 have fx := I.hok.fresh (Nat.le_succ s.heap.objs.size)
 have fdx := I.hok.fresh (Nat.le_refl s.heap.objs.size)
 obtain ⟨N1, R1, v1⟩ := new_ins (c := c) R fx fdx (Nat.ne_of_lt (Nat.lt_succ_self _))
 have I2 := Inv.made (C := G.cad c) I
 have va := VDs.append (VDs.cons v1 (v.mono N1 R.bad)) (hv _ _)
 have hsp : spD G f ((V.ref (s.heap.objs.size + 1) :: vs) ++ dvs) (upd (upd H s.heap.objs.size (.own (s.heap.objs.size + 1))) (s.heap.objs.size + 1) (.ins (G.cad c) s.heap.objs.size [])) (fun v H2 => v = .non ∧ Q (.ref (s.heap.objs.size + 1)) H2) (fun c d H => W c d σ H) := by
  refine ⟨_, _, _, R1, va, ?_⟩
  unfold mkC at P
  cases q : f ((.ref h.length :: ds) ++ dd) (h ++ [.ins c []]) with
  | ok d h' =>
   rw [q] at P
   cases d with
   | non =>
    intro S2 H2 w N2 R2 x2
    cases x2
    refine ⟨rfl, P S2 H2 _ (N1.trans N2) R2 (v1.mono N2 R1.bad)⟩
   | _ => exact P.elim
  | exc c2 fs h' => rw [q] at P; exact fun S2 H2 d N2 R2 x2 => P S2 H2 d (N1.trans N2) R2 x2
  | fail => rw [q] at P; exact P.elim
 have r2 : Vals ((V.ref (s.heap.objs.size + 1) :: vs) ++ dvs) ((Value.ref (s.heap.objs.size + 1) :: us) ++ dss) := Vals.append (Paired.cons (show RelV (V.ref (s.heap.objs.size + 1)) (Value.ref (s.heap.objs.size + 1)) from rfl) rv) hd
 have hl : ((Value.ref (s.heap.objs.size + 1) :: us) ++ dss).length = ps.length := by
  have z := r2.length
  rw [F0.len _ _ _ _ hsp] at z
  exact z.symm
 refine wpAny_call (make_map (f := fi) I.kIn M.makes M.init (beq_iff_eq.mp M.fn) (codeAny_mono (F0.run _ X.stack _ _ ⟨Value.ref (s.heap.objs.size + 1) :: us, []⟩ _ _ _ _ (hr.make (G.cad c) us []) (I2.env0.make (G.cad c) us []) (hb _ (Value.ref (s.heap.objs.size + 1) :: us) I2.kIn hl) r2 hsp) fun r s' hq' => ?_))
 cases r with
 | error z => exact pass_at tk σ pins _ _ z s' I2 hq'
 | ok fl =>
  cases fl with
  | ret u =>
   obtain ⟨w, H', I3, rw', ev, q3⟩ := I2.after hq'
   subst ev
   exact ⟨rw', ⟨V.ref (s.heap.objs.size + 1), H', I3, rfl, q3⟩⟩
  | next => exact False.elim hq'
  | brk => exact False.elim hq'
  | cont => exact False.elim hq'
theorem run_mkp (hK : G.K = X.K) {c : Nat} {fi : Addr} (M : Mk X.K (G.cad c) fi) (C : Cal G X.prog X.w X.mg X.base k fi n dd f) (hr : Room (k + 1) X.A) (tk : Takes X W) {pins : List (Addr × Obj)} {s : Shared} {σ : L2.St} {S : Rho} {h : Hh} {H : Hp} {ds : List D} {vs : List V} {us : List Value} {Q : VK} (I : Inv X pins σ H s) (R : Rel G S h H) (rv : Vals vs us) (v : VDs G S H ds vs)
  (P : Pst G (fun c d H => W c d σ H) S H (relV G) (mkP c f dd ds h) Q) : wpAny (model X.prog X.w) X.A (call (.ref (G.cad c)) us) (EP X pins σ Q) X.xe s := by
 have z : spD G (pureC (mkC c f dd)) vs H Q (fun c d H => W c d σ H) := ⟨S, h, ds, R, v, P⟩
 obtain ⟨S', h', ds', R', v', P'⟩ := pure_imp z
 exact run_mk hK M C hr tk I R' rv v' P'
theorem e_mk (hK : G.K = X.K) {c : Nat} {kp : PySem.W.keepIn X.K (.ref (G.cad c)) = true} {f : FC} (hrun : ∀ {pins : List (Addr × Obj)} {s : Shared} {σ : L2.St} {S : Rho} {h : Hh} {H : Hp} {ds : List D} {vs : List V} {us : List Value} {Q : VK}, Inv X pins σ H s → Rel G S h H → Vals vs us → VDs G S H ds vs →
   Pst G (fun c d H => W c d σ H) S H (relV G) (f ds h) Q → wpAny (model X.prog X.w) X.A (call (.ref (G.cad c)) us) (EP X pins σ Q) X.xe s) (hg : Gl X x) (hm : X.mg x = some (.ref (G.cad c))) (ha : PA X (e :: es) (tA G W r)) (hdb : (x == ("__debug__" : Str)) = false) (hs : (e :: es).all noStar = true) :
  PE X (.Call (.Name x p) (e :: es) [] pos) (tE G W (dCl r f [])) := by
 refine ⟨fun pins s σ H Q I q => ?_⟩
 have h2 : noStar e = true ∧ es.all noStar = true := Bool.and_eq_true_iff.mp hs
 obtain ⟨S, h, en, R, E, P⟩ := q
 refine wpAny_Call_Name_kw (ld_glob I hg hm ?_ hdb)
 refine PySem.W.callWith_K (h₀ := X.base) I.ok.mod.kin kp (thn (ha.run pos pins s σ H (fun vs H1 => ∃ S1 h1 ds, Rel G S1 h1 H1 ∧ VDs G S1 H1 ds vs ∧ Pst G (fun c d H => W c d σ H) S1 H1 (relV G) (f ds h1) Q) I
  ⟨S, h, en, R, E, P.bind fun ds h1 S1 H1 vs _ N1 R1 v1 P1 => ⟨S1, h1, ds, R1, v1, by rw [List.append_nil] at P1; exact P1⟩⟩) fun us s1 ⟨vs, H1, I1, rv, S1, h1, ds, R1, v1, P1⟩ => ⟨I1.kIn, ?_⟩) (star_of h2.1 _ _) (stars_of h2.2)
 exact hrun I1 R1 rv v1 P1
theorem e_mk0 (hK : G.K = X.K) {c : Nat} {kp : PySem.W.keepIn X.K (.ref (G.cad c)) = true} {f : FC} (hrun : ∀ {pins : List (Addr × Obj)} {s : Shared} {σ : L2.St} {S : Rho} {h : Hh} {H : Hp} {ds : List D} {vs : List V} {us : List Value} {Q : VK}, Inv X pins σ H s → Rel G S h H → Vals vs us → VDs G S H ds vs →
   Pst G (fun c d H => W c d σ H) S H (relV G) (f ds h) Q → wpAny (model X.prog X.w) X.A (call (.ref (G.cad c)) us) (EP X pins σ Q) X.xe s) (hg : Gl X x) (hm : X.mg x = some (.ref (G.cad c))) (hdb : (x == ("__debug__" : Str)) = false) :
  PE X (.Call (.Name x p) [] [] pos) (tE G W (dCl dNil f [])) := by
 refine ⟨fun pins s σ H Q I q => ?_⟩
 obtain ⟨S, h, en, R, E, P⟩ := q
 refine wpAny_Call_Name_kw (ld_glob I hg hm ?_ hdb)
 exact PySem.W.callWith_K0 I.kIn kp (hrun I R .nil .nil P)
end
def sRaise (c : Nat) : FS := fun e h => .exc c [] e h
structure ExC (G : Cg) (c : Nat) : Prop where
 xC : PySem.W.excIn G.K (G.cad c) He.veBase "ValueError.__new__" = true
 kC : PySem.W.keepIn G.K (.ref (G.cad c)) = true
 sC : PySem.W.subIn G.K (.ref (G.cad c)) (.type "BaseException") = some true
 tC : PySem.W.typeIn G.K (.ref (G.cad c)) = some (.type "type")
theorem s_raise {X : Cx} {G : Cf} {W : WX} {c : Nat} {x m : Str} {j : Nat} {p p2 pos pos' : Pos} (hK : G.K = X.K) (hc : X.calm = true) (tk : Takes X W) (C : ExC G c) (hg : Gl X x) (hm : X.mg x = some (.ref (G.cad c))) (hdb : (x == ("__debug__" : Str)) = false) :
  PS X (.Raise (some (.Call (.Name x p) [.Constant (.str m) j p2] [] pos)) none pos') (tS G W (sRaise c)) := by
 obtain ⟨c1, c2, c3, c4⟩ := C
 rw [hK] at c1 c2 c3 c4
 exact PS.imp (ps_raise hc tk (pmk_own PySem.F.excBase_ValueError c1 hm c2 (raises_own c3 c4) hg hdb)) fun Z σ H ⟨S, h, e, R, E, P⟩ => P S H σ none .refl R E (.inl ⟨rfl, rfl⟩)
def Cf.at_ (G : Cf) (q : Option (Nat × Nat × Addr)) : Cf := ⟨G.toCg, q⟩
structure ClauseOk (G : Cg) (cH : Value) (c : Nat) (b : Bool) : Prop where
 is : PySem.W.exmOne G.K (.ref (G.cad c)) cH = some b
def calmS (s : FS) : FS := fun e h => match s e h with
 | .exc _ _ _ _ => .fail
 | r => r
theorem calm_no (s : FS) (e : En) (h : Hh) : ∀ c fs e' h', calmS s e h ≠ .exc c fs e' h' := by
 intro c fs e' h'
 unfold calmS
 split <;> simp_all
end Sb
namespace Sb
open L2 PySem PySem.Spec PyProof.Rows
abbrev SuT := Addr → Value → Option Addr → TS
structure Clz where
 c : Value
 i : Option Nat
 ts : SuT
def Ends.off (Z : Ends) (i : Nat) : Ends := { nx := fun τ J => Z.nx (τ.set i none) J, rt := Z.rt, bk := fun τ J => Z.bk (τ.set i none) J, ct := fun τ J => Z.ct (τ.set i none) J }
def Clz.go (q : Clz) (Z : Ends) : WX := fun cls d τ J => ∀ a, J a = none → match q.i with
 | none => q.ts a cls d Z τ J
 | some i => q.ts a cls d (Ends.off Z i) (τ.set i (some (.ref a))) J
def wClz (K : PySem.W.Frag) (Wo : WX) (Z : Ends) : List Clz → WX
 | [] => Wo
 | q :: r => fun cls d τ J => ∃ b, PySem.W.exmOne K cls q.c = some b ∧ (b = true → q.go Z cls d τ J) ∧ (b = false → wClz K Wo Z r cls d τ J)
def wLen (X : Cx) (W : WX) : WX := fun cls d τ J => τ.length = X.N.length → W cls d τ J
def SuOk (X : Cx) (b₀ : Stmt) (rest : List Stmt) (ts : SuT) : Prop := ∀ (a : Addr) (ob : Obj) (cls : Value) (d : Option Addr) (pn : List (Addr × Obj)), Zc cls d ob → (∃ z, ob.data = .fields z) → PSs (X.suite a ((a, ob) :: pn)) (b₀ :: rest) (ts a cls d)
inductive ClzOk (X : Cx) : List ExceptHandler → List Clz → Prop
 | nil : ClzOk X [] []
 | only {x : Str} {c : Value} {ts : SuT} {b₀ : Stmt} {rest : List Stmt} {p p' : Pos} {hh : List ExceptHandler} {l : List Clz} : Names X x c → SuOk X b₀ rest ts → ClzOk X hh l → ClzOk X (.ExceptHandler (some (.Name x p)) none (b₀ :: rest) p' :: hh) (⟨c, none, ts⟩ :: l)
 | as {x n : Str} {c : Value} {i : Nat} {ts : SuT} {b₀ : Stmt} {rest : List Stmt} {p p' : Pos} {hh : List ExceptHandler} {l : List Clz} : Names X x c → X.N[i]? = some n → X.env.kindOf n = some .local → SuOk X b₀ rest ts → ClzOk X hh l →
   ClzOk X (.ExceptHandler (some (.Name x p)) (some n) (b₀ :: rest) p' :: hh) (⟨c, some i, ts⟩ :: l)
section
variable {X : Cx} {body : List Stmt} {h₀ : ExceptHandler} {hh : List ExceptHandler} {l : List Clz} {pos : Pos} {tb : WX → TS} {Wo : WX}
theorem ps_try_clz (e1 : X.stack = X.env :: X.outer) (e2 : X.env.frame = some X.env.locals) (nd : X.N.Nodup) (tk : Takes X Wo)
  (hb : ∀ (W : WX) (pn : List (Addr × Obj)) (xe : Value → Shared → Prop), Takes (X.tr pn xe) W → PassesOwn (model X.prog X.w) X.A X.env xe → PSs (X.tr pn xe) body (tb W))
  (hk : ClzOk X (h₀ :: hh) l) : PS X (.Try body (h₀ :: hh) [] [] pos) (fun Z τ J => tb (wLen X (wClz X.K Wo Z l)) Z τ J) := by
 refine ⟨fun pins s τ J Z I q => ?_⟩
 have okx := I.ok
 have frx : X.A.frames = some (X.env :: X.outer) := okx.frames.trans (congrArg some e1)
 refine wpAny_Try_except ?_
 refine wpAny_mono ((hb (wLen X (wClz X.K Wo Z l)) (X.pn ++ pins) (fun z t₁ => wpAny (model X.prog X.w) X.A (noteFrame z X.env) (fun _ t₂ => wpAny (model X.prog X.w) X.A (setFlight z none) (fun _ t₃ =>
  wpAny (model X.prog X.w) X.A (handleBy z X.env (h₀ :: hh)) (SP X pins Z) X.xe t₃) X.xe t₂) X.xe t₁) (fun u t xx => ?_) PassesOwn.looking).run [] s τ J Z (I.toTry _) q) (fun fl t hsp => ?_) (fun z t hz => hz)
 ·obtain ⟨a, B, tI, pins', τ', J', cls, d, rfl, I0, nb, upx, sky, na, os, ag, wq⟩ := xx
  have I1 : L2.Inv X pins τ' J' tI := I0.ofTry okx
  have sky2 : Sky B (X.env :: X.outer) a (Zc cls d) X.env.locals t.heap := e1 ▸ sky
  show wpAny (model X.prog X.w) X.A (noteFrame (.ref a) X.env) _ _ _
  refine Sky.land Zc.steady frx e2 sky2 fun g3 F3 U3 => ?_
  have I3 : L2.Inv X pins τ' J' { t with heap := g3 } := I1.landed nb F3.1 (upx.trans U3) os ag
  obtain ⟨o3, z3, at3, zc3, da3⟩ := F3.there
  have apart : ∀ {g : Heap} {ob : Obj} {z : Array Value}, g.FunFrames B (X.env :: X.outer) → g.get? a = some ob → ob.data = .fields z → a ∉ frs (X.env :: X.outer) := fun {g ob z} ff ea ed hm => by
   obtain ⟨_, ob', ea', nof⟩ := ff.mem hm
   rw [ea] at ea'
   cases ea'
   exact nof _ ed
  have nfr := apart F3.2.2.1 at3 da3
  have nL : a ≠ X.env.locals := fun z => nfr (List.mem_filterMap.mpr ⟨X.env, List.mem_cons_self, by rw [e2, z]⟩)
  have nF : a ∉ X.fs := fun hm => by
   obtain ⟨ev, hv, qv⟩ := List.mem_filterMap.mp hm
   exact nfr (List.mem_filterMap.mpr ⟨ev, List.mem_cons_of_mem _ hv, qv⟩)
  have S3 := I3.suite at3 da3 na nL nF
  have go : ∀ {hs' : List ExceptHandler} {l' : List Clz}, ClzOk X hs' l' → wClz X.K Wo Z l' cls d τ' J' →
    wpAny (model X.prog X.w) X.A (handleBy (.ref a) X.env hs') (SP X pins Z) X.xe { t with heap := g3 } := by
   intro hs' l' hq
   have LT : PySem.W.Looks (model X.prog X.w) g3 (typeOf (.ref a)) cls := fun A Q E s k y => wpAny_typeOf_ref (k _ _ at3) (by rw [zc3.1]; exact y)
   have test : ∀ {x : Str} {c : Value} {p : Pos} {Q : Value → Shared → Prop} {E : Value → Shared → Prop}, Names X x c → Q c { t with heap := g3 } → wpAny (model X.prog X.w) (X.A.mark (some (.ref a))) (eval (.Name x p) X.env) Q E { t with heap := g3 } := fun {x c p Q E} hc y => by
    obtain ⟨gl, dbg, hm | ⟨hm, hv, nn⟩⟩ := hc
    ·exact ld_glob (X := X.suite a ((a, o3) :: (X.pn ++ pins))) S3 gl hm y dbg
    ·exact ld_blt (X := X.suite a ((a, o3) :: (X.pn ++ pins))) S3 gl hm hv y nn dbg
   induction hq with
   | nil =>
    intro wl
    refine wpAny_handleBy_nil ?_
    obtain ⟨k1, k2, k3, ob, z, T, oT, zt, hat, hz, hda, h1, hr⟩ := id F3
    unfold PySem.passOn
    refine wpAny_bind (wpAny_field hat hda h1 ?_)
    rw [if_neg (show ¬ ((Value.ref T == Value.none) = true) from by simp)]
    have fin : wpAny (model X.prog X.w) X.A (setFlight (.ref a) X.env.frame) (fun _ t4 => wpAny (model X.prog X.w) X.A (throw (.ref a) : Sem Flow) (SP X pins Z) X.xe t4) X.xe { t with heap := g3 } := by
     rw [e2]
     refine HandSPX.setFlight_upZ F3 fun g4 F4 U4 => wpAny_throw (tk _ _ ?_)
     exact ⟨a, B, tI, pins, τ', J', cls, d, rfl, I1, nb, (upx.trans U3).trans U4, .inr (.inr (e1.symm ▸ F4)), na, os, ag, wl⟩
    first
     | exact wpAny_bind (wpAny_pure (wpAny_bind fin))
     | exact wpAny_bind fin
   | @only x c ts b₀ rest p p' hh2 l2 hc su r ih =>
    intro wl
    obtain ⟨b, hb1, yes, no⟩ := wl
    refine wpAny_handleBy_cons (codeAny_handlers_test ?_) (by intro y; cases y)
    have LM := PySem.W.exm_one (M := model X.prog X.w) (I3.kIn) LT hb1
    refine test hc (LM.here ?_)
    cases b with
    | true =>
     refine codeAny_handlers_suite ?_
     refine HandSPX.lands_againZ F3 fun g4 F4 U4 => ?_
     have I4 : L2.Inv X pins τ' J' { t with heap := g4 } := I1.landed nb F4.1 ((upx.trans U3).trans U4) os ag
     obtain ⟨o4, z4, at4, zc4, da4⟩ := F4.there
     have S4 := I4.suite at4 da4 na nL nF
     refine wpAny_mono ((su a o4 cls d (X.pn ++ pins) zc4 ⟨_, da4⟩).run [] _ _ J' _ S4 (yes rfl a na)) (fun fl t6 hsp => ?_) (fun _ _ z => False.elim z)
     cases fl with
     | next =>
      obtain ⟨τ6, J6, S6, q6⟩ := hsp
      exact ⟨_, _, S6.unsuite okx, q6⟩
     | brk =>
      obtain ⟨τ6, J6, S6, q6⟩ := hsp
      exact ⟨_, _, S6.unsuite okx, q6⟩
     | cont =>
      obtain ⟨τ6, J6, S6, q6⟩ := hsp
      exact ⟨_, _, S6.unsuite okx, q6⟩
     | ret u =>
      obtain ⟨v6, τ6, J6, S6, r6, q6⟩ := hsp
      exact ⟨_, _, _, S6.unsuite okx, r6, q6⟩
    | false =>
     show wpAny _ X.A (handleBy (.ref a) X.env hh2) _ _ _
     exact ih (no rfl)
   | @as x n c i ts b₀ rest p p' hh2 l2 hc hi hln su r ih =>
    intro wl
    obtain ⟨b, hb1, yes, no⟩ := wl
    have lcl : Loc X.env.scope n := .inl hln
    refine wpAny_handleBy_cons (codeAny_handlers_test ?_) (by intro y; cases y)
    have LM := PySem.W.exm_one (M := model X.prog X.w) (I3.kIn) LT hb1
    refine test hc (LM.here ?_)
    cases b with
    | true =>
     refine codeAny_handlers_suite_as ?_
     refine HandSPX.lands_againZ F3 fun g4 F4 U4 => ?_
     have I4 : L2.Inv X pins τ' J' { t with heap := g4 } := I1.landed nb F4.1 ((upx.trans U3).trans U4) os ag
     obtain ⟨o4, z4, at4, zc4, da4⟩ := F4.there
     have S4 := I4.suite at4 da4 na nL nF
     refine store_ok (X := X.suite a ((a, o4) :: (X.pn ++ pins))) (v := .ref a) S4 nd hi lcl rfl (fun t5 S5 => ?_) (.inr hln)
     refine wpAny_mono ((su a o4 cls d (X.pn ++ pins) zc4 ⟨_, da4⟩).run [] t5 _ J' _ S5 (yes rfl a na)) (fun fl t6 hsp => ?_) (fun _ _ z => False.elim z)
     have shut : ∀ {τ6 : L2.St} {J6 : Hp} {Q : Shared → Prop}, L2.Inv (X.suite a ((a, o4) :: (X.pn ++ pins))) [] τ6 J6 t6 → (∀ t7, L2.Inv X pins (τ6.set i none) J6 t7 → Q t7) →
       wpAny (model X.prog X.w) X.A (do bindName X.env n .none; unbindBehindTheSuite X.env n p') (fun _ t7 => Q t7) X.xe t6 := fun {τ6 J6 Q} S6 hQ => gone_ok (S6.unsuite okx) nd hi hln hQ
     cases fl with
     | next =>
      obtain ⟨τ6, J6, S6, q6⟩ := hsp
      exact shut S6 fun t7 I7 => ⟨_, _, I7, q6⟩
     | brk =>
      obtain ⟨τ6, J6, S6, q6⟩ := hsp
      exact shut S6 fun t7 I7 => ⟨_, _, I7, q6⟩
     | cont =>
      obtain ⟨τ6, J6, S6, q6⟩ := hsp
      exact shut S6 fun t7 I7 => ⟨_, _, I7, q6⟩
     | ret u =>
      obtain ⟨v6, τ6, J6, S6, r6, q6⟩ := hsp
      exact shut S6 fun t7 I7 => ⟨_, _, _, I7, r6, q6⟩
    | false =>
     show wpAny _ X.A (handleBy (.ref a) X.env hh2) _ _ _
     exact ih (no rfl)
  exact go hk (wq I1.len)
 ·cases fl with
  | next =>
   obtain ⟨τ', J', I', q'⟩ := hsp
   exact wpAny_execs_nil ⟨τ', J', I'.ofTry okx, q'⟩
  | brk =>
   obtain ⟨τ', J', I', q'⟩ := hsp
   exact ⟨τ', J', I'.ofTry okx, q'⟩
  | cont =>
   obtain ⟨τ', J', I', q'⟩ := hsp
   exact ⟨τ', J', I'.ofTry okx, q'⟩
  | ret u =>
   obtain ⟨v, τ', J', I', r', q'⟩ := hsp
   exact ⟨v, τ', J', I'.ofTry okx, r', q'⟩
end
structure DCl where
 i : Option Nat
 su : Nat → Option (Option FS)
def fitE (i : Option Nat) (e : En) : En := match i with
 | some i => e.set i none
 | none => e
def runCl : List DCl → Nat → List (Str × D) → FS
 | [], c, fs, e, h => .exc c fs e h
 | q :: l, c, fs, e, h => match q.su c with
  | some (some s) => if fs.isEmpty = true then (match calmS s (fitE q.i e) h with
   | .nx e1 h1 => .nx (fitE q.i e1) h1
   | .bk e1 h1 => .bk (fitE q.i e1) h1
   | .ct e1 h1 => .ct (fitE q.i e1) h1
   | r => r) else .fail
  | some none => runCl l c fs e h
  | none => .fail
def sTryN (b : FS) (l : List DCl) : FS := fun e h => match b e h with
 | .exc c fs e1 h1 => runCl l c fs e1 h1
 | r => r
def Cf.hand (G : Cf) (i : Option Nat) (c : Nat) (a : Addr) : Cf := ⟨G.toCg, i.map fun i => (i, c, a)⟩
theorem EnR.fit {G : Cf} {S : Rho} {H : Hp} {e : En} {σ : L2.St} {i : Nat} (E : EnR G S H e σ) (v : Option V) (hc : G.cur = none) : EnR G S H (e.set i none) (σ.set i v) where
 len := by rw [List.length_set, List.length_set]; exact E.len
 at_ := fun j d q => by
  by_cases hj : i = j
  ·subst hj
   by_cases hl : i < e.length
   ·rw [List.getElem?_set_self hl] at q; cases q
   ·rw [List.getElem?_eq_none (by simpa using hl)] at q; cases q
  ·rw [List.getElem?_set_ne hj] at q
   rw [List.getElem?_set_ne hj]
   exact E.at_ j d q
 cur := fun j c a q => by rw [hc] at q; cases q
theorem EnR.toHand {G : Cf} {S : Rho} {H : Hp} {e : En} {σ : L2.St} {i c : Nat} {a : Addr} (E : EnR G S H e σ) (hc : G.cur = none) (hi : i < e.length) : EnR (G.hand (some i) c a) S H (e.set i none) (σ.set i (some (.ref a))) :=
 ⟨(E.fit _ hc).len, (E.fit _ hc).at_, fun j c' a' q => by cases q; exact ⟨List.getElem?_set_self (by rw [← E.len]; exact hi), List.getElem?_set_self hi⟩⟩
theorem EnR.ofHand {G : Cf} {S : Rho} {H : Hp} {e : En} {σ : L2.St} {i : Option Nat} {c : Nat} {a : Addr} (E : EnR (G.hand i c a) S H e σ) (hc : G.cur = none) : EnR G S H e σ := ⟨E.len, E.at_, fun i c a z => by rw [hc] at z; cases z⟩
inductive DClOk (X : Cx) (G : Cf) : List ExceptHandler → List DCl → List Clz → Prop
 | nil : DClOk X G [] [] []
 | cons {x : Str} {cH : Value} {nm : Option Str} {q : DCl} {b₀ : Stmt} {rest : List Stmt} {p p' : Pos} {hh : List ExceptHandler} {l : List DCl} {l' : List Clz} (hn : Names X x cH) (hnm : match nm, q.i with
   | none, none => True
   | some n, some i => X.N[i]? = some n ∧ X.env.kindOf n = some .local ∧ i < X.N.length
   | _, _ => False)
   (hs : ∀ c s, q.su c = some (some s) → PySem.W.exmOne X.K (.ref (G.cad c)) cH = some true ∧ ∀ (a : Addr) (ob : Obj) (pn : List (Addr × Obj)), Zc (.ref (G.cad c)) none ob → (∃ z, ob.data = .fields z) → PSs (X.suite a ((a, ob) :: pn)) (b₀ :: rest) (tS (G.hand q.i c a) W0 s))
   (hz : ∀ c, q.su c = some none → PySem.W.exmOne X.K (.ref (G.cad c)) cH = some false) (r : DClOk X G hh l l') :
   DClOk X G (.ExceptHandler (some (.Name x p)) nm (b₀ :: rest) p' :: hh) (q :: l) (⟨cH, q.i, fun a cls d Z σ H => ∃ c s, cls = .ref (G.cad c) ∧ d = none ∧ q.su c = some (some s) ∧ tS (G.hand q.i c a) W0 s Z σ H⟩ :: l')
theorem DClOk.clz {X : Cx} {G : Cf} : ∀ {hh : List ExceptHandler} {l : List DCl} {l' : List Clz}, DClOk X G hh l l' → ClzOk X hh l'
 | _, _, _, .nil => .nil
 | _, _, _, @DClOk.cons _ _ x cH nm q b₀ rest p p' hh l l' hn hnm hs hz r => by
  have su : SuOk X b₀ rest (fun a cls d Z σ H => ∃ c s, cls = .ref (G.cad c) ∧ d = none ∧ q.su c = some (some s) ∧ tS (G.hand q.i c a) W0 s Z σ H) := fun a ob cls d pn zc hd => ⟨fun pins s σ H Z I ⟨c, s', ec, ed, es, y⟩ => by
   subst ec
   subst ed
   exact ((hs c s' es).2 a ob pn zc hd).run pins s σ H Z I y⟩
  cases nm with
  | none =>
   cases e : q.i with
   | none => rw [e] at su; exact .only hn su r.clz
   | some i => rw [e] at hnm; exact hnm.elim
  | some n =>
   cases e : q.i with
   | none => rw [e] at hnm; exact hnm.elim
   | some i => rw [e] at hnm su; exact .as hn hnm.1 hnm.2.1 su r.clz
theorem run_clz {X : Cx} {G : Cf} {W : WX} (hcu : G.cur = none) {Z : Ends} : ∀ {hh : List ExceptHandler} {l : List DCl} {l' : List Clz}, DClOk X G hh l l' → ∀ {S : Rho} {h : Hh} {H : Hp} {e : En} {σ : L2.St} {c : Nat} {fs : List (Str × D)} {d : Option Addr},
  X.N.length = e.length → Rel G S h H → EnR G S H e σ → ExD G S H fs d → PstS G W S H (runCl l c fs e h) Z → wClz X.K W Z l' (.ref (G.cad c)) d σ H
 | _, _, _, .nil, S, h, H, e, σ, c, fs, d, _, R, E, x, P => P S H σ d .refl R E x
 | _, _, _, @DClOk.cons _ _ x cH nm q b₀ rest p p' hh l l' hn hnm hs hz r, S, h, H, e, σ, c, fs, d, hN, R, E, xd, P => by
  unfold runCl at P
  cases es : q.su c with
  | none => rw [es] at P; exact P.elim
  | some o =>
   rw [es] at P
   cases o with
   | none => exact ⟨false, hz c es, fun z => (by cases z), fun _ => run_clz hcu r hN R E xd P⟩
   | some s =>
    refine ⟨true, (hs c s es).1, fun _ a na => ?_, fun z => (by cases z)⟩
    simp only at P
    by_cases fe : fs.isEmpty = true
    rotate_left
    ·rw [if_neg fe] at P; exact P.elim
    rw [if_pos fe] at P
    have dn : d = none := by
     rcases xd with ⟨_, z⟩ | ⟨ne, _⟩
     ·exact z
     ·exact absurd (List.isEmpty_iff.mp fe) ne
    have nx := calm_no s (fitE q.i e) h
    cases ei : q.i with
    | none =>
     rw [ei] at P nx
     refine ⟨c, s, rfl, dn, es, S, h, e, R, ?_, ?_⟩
     ·exact ⟨E.len, E.at_, fun j c' a' y => by cases y⟩
     ·have P2 : PstS G W S H (match calmS s e h with | .nx e1 h1 => .nx e1 h1 | .bk e1 h1 => .bk e1 h1 | .ct e1 h1 => .ct e1 h1 | r => r) Z := P
      unfold calmS at P2
      cases qs : s e h with
      | nx e5 h5 => rw [qs] at P2; exact fun S' H' σ' N R' E' => P2 S' H' σ' N R' (E'.ofHand hcu)
      | rt _ _ => rw [qs] at P2; exact P2
      | bk _ _ => rw [qs] at P2; exact fun S' H' σ' N R' E' => P2 S' H' σ' N R' (E'.ofHand hcu)
      | ct _ _ => rw [qs] at P2; exact fun S' H' σ' N R' E' => P2 S' H' σ' N R' (E'.ofHand hcu)
      | exc _ _ _ _ => rw [qs] at P2; exact P2.elim
      | fail => rw [qs] at P2; exact P2.elim
    | some i =>
     rw [ei] at P nx
     have hi : i < e.length := by
      cases nm with
      | none => rw [ei] at hnm; exact hnm.elim
      | some n => rw [ei] at hnm; rw [← hN]; exact hnm.2.2
     refine ⟨c, s, rfl, dn, es, S, h, e.set i none, R, ?_, ?_⟩
     ·exact E.toHand hcu hi
     ·have P2 : PstS G W S H (match calmS s (e.set i none) h with | .nx e1 h1 => .nx (e1.set i none) h1 | .bk e1 h1 => .bk (e1.set i none) h1 | .ct e1 h1 => .ct (e1.set i none) h1 | r => r) Z := P
      unfold calmS at P2
      cases qs : s (e.set i none) h with
      | nx e5 h5 => rw [qs] at P2; exact fun S' H' σ' N R' E' => P2 S' H' _ N R' ((E'.ofHand hcu).fit none hcu)
      | rt _ _ => rw [qs] at P2; exact P2
      | bk _ _ => rw [qs] at P2; exact fun S' H' σ' N R' E' => P2 S' H' _ N R' ((E'.ofHand hcu).fit none hcu)
      | ct _ _ => rw [qs] at P2; exact fun S' H' σ' N R' E' => P2 S' H' _ N R' ((E'.ofHand hcu).fit none hcu)
      | exc _ _ _ _ => rw [qs] at P2; exact P2.elim
      | fail => rw [qs] at P2; exact P2.elim
theorem s_tryN {X : Cx} {G : Cf} {W : WX} {body : List Stmt} {h₀ : ExceptHandler} {hh : List ExceptHandler} {l : List DCl} {l' : List Clz} {pos : Pos} {fb : FS} (hcu : G.cur = none) (e1 : X.stack = X.env :: X.outer) (e2 : X.env.frame = some X.env.locals) (nd : X.N.Nodup) (tk : Takes X W)
  (hk : DClOk X G (h₀ :: hh) l l') (hb : ∀ (W' : WX) (pn : List (Addr × Obj)) (xe : Value → Shared → Prop), Takes (X.tr pn xe) W' → PassesOwn (model X.prog X.w) X.A X.env xe → PSs (X.tr pn xe) body (tS G W' fb)) :
  PS X (.Try body (h₀ :: hh) [] [] pos) (tS G W (sTryN fb l)) := by
 refine ⟨fun pins s σ H Z I ⟨S, h, e, R, E, P⟩ => ?_⟩
 refine (ps_try_clz e1 e2 nd tk (tb := fun W' Z σ H => tS G W' fb Z σ H) hb hk.clz).run pins s σ H Z I ⟨S, h, e, R, E, ?_⟩
 unfold sTryN at P
 cases q : fb e h with
 | nx e1 h1 => rw [q] at P; exact P
 | rt d h1 => rw [q] at P; exact P
 | bk e1 h1 => rw [q] at P; exact P
 | ct e1 h1 => rw [q] at P; exact P
 | fail => rw [q] at P; exact P
 | exc c fs e1 h1 =>
  rw [q] at P
  exact fun S' H' σ' d N R' E' xd hl => run_clz hcu hk (hl.symm.trans E'.len.symm) R' E' xd (PstS.mono (r := runCl l c fs e1 h1) P N)
def opLset (h : Hh) (d : D) : Option D := match (asL h d).bind intsD with
 | some ns => if ns.length ≤ 1000 then some (.int (PyProof.Rows.firstMet (fun i => ns.getD i 0) ns.length).length) else none
 | none => none
theorem e_lset {X : Cx} {G : Cf} {W : WX} {a : Expr} {f : F D} {p p2 q pos : Pos} (hK : G.K = X.K) (hc : X.calm = true) (hg : Gl X "len") (hm : X.mg "len" = none) (hg2 : Gl X "set") (hm2 : X.mg "set" = none) (ha : PE X a (tE G W f)) (hs : noStar a = true) :
  PE X (.Call (.Name "len" p) [.Call (.Name "set" p2) [a] [] q] [] pos) (tE G W (dU f opLset)) := by
 have na : starEach [a] X.env = (false, eval a X.env) :: starEach [] X.env := star_of hs _ _
 refine ⟨fun pins s σ H Q I ⟨S, h, e, R, E, P⟩ => ?_⟩
 refine Call_ (ld_blt I hg hm boot_len ?_)
 refine PyProof.Rows.callWith_builtin1 (PyProof.Rows.args_cons ?_ rfl) rfl rfl
 refine Call_ (ld_blt I hg2 hm2 boot_set ?_)
 refine PyProof.Rows.callWith_type1 (PyProof.Rows.args_cons (thn (ha.run pins s σ H (fun x H1 => ∃ (l : Addr) (ns : List Int), x = .ref l ∧ SqL X.K H1 l (ns.map V.int) ∧ ns.length ≤ 1000 ∧ Q (.int (PyProof.Rows.firstMet (fun i => ns.getD i 0) ns.length).length) H1) I
  ⟨S, h, e, R, E, P.bind fun d h1 S1 H1 v _ N1 R1 v1 P1 => ?_⟩) fun v s1 ⟨x, H1, I1, r1, q1⟩ => PyProof.Rows.args_nil ?_) na) na rfl
 ·unfold opLset at P1
  split at P1
  ·rename_i ns en
   split at P1
   ·rename_i c
    obtain ⟨l, e1, e2⟩ := Option.bind_eq_some_iff.mp en
    obtain ⟨a0, vs, rfl, hq, r⟩ := asL_at R1 v1 e1
    have ev := intsD_at r e2
    subst ev
    rw [hK] at hq
    exact ⟨a0, ns, rfl, hq, c, P1.here R1 (.int _)⟩
   ·exact P1.elim
  ·exact P1.elim
 ·obtain ⟨l, ns, rfl, hq, hl, q1⟩ := q1
  cases r1
  obtain ⟨its, r, pl, hz⟩ := I1.list hq
  have hi : PyProof.Rows.IntsAre its.toArray.toList ns := by simpa using L2.ints_of_vals r
  have hsz : its.toArray.size = ns.length := by rw [List.size_toArray, ← r.length, List.length_map]
  refine PySem.call_set_list (I1.ok.hd hc) pl.isList hi (by rw [hsz]; unfold scanBound; omega) fun h' tk hS hk => ?_
  rw [hsz] at hS
  refine PyProof.Rows.args_nil ?_
  obtain ⟨o, es, ep, t, ho, hex, hd, _, _, _, hf, hn⟩ := hS
  have I2 : Inv X pins σ H1 { s1 with heap := h', toks := tk } := I1.kept fun b o e => hk b o (Heap.lt_size e) e
  have le := PyProof.Rows.firstMet_length_le (fun i => ns.getD i 0) ns.length
  refine call_len_set ho hex hd hf (by rw [hn] <;> omega) ⟨.int (PyProof.Rows.firstMet (fun i => ns.getD i 0) ns.length).length, H1, I2.tok _, ⟨_, by rw [hn]⟩, q1⟩
def dDfr : F D := fun _ h => .ok (.dct []) h
def dDnw : F D := fun _ h => .ok (.ref h.length) (h ++ [.dct []])
theorem e_dfr {X : Cx} {G : Cf} {W : WX} {pos : Pos} : PE X (.Dict [] [] pos) (tE G W dDfr) := PE.imp pe_dnewK fun σ H Q ⟨S, h, e, R, E, P⟩ p hp => by
 obtain ⟨n, r, x⟩ := new_dct (vs := []) R .nil hp
 exact P S _ _ n r x
theorem e_dnw {X : Cx} {G : Cf} {W : WX} {pos : Pos} : PE X (.Dict [] [] pos) (tE G W dDnw) := PE.imp pe_dnewK fun σ H Q ⟨S, h, e, R, E, P⟩ p hp => by
 obtain ⟨n, r, x⟩ := new_ref R hp (o := .dct []) (.dct upd_same .nil)
 exact P _ _ _ n r x
end Sb
namespace Sb
open L2 PySem PySem.Spec PyProof.Rows
def iscD (t : List (Nat × Bool)) (h : Hh) (d : D) : Option D := match insAt h d with
 | some q => (t.lookup q.1).map D.bl
 | none => none
structure InsX (K : PySem.W.Frag) (C : Addr) : Prop where
 cl : Cls K C
 ha : PySem.W.findIn K (.ref C) "__class__" = some (some (.builtin "object.__class__"))
 hn : PySem.W.specialIn K (.builtin "object.__class__") "__get__" = some (some (.builtin "getset_descriptor.__get__"))
 htk : PySem.W.takesIn K (.builtin "object.__class__") = some true
 hm : PySem.W.mroIn K C (.type "object") = some true
theorem e_isc {X : Cx} {G : Cf} {W : WX} {a b : Expr} {f : F D} {p pos : Pos} {v : V} {u : Value} {t : List (Nat × Bool)} (hK : G.K = X.K) (hg : Gl X "isinstance") (hm : X.mg "isinstance" = none)
  (ha : PE X a (tE G W f)) (hs : noStar a = true) (hb : PE X b (tC v)) (hs2 : noStar b = true) (cv : ClsV v u) (ht : ∀ c r, t.lookup c = some r → InsX X.K (G.cad c) ∧ PySem.W.kitOne X.K (.ref (G.cad c)) u = some r) :
  PE X (.Call (.Name "isinstance" p) [a, b] [] pos) (tE G W (dU f (iscD t))) :=
 PE.imp (pe_callB (id := "isinstance") call_isi hg hm (by decide +kernel) (pa_cons ha (pa_cons hb pa_nil (star_of hs2 _ _)) (star_of hs _ _)) (by decide) (by decide) (star_of hs _ _) (stars_of (by rw [List.all_cons, hs2]; rfl))) fun σ H Q hq => by
  obtain ⟨S, h, e, R, E, P⟩ := hq
  refine ⟨S, h, e, R, E, P.bind fun d h1 S1 H1 w _ N1 R1 v1 P1 => ?_⟩
  unfold iscD at P1
  cases q : insAt h1 d with
  | none => rw [q] at P1; exact P1.elim
  | some z =>
   obtain ⟨c, fs⟩ := z
   rw [q] at P1
   cases l : t.lookup c with
   | none => simp only [l] at P1; exact P1.elim
   | some r =>
    simp only [l] at P1
    obtain ⟨i1, k1⟩ := ht c r l
    obtain ⟨x, dx, gs, rfl, e1, e2⟩ := insAt_at R1 v1 q
    exact ⟨.ref x, v, .ref (G.cad c), u, r, rfl, cv, .base (.ins e1 i1.cl i1.ha i1.hn i1.htk i1.hm), k1, P1.here R1 (.bl _)⟩
def rCX (G : Cg) (op : Hh → List D → Option (D × Hh)) : List V → Hp → VK → Prop := fun vs H Q => ∃ S h ds z h', Rel G S h H ∧ VDs G S H ds vs ∧ op h ds = some (z, h') ∧ ∀ S' H' v, Nx G S H S' H' → Rel G S' h' H' → VD G S' H' z v → Q v H'
def dBn (r : F (List D)) (op : Hh → List D → Option (D × Hh)) : F D := fun e h => (r e h).bind fun l h1 => match op h1 l with
 | some (z, h2) => .ok z h2
 | none => .fail
theorem tE_bn {G : Cf} {W : WX} {r : F (List D)} {op : Hh → List D → Option (D × Hh)} {σ : L2.St} {H : Hp} {Q : VK} (h : tE G W (dBn r op) σ H Q) : tCB (rCX G op) (tA G W r) σ H Q := by
 obtain ⟨S, h, e, R, E, P⟩ := h
 refine ⟨S, h, e, R, E, P.bind fun l h1 S1 H1 vs _ N1 R1 v1 P1 => ?_⟩
 cases q : op h1 l with
 | none => rw [q] at P1; exact P1.elim
 | some z =>
  obtain ⟨z, h2⟩ := z
  rw [q] at P1
  exact ⟨S1, h1, l, z, h2, R1, v1, q, fun S' H' v n r x => P1 S' H' v n r x⟩
section
variable {X : Cx} {G : Cf} {W : WX} {e : Expr} {es : List Expr} {r : F (List D)} {op : Hh → List D → Option (D × Hh)} {x : Str} {p pos : Pos}
theorem e_callTyN {T : String} (hc : CallR X (.type T) (rCX G op)) (hg : Gl X x) (hm : X.mg x = none) (hv : bootBuiltins x = some (.type T)) (ha : PA X (e :: es) (tA G W r)) (hs : (e :: es).all noStar = true) (hn : x ≠ "__name__") (hdb : (x == ("__debug__" : Str)) = false) :
  PE X (.Call (.Name x p) (e :: es) [] pos) (tE G W (dBn r op)) :=
 have h2 : noStar e = true ∧ es.all noStar = true := Bool.and_eq_true_iff.mp hs
 PE.imp (pe_callTy hc hg hm hv ha hn hdb (star_of h2.1 _ _) (stars_of h2.2)) fun _ _ _ h => tE_bn h
theorem e_callBN {id : String} (hc : CallR X (.builtin id) (rCX G op)) (hg : Gl X x) (hm : X.mg x = none) (hv : bootBuiltins x = some (.builtin id)) (ha : PA X (e :: es) (tA G W r)) (hs : (e :: es).all noStar = true) (hn : x ≠ "__name__") (hdb : (x == ("__debug__" : Str)) = false) :
  PE X (.Call (.Name x p) (e :: es) [] pos) (tE G W (dBn r op)) :=
 have h2 : noStar e = true ∧ es.all noStar = true := Bool.and_eq_true_iff.mp hs
 PE.imp (pe_callB hc hg hm hv ha hn hdb (star_of h2.1 _ _) (stars_of h2.2)) fun _ _ _ h => tE_bn h
end
def bDict (h : Hh) : List D → Option D
 | [x] => (asK h x).map D.dct
 | _ => none
def nDict (h : Hh) : List D → Option (D × Hh)
 | [x] => (asK h x).map fun l => (.ref h.length, h ++ [.dct l])
 | _ => none
def nList (h : Hh) : List D → Option (D × Hh)
 | [x] => (asQ h x).map fun l => (.ref h.length, h ++ [.lst l])
 | _ => none
def nSorted (h : Hh) : List D → Option (D × Hh)
 | [x] => match asL h x with
  | some l => match intsD l with
   | some ns => some (.ref h.length, h ++ [.lst ((sortI ns).map .int)])
   | none => none
  | none => match asK h x with
   | some l => match keysI l with
    | some ns => if ns.length < 64 then some (.ref h.length, h ++ [.lst ((sortI ns).map .int)]) else none
    | none => none
   | none => none
 | _ => none
section
variable {X : Cx} {G : Cg}
theorem cr_dictD : CallR X (.type "dict") (rC G bDict) := by
 intro pins s σ H xs us Q I r hq
 obtain ⟨S, h, ds, z, R, vx, q, k⟩ := hq
 unfold bDict at q
 split at q
 ·cases vx with
  | cons v1 t1 =>
   cases t1
   obtain ⟨l, q1, rfl⟩ := Option.map_eq_some_iff.mp q
   obtain ⟨a, vs, rfl, ha, rr⟩ := asK_at R v1 q1
   refine call_dictD pins s σ H _ us Q I r ⟨a, vs, rfl, ha, fun p hp => ?_⟩
   obtain ⟨n1, r1, x1⟩ := new_dct R rr hp
   exact k _ _ n1 r1 x1
 ·cases q
theorem cr_dictN : CallR X (.type "dict") (rCX G nDict) := by
 intro pins s σ H xs us Q I r hq
 obtain ⟨S, h, ds, z, h', R, vx, q, k⟩ := hq
 unfold nDict at q
 split at q
 ·cases vx with
  | cons v1 t1 =>
   cases t1
   obtain ⟨l, q1, q2⟩ := Option.map_eq_some_iff.mp q
   cases q2
   obtain ⟨a, vs, rfl, ha, rr⟩ := asK_at R v1 q1
   refine call_dictD pins s σ H _ us Q I r ⟨a, vs, rfl, ha, fun p hp => ?_⟩
   obtain ⟨n1, r1, x1⟩ := new_ref R hp (o := .dct l) (.dct upd_same (rr.mono (.push hp) R.bad))
   exact k _ _ _ n1 r1 x1
 ·cases q
theorem cr_sortedN (hK : G.K = X.K) (hc : X.calm = true) : CallR X (.builtin "sorted") (rCX G nSorted) := by
 intro pins s σ H xs us Q I r hq
 obtain ⟨S, h, ds, z, h', R, vx, q, k⟩ := hq
 unfold nSorted at q
 split at q
 ·cases vx with
  | cons v1 t1 =>
   cases t1
   split at q
   ·rename_i l q1
    split at q
    ·rename_i ns q2
     cases q
     obtain ⟨a, vs, rfl, ha, rr⟩ := asL_at R v1 q1
     have e := intsD_at rr q2
     subst e
     rw [hK] at ha
     refine cr_sortedI pins s σ H _ us Q I r ⟨a, ns, rfl, ha, fun ns' p hperm hsort hp => ?_⟩
     have e : ns' = sortI ns := perm_sorted (hperm.trans (sortI_perm ns).symm) hsort (sortI_sorted ns)
     subst e
     obtain ⟨n1, r1, x1⟩ := new_ref R hp (o := .lst ((sortI ns).map .int)) (.lst upd_same (VDs.ints (sortI ns)))
     exact k _ _ _ n1 r1 x1
    ·cases q
   ·split at q
    ·rename_i l q1
     split at q
     ·rename_i ns q2
      split at q
      ·rename_i q3
       cases q
       obtain ⟨a, vs, rfl, ha, rr⟩ := asK_at R v1 q1
       refine call_sortedDI hc pins s σ H _ us Q I r ⟨a, vs, ns, rfl, ha, keysI_at rr q2, q3, fun ns' p hperm hsort hp => ?_⟩
       have e : ns' = sortI ns := perm_sorted (hperm.trans (sortI_perm ns).symm) hsort (sortI_sorted ns)
       subst e
       obtain ⟨n1, r1, x1⟩ := new_ref R hp (o := .lst ((sortI ns).map .int)) (.lst upd_same (VDs.ints (sortI ns)))
       exact k _ _ _ n1 r1 x1
      ·cases q
     ·cases q
    ·cases q
 ·cases q
theorem cr_listN (hK : G.K = X.K) : CallR X (.type "list") (rCX G nList) := by
 intro pins s σ H xs us Q I r hq
 obtain ⟨S, h, ds, z, h', R, vx, q, k⟩ := hq
 unfold nList at q
 split at q
 ·cases vx with
  | cons v1 t1 =>
   cases t1
   obtain ⟨l, q1, q2⟩ := Option.map_eq_some_iff.mp q
   cases q2
   obtain ⟨a, vs, rfl, ha, rr⟩ := asQ_at R v1 q1
   rw [hK] at ha
   refine call_list_of pins s σ H _ us Q I r ⟨a, vs, rfl, ha, fun p hp => ?_⟩
   obtain ⟨n1, r1, x1⟩ := new_ref R hp (o := .lst l) (.lst upd_same (rr.mono (.push hp) R.bad))
   exact k _ _ _ n1 r1 x1
 ·cases q
end
def flatD : D → Bool
 | .non => true
 | .bl _ => true
 | .int _ => true
 | .str _ => true
 | _ => false
def eqFD : D → D → Bool
 | .non, .non => true
 | .bl a, .bl b => a == b
 | .bl a, .int j => (if a then 1 else 0) == j
 | .int i, .bl b => i == (if b then 1 else 0)
 | .int i, .int j => i == j
 | .str x, .str y => x == y
 | _, _ => false
def idxD (y : D) : List D → Option Nat
 | [] => none
 | z :: l => if eqFD z y = true then some 0 else (idxD y l).map (· + 1)
def mIndex : MOp := fun h x ds => match ds with
 | [y] => match asL h x with
  | some l => if flatD y = true ∧ l.all flatD = true then (idxD y l).map fun j => (.int (j : Nat), h) else none
  | none => none
 | _ => none
def mClear : MOp := fun h x ds => match x, ds with
 | .ref i, [] => match h[i]? with
  | some (.lst _) => some (.non, h.set i (.lst []))
  | _ => none
 | _, _ => none
def mExtend : MOp := fun h x ds => match x, ds with
 | .ref i, [y] => match h[i]?, asM h y with
  | some (.lst l), some m => if l.length + m.length ≤ 16777216 then some (.non, h.set i (.lst (l ++ m))) else none
  | _, _ => none
 | _, _ => none
def mPop : MOp := fun h x ds => match x, ds with
 | .ref i, [] => match h[i]? with
  | some (.lst l) => (l[l.length - 1]?).map fun y => (y, h.set i (.lst l.dropLast))
  | _ => none
 | .ref i, [.int j] => match h[i]? with
  | some (.lst l) => if 0 ≤ j ∧ j < l.length ∧ l.length ≤ 16777216 then (l[j.toNat]?).map fun y => (y, h.set i (.lst (l.eraseIdx j.toNat))) else none
  | _ => none
 | _, _ => none
section
variable {X : Cx} {G : Cg}
theorem flat_at {S : Rho} {H : Hp} {d : D} {v : V} (x : VD G S H d v) (f : flatD d = true) : flatV v = true := by
 cases x <;> first | rfl | (cases f; done)
theorem eqF_at {S : Rho} {H : Hp} {d e : D} {v w : V} (x : VD G S H d v) (y : VD G S H e w) (f : flatD d = true) (g : flatD e = true) : eqV v w = eqFD d e := by
 cases x <;> first | (cases f; done) | skip
 all_goals (cases y <;> first | (cases g; done) | rfl)
theorem idx_at {S : Rho} {H : Hp} {y : D} {w : V} (hy : VD G S H y w) (fy : flatD y = true) : ∀ {l : List D} {vs : List V} {j : Nat}, VDs G S H l vs → l.all flatD = true → idxD y l = some j →
  ∃ z, vs[j]? = some z ∧ eqV z w = true ∧ ∀ (m : Nat) (z' : V), m < j → vs[m]? = some z' → eqV z' w = false
 | [], _, j, _, _, e => by cases e
 | d :: l, _, j, .cons (v := v) (vs := vs) x t, f, e => by
  rw [List.all_cons, Bool.and_eq_true] at f
  have ev := eqF_at x hy f.1 fy
  unfold idxD at e
  by_cases c : eqFD d y = true
  ·rw [if_pos c] at e
   cases e
   exact ⟨v, rfl, by rw [ev]; exact c, fun m _ h => absurd h (Nat.not_lt_zero _)⟩
  ·rw [if_neg c] at e
   obtain ⟨j', e1, rfl⟩ := Option.map_eq_some_iff.mp e
   obtain ⟨z, z1, z2, z3⟩ := idx_at hy fy t f.2 e1
   refine ⟨z, z1, z2, fun m z' h q => ?_⟩
   cases m with
   | zero =>
    have q2 : v = z' := by simpa using q
    subst q2
    rw [ev]
    exact Bool.eq_false_iff.mpr c
   | succ m => exact z3 m z' (by omega) (by simpa using q)
theorem VDs.flats {S : Rho} {H : Hp} : ∀ {l : List D} {vs : List V}, VDs G S H l vs → l.all flatD = true → vs.all flatV = true
 | _, _, .nil, _ => rfl
 | _, _, .cons x t, f => by
  rw [List.all_cons, Bool.and_eq_true] at f
  rw [List.all_cons, flat_at x f.1, VDs.flats t f.2]; rfl
theorem mt_indexF (hK : G.K = X.K) : MtR X "list.index" (rM G mIndex) := by
 intro pins s σ H x xs v us Q I rx rxs hq
 obtain ⟨S, h, d, ds, z, h', R, vx, vs, q, k⟩ := hq
 unfold mIndex at q
 split at q
 ·rename_i y
  split at q
  ·rename_i l ql
   split at q
   ·rename_i c
    obtain ⟨j, e, q2⟩ := Option.map_eq_some_iff.mp q
    cases q2
    obtain ⟨a, ws, rfl, ha, rl⟩ := asL_at R vx ql
    rw [hK] at ha
    cases vs with
    | cons vy t =>
     cases t
     obtain ⟨z, z1, z2, z3⟩ := idx_at vy c.1 rl c.2 e
     exact mt_index pins s σ H _ _ v us Q I rx rxs ⟨a, ws, _, j, z, rfl, rfl, ha, flat_at vy c.1, rl.flats c.2, z1, z2, z3, k H _ .refl R (.int _)⟩
   ·cases q
  ·cases q
 ·cases q
def mCountF : MOp := fun h x ds => match ds with
 | [y] => match asL h x with
  | some l => if flatD y = true ∧ l.all flatD = true then some (.int (l.countP fun z => eqFD z y : Nat), h) else none
  | none => none
 | _ => none
theorem count_eqU {S : Rho} {H : Hp} {y : D} {w : V} (hy : VD G S H y w) (fy : flatD y = true) : ∀ {l : List D} {vs : List V} {us : List Value}, VDs G S H l vs → Vals vs us → l.all flatD = true → us.countP (eqU w) = l.countP fun z => eqFD z y
 | [], _, _, .nil, .nil, _ => rfl
 | d :: l, _, _, .cons x t, .cons r r', f => by
  rw [List.all_cons, Bool.and_eq_true] at f
  have ih := count_eqU hy fy t r' f.2
  rw [List.countP_cons, List.countP_cons, ih, eqU_of r (flat_at x f.1), eqF_at x hy f.1 fy]
theorem mem_eqU {A : Around} {s : Shared} {y : V} {uy : Value} (ry : RelV y uy) (fy : flatV y = true) : ∀ {vs : List V} {us : List Value}, Vals vs us → vs.all flatV = true → ∀ u ∈ us, SeqAt.EqAt A s u uy (eqU y u)
 | _, _, .nil, _, u, h => by cases h
 | v :: vs, u0 :: us, .cons r t, f, u, h => by
  rw [List.all_cons, Bool.and_eq_true] at f
  rcases List.mem_cons.mp h with e | h
  ·rw [e, eqU_of r f.1]
   exact eqAt_V r ry f.1 fy
  ·exact mem_eqU ry fy t f.2 u h
theorem mt_countF (hK : G.K = X.K) : MtR X "list.count" (rM G mCountF) := by
 intro pins s σ H x xs v us Q I rx rxs hq
 obtain ⟨S, h, d, ds, z, h', R, vx, vs, q, k⟩ := hq
 unfold mCountF at q
 split at q
 ·rename_i y
  split at q
  ·rename_i l ql
   split at q
   ·rename_i c
    cases q
    obtain ⟨a, ws, rfl, ha, rl⟩ := asL_at R vx ql
    rw [hK] at ha
    cases vs with
    | cons vy t =>
     cases t
     cases rx
     obtain ⟨uy, rfl, ry⟩ := rxs.one
     obtain ⟨its, rv, ⟨⟨cls, dd, data, sl⟩, n, ho, hc, hdn, hd⟩, hlen⟩ := I.list ha
     simp only at hc hd
     subst hc hd
     refine call_meets PySem.F.slot_list_count ⟨_, ho, rfl⟩ PySem.F.entry_list_count (PySem.F.args_list_count_2 _ _)
      (SeqAt.list_countAt a its.toArray n dd sl uy (eqU _)) ⟨ho, fun y hy => mem_eqU ry (flat_at vy c.1) rv (rl.flats c.2) y (by simpa using hy), ?_⟩
     have ec : its.toArray.toList.countP (eqU _) = l.countP fun z => eqFD z y := count_eqU vy c.1 rl rv c.2
     refine ⟨.int (l.countP (fun z => eqFD z y) : Nat), H, I.tok _, ⟨s.toks, ?_⟩, k H _ .refl R (.int _)⟩
     show Value.int ((its.toArray.toList.countP (eqU _) : Nat) : Int) s.toks = Value.int ((l.countP (fun z => eqFD z y) : Nat) : Int) s.toks
     rw [ec]
   ·cases q
  ·cases q
 ·cases q
theorem mt_clearD : MtR X "list.clear" (rM G mClear) := by
 intro pins s σ H x xs v us Q I rx rxs hq
 obtain ⟨S, h, d, ds, z, h', R, vx, vs, q, k⟩ := hq
 unfold mClear at q
 split at q
 ·split at q
  ·rename_i l e
   cases q
   obtain ⟨ws, hi, rfl, hl, rl⟩ := lst_ref R vx e
   cases vs
   have N : Nx G S H S (upd H (S.r _) (.lst [])) := Nx.write R hi hl (fun _ z => by cases z) (fun _ _ z => by cases z)
   have R2 := R.write hi hl (fun _ z => by cases z) (fun _ _ z => by cases z) (.lst (l := []) upd_same .nil)
   exact mt_clear pins s σ H _ _ v us Q I rx rxs ⟨_, ws, rfl, rfl, hl, k _ _ N R2 .non⟩
  ·cases q
 ·cases q
theorem VDs.dropLast {S : Rho} {H : Hp} : ∀ {l : List D} {vs : List V}, VDs G S H l vs → VDs G S H l.dropLast vs.dropLast
 | _, _, .nil => .nil
 | _, _, .cons a .nil => .nil
 | _, _, .cons a (.cons b t) => .cons a (VDs.dropLast (.cons b t))
theorem VDs.erase {S : Rho} {H : Hp} : ∀ {l : List D} {vs : List V} (i : Nat), VDs G S H l vs → VDs G S H (l.eraseIdx i) (vs.eraseIdx i)
 | _, _, _, .nil => .nil
 | _, _, 0, .cons a t => t
 | _, _, i + 1, .cons a t => .cons a (VDs.erase i t)
theorem mt_extendD : MtR X "list.extend" (rM G mExtend) := by
 intro pins s σ H x xs v us Q I rx rxs hq
 obtain ⟨S, h, d, ds, z, h', R, vx, vs, q, k⟩ := hq
 unfold mExtend at q
 split at q
 ·split at q
  ·rename_i l m e em
   split at q
   ·rename_i c
    cases q
    obtain ⟨ws, hi, rfl, hl, rl⟩ := lst_ref R vx e
    cases vs with
    | @cons _ v1 _ _ vy t =>
     cases t
     obtain ⟨b, us', rfl, hb, rb⟩ := asM_at R vy em
     have N : Nx G S H S (upd H (S.r _) (.lst (ws ++ us'))) := Nx.write R hi hl (fun _ z => by cases z) (fun _ _ z => by cases z)
     have R2 := R.write hi hl (fun _ z => by cases z) (fun _ _ z => by cases z) (.lst upd_same ((rl.mono N R.bad).append (rb.mono N R.bad)))
     have hl2 : ws.length + us'.length ≤ sizeLine := by rw [sizeLine_eq, ← rl.length, ← rb.length]; exact c
     exact mt_extend pins s σ H _ _ v us Q I rx rxs ⟨_, _, ws, us', rfl, rfl, hl, hb, hl2, k _ _ N R2 .non⟩
   ·cases q
  ·cases q
 ·cases q
theorem mt_popD : MtR X "list.pop" (rM G mPop) := by
 intro pins s σ H x xs v us Q I rx rxs hq
 obtain ⟨S, h, d, ds, z, h', R, vx, vs, q, k⟩ := hq
 unfold mPop at q
 split at q
 ·split at q
  ·rename_i l e
   obtain ⟨y, e1, q2⟩ := Option.map_eq_some_iff.mp q
   cases q2
   obtain ⟨ws, hi, rfl, hl, rl⟩ := lst_ref R vx e
   cases vs
   obtain ⟨y', g1, g2⟩ := rl.get e1
   rw [rl.length] at g1
   have N : Nx G S H S (upd H (S.r _) (.lst ws.dropLast)) := Nx.write R hi hl (fun _ z => by cases z) (fun _ _ z => by cases z)
   have R2 := R.write hi hl (fun _ z => by cases z) (fun _ _ z => by cases z) (.lst upd_same (rl.mono N R.bad).dropLast)
   exact mt_pop pins s σ H _ _ v us Q I rx rxs ⟨_, ws, y', rfl, rfl, hl, g1, k _ _ N R2 (g2.mono N R.bad)⟩
  ·cases q
 ·split at q
  ·rename_i j _ l e
   split at q
   ·rename_i c
    obtain ⟨y, e1, q2⟩ := Option.map_eq_some_iff.mp q
    cases q2
    obtain ⟨ws, hi, rfl, hl, rl⟩ := lst_ref R vx e
    cases vs with
    | cons vy t =>
     cases t
     cases vy
     obtain ⟨y', g1, g2⟩ := rl.get e1
     have N : Nx G S H S (upd H (S.r _) (.lst (ws.eraseIdx j.toNat))) := Nx.write R hi hl (fun _ z => by cases z) (fun _ _ z => by cases z)
     have R2 := R.write hi hl (fun _ z => by cases z) (fun _ _ z => by cases z) (.lst upd_same ((rl.mono N R.bad).erase _))
     have c2 := c
     rw [rl.length] at c2
     refine mt_popAt pins s σ H _ _ v us Q I rx rxs ⟨_, ws, _, j.toNat, y', rfl, rfl, hl, by omega, by omega, ?_, g1, k _ _ N R2 (g2.mono N R.bad)⟩
     unfold seqIndex?
     have n0 : ¬ j < 0 := by omega
     simp only [n0, if_false, c2.1, c2.2.1, decide_true, Bool.and_self, if_true]
   ·cases q
  ·cases q
 ·cases q
end
end Sb
namespace Sb
open L2 PySem PySem.Spec PyProof.Rows
def getK (d : Option D) (z : D) : D := match d with
 | some x => x
 | none => z
def dGet (f g k : F D) : F D := fun e h => (f e h).bind fun x h1 => if (asK h1 x).isSome = true then (g e h1).bind fun y h2 => (k e h2).bind fun z h3 => match asK h3 x, keyD y with
 | some l, some q => .ok (getK (valD l q) z) h3
 | _, _ => .fail else .fail
def dSetd (f g k : F D) : F D := fun e h => (f e h).bind fun x h1 => if (asK h1 x).isSome = true then (g e h1).bind fun y h2 => (k e h2).bind fun z h3 => match x, keyD y with
 | .ref i, some q => (match h3[i]? with
  | some (.dct l) => if l.length < 16777216 then (match valD l q with
   | some v => .ok v h3
   | none => .ok z (h3.set i (.dct (putD l q z)))) else .fail
  | _ => .fail)
 | _, _ => .fail else .fail
def dPop (f g : F D) : F D := fun e h => (f e h).bind fun x h1 => if (asK h1 x).isSome = true then (g e h1).bind fun y h2 => match x, keyD y with
 | .ref i, some q => (match h2[i]? with
  | some (.dct l) => (match valD l q with
   | some v => .ok v (h2.set i (.dct (dropD l q)))
   | none => .fail)
  | _ => .fail)
 | _, _ => .fail else .fail
section
variable {X : Cx} {G : Cf} {W : WX} {o e e' : Expr} {f g k : F D} {apos cpos : Pos}
theorem m2_of {m : Str} (hb : okBase o = true) (hl : (apos.endLine == cpos.line) = true) (h1 : noStar e = true) (h2 : noStar e' = true) : M2 X o m apos e e' cpos :=
 ⟨base_of hb _ _ _, by rw [star_of h1, star_of h2]; rfl, hl, by rw [star_of h1, star_of h2]; rfl⟩
theorem m1_of {m : Str} (hb : okBase o = true) (hl : (apos.endLine == cpos.line) = true) (h1 : noStar e = true) : M1 X o m apos e cpos :=
 ⟨base_of hb _ _ _, by rw [star_of h1]; rfl, hl, by rw [star_of h1]; rfl⟩
theorem isD_of {S : Rho} {h : Hh} {H : Hp} {d : D} {v : V} (R : Rel G.toCg S h H) (x : VD G.toCg S H d v) (c : (asK h d).isSome = true) : ∃ a, v = .ref a ∧ IsD H a := by
 obtain ⟨l, e⟩ := Option.isSome_iff_exists.mp c
 obtain ⟨a, vs, rfl, ha, _⟩ := asK_at R x e
 exact ⟨a, rfl, .inl ⟨vs, ha⟩⟩
theorem e_dget (hu : X.A.units + 1 < cLine) (ho : PE X o (tE G W f)) (he : PE X e (tE G W g)) (hf : PE X e' (tE G W k)) (hb : okBase o = true) (hl : (apos.endLine == cpos.line) = true) (h1 : noStar e = true) (h2 : noStar e' = true) :
  PE X (.Call (.Attribute o "get" apos) [e, e'] [] cpos) (tE G W (dGet f g k)) :=
 PE.imp (pe_dget2 hu ho he hf (m2_of hb hl h1 h2)) fun σ H Q ⟨S, h, en, R, E, P⟩ => ⟨S, h, en, R, E, P.bind fun x h1 S1 H1 v _ N1 R1 v1 P1 => by
  by_cases c : (asK h1 x).isSome = true
  rotate_left
  ·rw [if_neg c] at P1; exact P1.elim
  rw [if_pos c] at P1
  obtain ⟨a, rfl, hd⟩ := isD_of R1 v1 c
  have E1 := E.mono N1 R.bad
  refine ⟨a, rfl, hd, S1, h1, en, R1, E1, P1.bind fun y h2 S2 H2 w _ N2 R2 v2 P2 => ?_⟩
  have E2 := E1.mono N2 R1.bad
  refine ⟨S2, h2, en, R2, E2, P2.bind fun z h3 S3 H3 u _ N3 R3 v3 P3 => ?_⟩
  have x3 := (v1.mono N2 R1.bad).mono N3 R2.bad
  have y3 := v2.mono N3 R2.bad
  cases q : asK h3 x with
  | none => simp only [q] at P3; exact P3.elim
  | some l =>
   cases qk : keyD y with
   | none => simp only [q, qk] at P3; exact P3.elim
   | some kk =>
    simp only [q, qk] at P3
    obtain ⟨a', vs, ea, ha, r⟩ := asK_at R3 x3 q
    cases ea
    have ek := keyD_at y3 qk
    subst ek
    refine ⟨valV vs kk, .inl ⟨vs, kk, ha, rfl, rfl⟩, ?_⟩
    rcases r.val kk with ⟨e1, e2⟩ | ⟨d1, w1, e1, e2, r1⟩
    ·rw [e1] at P3
     rw [e2]
     exact P3.here R3 v3
    ·rw [e1] at P3
     rw [e2]
     exact P3.here R3 r1⟩
theorem e_dsetd (ho : PE X o (tE G W f)) (he : PE X e (tE G W g)) (hf : PE X e' (tE G W k)) (hb : okBase o = true) (hl : (apos.endLine == cpos.line) = true) (h1 : noStar e = true) (h2 : noStar e' = true) :
  PE X (.Call (.Attribute o "setdefault" apos) [e, e'] [] cpos) (tE G W (dSetd f g k)) :=
 PE.imp (pe_dsetd ho he hf (m2_of hb hl h1 h2)) fun σ H Q ⟨S, h, en, R, E, P⟩ => ⟨S, h, en, R, E, P.bind fun x h1 S1 H1 v _ N1 R1 v1 P1 => by
  by_cases c : (asK h1 x).isSome = true
  rotate_left
  ·rw [if_neg c] at P1; exact P1.elim
  rw [if_pos c] at P1
  obtain ⟨a, rfl, hd⟩ := isD_of R1 v1 c
  have E1 := E.mono N1 R.bad
  refine ⟨a, rfl, hd, S1, h1, en, R1, E1, P1.bind fun y h2 S2 H2 w _ N2 R2 v2 P2 => ?_⟩
  have E2 := E1.mono N2 R1.bad
  refine ⟨S2, h2, en, R2, E2, P2.bind fun z h3 S3 H3 u _ N3 R3 v3 P3 => ?_⟩
  have x3 := (v1.mono N2 R1.bad).mono N3 R2.bad
  have y3 := v2.mono N3 R2.bad
  cases x3 with
  | @ref i hi =>
   cases qk : keyD y with
   | none => simp only [qk] at P3; exact P3.elim
   | some q =>
    have ek := keyD_at y3 qk
    subst ek
    simp only [qk] at P3
    split at P3
    rotate_left
    ·exact P3.elim
    rename_i l ql
    split at P3
    rotate_left
    ·exact P3.elim
    rename_i hlen
    cases R3.obj i _ ql with
    | dct ha r =>
    rename_i vs
    have hl2 : vs.length < sizeLine := by rw [sizeLine_eq, ← r.length]; exact hlen
    rcases r.val q with ⟨e1, e2⟩ | ⟨d1, w1, e1, e2, r1⟩
    ·rw [e1] at P3
     have N : Nx G.toCg S3 H3 S3 (upd H3 (S3.r i) (.dK (putK vs q u))) := Nx.write R3 hi ha (fun _ z => by cases z) (fun _ _ z => by cases z)
     have R4 := R3.write hi ha (fun _ z => by cases z) (fun _ _ z => by cases z) (o := .dct (putD l q z)) (.dct upd_same ((r.mono N R3.bad).put q (v3.mono N R3.bad)))
     exact ⟨vs, q, ha, rfl, hl2, fun v' e' => (by rw [e2] at e'; cases e'), fun _ => P3 _ _ _ N R4 (v3.mono N R3.bad)⟩
    ·rw [e1] at P3
     have hfin := P3.here R3 r1
     exact ⟨vs, q, ha, rfl, hl2, fun v' e' => (by rw [e2] at e'; cases e'; exact hfin), fun e' => (by rw [e2] at e'; cases e')⟩
  | _ => exact P3.elim⟩
theorem e_dpop (ho : PE X o (tE G W f)) (he : PE X e (tE G W g)) (hb : okBase o = true) (hl : (apos.endLine == cpos.line) = true) (h1 : noStar e = true) :
  PE X (.Call (.Attribute o "pop" apos) [e] [] cpos) (tE G W (dPop f g)) :=
 PE.imp (pe_dpop1 ho he (m1_of hb hl h1)) fun σ H Q ⟨S, h, en, R, E, P⟩ => ⟨S, h, en, R, E, P.bind fun x h1 S1 H1 v _ N1 R1 v1 P1 => by
  by_cases c : (asK h1 x).isSome = true
  rotate_left
  ·rw [if_neg c] at P1; exact P1.elim
  rw [if_pos c] at P1
  obtain ⟨a, rfl, hd⟩ := isD_of R1 v1 c
  have E1 := E.mono N1 R.bad
  refine ⟨a, rfl, hd, S1, h1, en, R1, E1, P1.bind fun y h2 S3 H3 w _ N3 R3 v3 P3 => ?_⟩
  have x3 := v1.mono N3 R1.bad
  cases x3 with
  | @ref i hi =>
   cases qk : keyD y with
   | none => simp only [qk] at P3; exact P3.elim
   | some q =>
    have ek := keyD_at v3 qk
    subst ek
    simp only [qk] at P3
    split at P3
    rotate_left
    ·exact P3.elim
    rename_i l ql
    cases R3.obj i _ ql with
    | dct ha r =>
    rename_i vs
    rcases r.val q with ⟨e1, e2⟩ | ⟨d1, w1, e1, e2, r1⟩
    ·rw [e1] at P3; exact P3.elim
    ·rw [e1] at P3
     have N : Nx G.toCg S3 H3 S3 (upd H3 (S3.r i) (.dK (dropK vs q))) := Nx.write R3 hi ha (fun _ z => by cases z) (fun _ _ z => by cases z)
     have R4 := R3.write hi ha (fun _ z => by cases z) (fun _ _ z => by cases z) (o := .dct (dropD l q)) (.dct upd_same ((r.mono N R3.bad).drop q))
     exact ⟨vs, q, w1, ha, rfl, e2, P3 _ _ _ N R4 (r1.mono N R3.bad)⟩
  | _ => exact P3.elim⟩
end
def enuAt (d : D) : Hh → Nat → Option (Option D) := fun h i => match asL h d with
 | some l => some (l[i]?.map fun x => .tup [.int (i : Nat), x])
 | none => none
def iEnu (f : F D) : F Src := fun e h => (f e h).bind fun d h1 => match asL h1 d with
 | some l => .ok ⟨l.length, enuAt d⟩ h1
 | none => .fail
def zipAt (d d' : D) : Hh → Nat → Option (Option D) := fun h i => match asL h d, asL h d' with
 | some l, some m => (match l[i]?, m[i]? with
  | some x, some y => some (some (.tup [x, y]))
  | _, _ => some none)
 | _, _ => none
def iZip (f g : F D) : F Src := fun e h => (f e h).bind fun d h1 => (g e h1).bind fun d' h2 => match asL h2 d, asL h2 d' with
 | some l, some m => .ok ⟨min l.length m.length, zipAt d d'⟩ h2
 | _, _ => .fail
theorem walks_enu {G : Cg} {S : Rho} {H : Hp} {d : D} {a : Addr} (bad : ∀ i, i < S.n → S.B (S.r i)) (x : VD G S H d (.ref a)) : Walks G (Ite G.K a) (enuAt d) S H := fun S' h H' i N R => by
 have x' := x.mono N bad
 unfold enuAt
 cases q : asL h d with
 | none => exact ⟨fun z => (by cases z), fun d e => (by cases e)⟩
 | some l =>
  obtain ⟨vs, hs, r⟩ := asL_ref_eq R x' q
  rcases r.get2 (i := i) with ⟨q1, q2⟩ | ⟨d1, v1, q1, q2, r1⟩
  ·simp only [q1, Option.map_none]
   exact ⟨fun _ => ⟨vs, hs, q2⟩, fun d e => by cases e⟩
  ·simp only [q1, Option.map_some]
   refine ⟨fun z => (by cases z), fun d e => ?_⟩
   cases e
   refine ⟨⟨vs, v1, hs, q2⟩, fun y H2 z => ?_⟩
   obtain ⟨T, x1, rfl, hT, rfl, z⟩ := z
   rw [sqL_inj_at q2 x1 z hs]
   exact new_tup R (.cons (.int _) (.cons r1 .nil)) hT
theorem walks_zip {G : Cg} {S : Rho} {H : Hp} {d d' : D} {a b : Addr} (bad : ∀ i, i < S.n → S.B (S.r i)) (x : VD G S H d (.ref a)) (y : VD G S H d' (.ref b)) : Walks G (Itz G.K a b) (zipAt d d') S H := fun S' h H' i N R => by
 have x' := x.mono N bad
 have y' := y.mono N bad
 unfold zipAt
 cases q : asL h d with
 | none => exact ⟨fun z => (by cases z), fun d e => (by cases e)⟩
 | some l =>
  cases q' : asL h d' with
  | none => exact ⟨fun z => (by cases z), fun d e => (by cases e)⟩
  | some m =>
   obtain ⟨vs, hs, r⟩ := asL_ref_eq R x' q
   obtain ⟨ws, hs', r'⟩ := asL_ref_eq R y' q'
   rcases r.get2 (i := i) with ⟨q1, q2⟩ | ⟨d1, v1, q1, q2, r1⟩
   ·simp only [q1]
    exact ⟨fun _ => ⟨vs, ws, hs, hs', .inl q2⟩, fun d e => by cases e⟩
   ·rcases r'.get2 (i := i) with ⟨q3, q4⟩ | ⟨d2, v2, q3, q4, r2⟩
    ·simp only [q1, q3]
     exact ⟨fun _ => ⟨vs, ws, hs, hs', .inr q4⟩, fun d e => by cases e⟩
    ·simp only [q1, q3]
     refine ⟨fun z => (by cases z), fun d e => ?_⟩
     cases e
     refine ⟨⟨vs, ws, v1, v2, hs, hs', q2, q4⟩, fun y H2 z => ?_⟩
     obtain ⟨T, x1, y1, rfl, hT, rfl, z1, z2⟩ := z
     rw [sqL_inj_at q2 x1 z1 hs, sqL_inj_at q4 y1 z2 hs']
     exact new_tup R (.cons r1 (.cons r2 .nil)) hT
section
variable {X : Cx} {G : Cf} {W : WX} {a b : Expr} {f g : F D} {p pos tpos : Pos} {elts : List Expr} {kk : Nat}
theorem i_enu (hK : G.K = X.K) (hg : Gl X "enumerate") (hm : X.mg "enumerate" = none) (ha : PE X a (tE G W f)) (hs : noStar a = true) : PI X (.Tuple elts kk tpos) (.Call (.Name "enumerate" p) [a] [] pos) (tI G W (iEnu f)) :=
 Sb.PI.imp (pi_enum hg hm (pa_cons ha pa_nil (star_of hs _ _)) (star_of hs _ _)) fun σ H R0 ⟨S, h, e, R, E, P⟩ => ⟨S, h, e, R, E, P.bind fun d h1 S1 H1 v ef N1 R1 v1 P1 => by
  cases q : asL h1 d with
  | none => rw [q] at P1; exact P1.elim
  | some l =>
   rw [q] at P1
   obtain ⟨a', vs, rfl, ha, r⟩ := asL_at R1 v1 q
   have fin := P1.here R1 (walks_enu R1.bad v1)
   rw [hK] at ha fin
   exact ⟨a', vs, rfl, ha, fin⟩⟩
theorem i_zip (hK : G.K = X.K) (hg : Gl X "zip") (hm : X.mg "zip" = none) (ha : PE X a (tE G W f)) (hb : PE X b (tE G W g)) (hs : noStar a = true) (hs2 : noStar b = true) : PI X (.Tuple elts kk tpos) (.Call (.Name "zip" p) [a, b] [] pos) (tI G W (iZip f g)) :=
 Sb.PI.imp (pi_zip hg hm (pa_cons ha (pa_cons hb pa_nil (star_of hs2 _ _)) (star_of hs _ _)) (star_of hs _ _) (by rw [star_of hs2]; rfl)) fun σ H R0 ⟨S, h, e, R, E, P⟩ => ⟨S, h, e, R, E, P.bind fun d h1 S1 H1 v ef N1 R1 v1 P1 =>
  ⟨S1, h1, e, R1, E.mono N1 R.bad, P1.bind fun d2 h2 S2 H2 v' ef2 N2 R2 v2 P2 => by
  have x2 := v1.mono N2 R1.bad
  cases q : asL h2 d with
  | none => simp only [q] at P2; exact P2.elim
  | some l =>
   cases q' : asL h2 d2 with
   | none => simp only [q, q'] at P2; exact P2.elim
   | some m =>
    simp only [q, q'] at P2
    obtain ⟨a', vs, rfl, ha, r⟩ := asL_at R2 x2 q
    obtain ⟨b', ws, rfl, hb, r'⟩ := asL_at R2 v2 q'
    have fin := P2.here R2 (walks_zip R2.bad x2 v2)
    rw [hK] at ha hb fin
    exact ⟨a', b', vs, ws, rfl, ha, hb, fin⟩⟩⟩
end
end Sb
namespace Sb
open L2 PySem PySem.Spec PyProof.Rows
section
variable {G : Cg} {S S' : Rho} {H : Hp}
mutual
theorem VD.moreR (hr : ∀ i, i < S.n → S'.r i = S.r i) (hn : S.n ≤ S'.n) (hB : ∀ b, S'.B b → S.B b) : ∀ {d : D} {v : V}, VD G S H d v → VD G S' H d v
 | _, _, .non => .non
 | _, _, .bl b => .bl b
 | _, _, .int b => .int b
 | _, _, .str b => .str b
 | _, _, .tup a b => .tup a (VDs.moreR hr hn hB b)
 | _, _, .scr a => .scr a
 | _, _, .lst a b c => .lst a (fun z => b (hB _ z)) (VDs.moreR hr hn hB c)
 | _, _, .dct a b c => .dct a (fun z => b (hB _ z)) (VDk.moreR hr hn hB c)
 | _, _, .ins a b c => .ins a (fun z => b (hB _ z)) (VDf.moreR hr hn hB c)
 | _, _, .ref hi => by rw [← hr _ hi]; exact .ref (Nat.lt_of_lt_of_le hi hn)
theorem VDs.moreR (hr : ∀ i, i < S.n → S'.r i = S.r i) (hn : S.n ≤ S'.n) (hB : ∀ b, S'.B b → S.B b) : ∀ {d : List D} {v : List V}, VDs G S H d v → VDs G S' H d v
 | _, _, .nil => .nil
 | _, _, .cons a b => .cons (VD.moreR hr hn hB a) (VDs.moreR hr hn hB b)
theorem VDk.moreR (hr : ∀ i, i < S.n → S'.r i = S.r i) (hn : S.n ≤ S'.n) (hB : ∀ b, S'.B b → S.B b) : ∀ {d : List (Key × D)} {v : List (Key × V)}, VDk G S H d v → VDk G S' H d v
 | _, _, .nil => .nil
 | _, _, .cons a b => .cons (VD.moreR hr hn hB a) (VDk.moreR hr hn hB b)
theorem VDf.moreR (hr : ∀ i, i < S.n → S'.r i = S.r i) (hn : S.n ≤ S'.n) (hB : ∀ b, S'.B b → S.B b) : ∀ {d : List (Str × D)} {v : List (Str × V)}, VDf G S H d v → VDf G S' H d v
 | _, _, .nil => .nil
 | _, _, .cons a b => .cons (VD.moreR hr hn hB a) (VDf.moreR hr hn hB b)
end
theorem OD.moreR (hr : ∀ i, i < S.n → S'.r i = S.r i) (hn : S.n ≤ S'.n) (hB : ∀ b, S'.B b → S.B b) {a : Addr} {o : O} (x : OD G S H a o) : OD G S' H a o := by
 cases x with
 | lst q v => exact .lst q (v.moreR hr hn hB)
 | dct q v => exact .dct q (v.moreR hr hn hB)
 | ins q v => exact .ins q (v.moreR hr hn hB)
 | lckL q v => exact .lckL q (v.moreR hr hn hB)
 | lckD q v => exact .lckD q (v.moreR hr hn hB)
 | dkn q v a b c d => exact .dkn q v a b c d
end
def dCompN (fs : F Src) (g : Tg) (t : F Bool) (f : F D) (vs : List Nat) : F D := fun e h => (fs e h).bind fun s h1 => if fits s.n = true then (match compS s.at_ g t f s.n 0 (wipeE e vs) h1 with
 | some (l, h2) => .ok (.ref h2.length) (h2 ++ [.lst l])
 | none => .fail) else .fail
section
variable {X : Cx} {G : Cf} {W : WX} {elt tg iter : Expr} {ifs : List Expr} {scope : Scope} {own : List (Str × Nat)} {pos : Pos} {fs : F Src} {g : Tg} {t : F Bool} {f : F D}
theorem tE_lcN (hcu : G.cur = none) (vs : List Nat) (hsl : ∀ i ∈ slotsT g, i ∈ vs) {σ : L2.St} {H : Hp} {Q : VK} (h0 : tE G W (dCompN fs g t f vs) σ H Q) : tLc (tI G W fs) (gT G g) (tT G W0 t) (tE G W0 f) vs σ H Q := by
 obtain ⟨S, h, e, R, E, P⟩ := h0
 refine ⟨S, h, e, R, E, P.bind fun s h1 S1 H1 J _ N1 R1 w P1 => fun p hp => ?_⟩
 have E1 := E.mono N1 R.bad
 by_cases c : fits s.n = true
 rotate_left
 ·rw [if_neg c] at P1; exact P1.elim
 rw [if_pos c] at P1
 cases q : compS s.at_ g t f s.n 0 (wipeE e vs) h1 with
 | none => rw [q] at P1; exact P1.elim
 | some z =>
  obtain ⟨l, h2⟩ := z
  rw [q] at P1
  have hn : s.n ≤ sizeLine := fits_ok c
  refine ⟨fun i m H => ∃ S4 h4 acc vacc l', Nx G S1 H1 S4 H ∧ Rel G S4 h4 H ∧ S4.B p ∧ (∀ i, i < S4.n → S4.r i ≠ p) ∧ H p = some (.lst vacc) ∧ VDs G S4 H acc vacc ∧ acc.length ≤ i ∧ i + m = s.n ∧
   compS s.at_ g t f m i (wipeE e vs) h4 = some (l', h2) ∧ l = acc ++ l', ⟨s.n, ?_⟩, ?_⟩
  ·
   have k := keeps_new (o := .lst []) hp
   have N2 : Nx G S1 H1 (S1.ban p) (upd H1 p (.lst [])) := ⟨Nat.le_refl _, fun _ _ => rfl, fun i a b => absurd b (Nat.not_lt.mpr a), fun _ z => .inl z, fun b z => z.elim .inl fun y => .inr (by rw [y]; exact hp), fun b u _ e => k b u e,
    (Nx.same (G := G) (S := S1) k).there, (Nx.same (G := G) (S := S1) k).seqT, (Nx.same (G := G) (S := S1) k).seqF, (Nx.same (G := G) (S := S1) k).frz⟩
   have ne : ∀ i, i < S1.n → S1.r i ≠ p := fun i hi z => R1.nb hp (z ▸ R1.bad i hi)
   refine ⟨S1.ban p, h1, [], [], l, N2, ⟨R1.len, fun i hi => .inl (R1.bad i hi), R1.inj, fun b z => ?_, fun i o q => (R1.obj i o q).mono N2 R1.bad fun u q => k _ u q⟩, .inr rfl, ne, upd_same, .nil, Nat.le_refl _, Nat.zero_add _, q, rfl⟩
   rcases z with z | z
   ·exact N2.there b (R1.live b z)
   ·rw [z, upd_same]; simp
  ·rintro i m H4 ⟨S4, h4, acc, vacc, l', N4, R4, hb, ne, hpl, va, la, im, q4, el⟩
   obtain ⟨w1, w2⟩ := w S4 h4 H4 i N4 R4
   unfold compS at q4
   split at q4
   ·
    rename_i qa
    cases q4
    refine .inl ⟨w1 qa, ?_⟩
    rw [List.append_nil] at el
    subst el
    have hB : ∀ b, ((S4.unban p).push p).B b → S4.B b := fun b z => by
     rcases z with z | z
     ·exact z.1
     ·rw [z]; exact hb
    have hr : ∀ i, i < S4.n → ((S4.unban p).push p).r i = S4.r i := fun i hi => if_neg (fun z => by have : i = S4.n := z; omega)
    have hrn : ((S4.unban p).push p).r S4.n = p := if_pos rfl
    have ob : ∀ {a : Addr} {o : O}, OD G S4 H4 a o → OD G ((S4.unban p).push p) H4 a o := fun x => OD.moreR hr (Nat.le_succ _) hB x
    have N5 : Nx G S1 H1 ((S4.unban p).push p) H4 := ⟨Nat.le_trans N4.n (Nat.le_succ _), fun i hi => (hr i (Nat.lt_of_lt_of_le hi N4.n)).trans (N4.r i hi), fun i h1 h2 => by
      by_cases z : i = S4.n
      ·subst z; rw [hrn]; exact hp
      ·have h3 : i < S4.n + 1 := h2
       rw [hr i (by omega)]; exact N4.new i h1 (by omega), fun b z => .inl ⟨N4.up b z, fun y => R1.live b z (by rw [y]; exact hp)⟩, fun b z => N4.dn b (hB b z), N4.keep, N4.there, N4.seqT, N4.seqF, N4.frz⟩
    have R5 : Rel G ((S4.unban p).push p) (h2 ++ [.lst l]) H4 := ⟨by rw [List.length_append, R4.len]; rfl, fun i hi => by
      have h3 : i < S4.n + 1 := hi
      by_cases z : i = S4.n
      ·subst z; rw [hrn]; exact .inr rfl
      ·rw [hr i (by omega)]; exact .inl ⟨R4.bad i (by omega), ne i (by omega)⟩, fun i j hi hj e => by
      have h3 : i < S4.n + 1 := hi
      have h4x : j < S4.n + 1 := hj
      by_cases z : i = S4.n
      ·by_cases y : j = S4.n
       ·rw [z, y]
       ·rw [z, hrn, hr j (by omega)] at e
        exact absurd e.symm (ne j (by omega))
      ·by_cases y : j = S4.n
       ·rw [y, hrn, hr i (by omega)] at e
        exact absurd e (ne i (by omega))
       ·rw [hr i (by omega), hr j (by omega)] at e
        exact R4.inj i j (by omega) (by omega) e, fun b z => R4.live b (hB b z), fun i o q => by
      by_cases z : i < h2.length
      ·rw [List.getElem?_append_left z] at q
       have y := ob (R4.obj i o q)
       rw [hr i (by rw [← R4.len]; exact z)]
       exact y
      ·have z2 : i = h2.length := by
        have := (List.getElem?_eq_some_iff.mp q).1
        rw [List.length_append] at this
        simp at this
        omega
       subst z2
       rw [List.getElem?_append_right (Nat.le_refl _), Nat.sub_self] at q
       cases q
       rw [R4.len, hrn]
       exact .lst hpl (VDs.moreR hr (Nat.le_succ _) hB va)⟩
    have vr : VD G ((S4.unban p).push p) H4 (.ref h2.length) (.ref p) := by
     have z := VD.ref (G := G.toCg) (S := (S4.unban p).push p) (H := H4) (i := h2.length) (by rw [R4.len]; exact Nat.lt_succ_self _)
     rw [R4.len, hrn, ← R4.len] at z
     exact z
    exact P1 _ H4 (.ref p) N5 R5 vr
   ·rename_i d qa
    obtain ⟨g1, g2⟩ := w2 d qa
    refine .inr ⟨g1, ?_⟩
    cases m with
    | zero => cases q4
    | succ m =>
     simp only at q4
     split at q4
     rotate_left
     ·cases q4
     rename_i e1 qb
     refine ⟨fun H' => ∃ S4 h4 acc vacc l', Nx G S1 H1 S4 H' ∧ Rel G S4 h4 H' ∧ S4.B p ∧ (∀ i, i < S4.n → S4.r i ≠ p) ∧ H' p = some (.lst vacc) ∧ VDs G S4 H' acc vacc ∧ acc.length ≤ i + 1 ∧ (i + 1) + m = s.n ∧
      compS s.at_ g t f m (i + 1) (wipeE e vs) h4 = some (l', h2) ∧ l = acc ++ l', fun H' z => ⟨m, Nat.lt_succ_self m, z⟩, fun x H5 y => ?_⟩
     obtain ⟨N5, R5, x5⟩ := g2 x H5 y
     have N05 := N4.trans N5
     have E5 : EnR G S4 H5 (wipeE e vs) (wipe σ vs) := (E1.mono N05 R1.bad).wipe hcu vs
     have stay : ∀ {S6 H6}, Nx G S4 H4 S6 H6 → S6.B p ∧ (∀ i, i < S6.n → S6.r i ≠ p) ∧ H6 p = some (.lst vacc) := fun {S6 H6} N => by
      refine ⟨N.up p hb, fun i hi z => ?_, N.keep p _ ne hpl⟩
      by_cases k : i < S4.n
      ·exact ne i k ((N.r i k).symm.trans z)
      ·have := N.new i (Nat.not_lt.mp k) hi
       rw [z, hpl] at this
       cases this
     refine ⟨S4, h4, wipeE e vs, d, e1, R5, E5, x5, qb, fun σ2 E6 A6 => ⟨?_, ?_⟩⟩
     ·exact (wipe_same ⟨A6.1, fun j hj => A6.2 j (fun z => hj (hsl j z))⟩).trans (wipe_wipe vs σ)
     refine ⟨S4, h4, e1, R5, E6, ?_⟩
     cases qt : t e1 h4 with
     | fail => rw [qt] at q4; cases q4
     | exc _ _ _ => rw [qt] at q4; cases q4
     | ok b h6 =>
      rw [qt] at q4
      simp only at q4
      intro S6 H6 b' N6 R6 eb
      subst eb
      have N46 := N5.trans N6
      cases b with
      | false =>
       obtain ⟨k1, k2, k3⟩ := stay N46
       exact ⟨S6, h6, acc, vacc, l', N4.trans N46, R6, k1, k2, k3, va.mono N46 R4.bad, by omega, by omega, q4, el⟩
      | true =>
       refine ⟨S6, h6, e1, R6, E6.mono N6 R5.bad, ?_⟩
       rw [if_pos rfl] at q4
       cases qf : f e1 h6 with
       | fail => rw [qf] at q4; cases q4
       | exc _ _ _ => rw [qf] at q4; cases q4
       | ok y7 h7 =>
        rw [qf] at q4
        simp only at q4
        intro S7 H7 v7 N7 R7 x7
        cases q8 : compS s.at_ g t f m (i + 1) (wipeE e vs) h7 with
        | none => rw [q8] at q4; cases q4
        | some z8 =>
         obtain ⟨l8, h8⟩ := z8
         rw [q8] at q4
         have N47 := N46.trans N7
         obtain ⟨k1, k2, k3⟩ := stay N47
         have va7 := va.mono N47 R4.bad
         have l1 := va7.length
         refine ⟨vacc, k3, by omega, S7, h7, acc ++ [y7], vacc ++ [v7], l8, (N4.trans N47).updB hp k3, R7.updB k1 k3 k2, k1, k2, upd_same, (va7.append (.cons x7 .nil)).updB k1 k3, by rw [List.length_append]; exact Nat.succ_le_succ la, by omega, ?_, ?_⟩
         ·cases q4; exact q8
         ·cases q4; rw [el, List.append_assoc]; rfl
   ·cases q4
theorem e_lcN (hc : X.calm = true) (hN : X.N.Nodup) (hcu : G.cur = none) (hi : PI X tg iter (tI G W fs)) (ok : BlkOk X.N X.env.scope scope own) (hsl : ∀ i ∈ slotsT g, i ∈ own.map (·.2))
  (hg : ∀ (s : Shared) (H : Hp) (C : Addr) (cl : List (Str × Addr)) (fp : List Addr), PG (X.blk s H scope (compEnvC scope cl C X.env) fp) tg (gT G g)) (ht : ∀ (s : Shared) (H : Hp) (C : Addr) (cl : List (Str × Addr)) (fp : List Addr), PTs (X.blk s H scope (compEnvC scope cl C X.env) fp) ifs (tT G W0 t))
  (he : ∀ (s : Shared) (H : Hp) (C : Addr) (cl : List (Str × Addr)) (fp : List Addr), PE (X.blk s H scope (compEnvC scope cl C X.env) fp) elt (tE G W0 f)) (hs : noSetT iter = true) :
  PE X (.ListComp elt [⟨tg, iter, ifs, 0⟩] scope pos) (tE G W (dCompN fs g t f (own.map (·.2)))) :=
 PE.imp (pe_lc hc hN hi ok hg ht he (folded_of hs)) fun _ _ _ h => tE_lcN hcu _ hsl h
theorem s_setLcN {i : Nat} {y : Str} {py spos : Pos} (hc : X.calm = true) (hN : X.N.Nodup) (hcu : G.cur = none) (hy : X.N[i]? = some y) (hyl : X.env.scope.names.lookup y = some .local) (hsw : swapsWith (.ListComp elt [⟨tg, iter, ifs, 0⟩] scope pos) (some (.Name y py)) spos.line X.env = pure true)
  (hi : PI X tg iter (tI G W fs)) (ok : BlkOk X.N X.env.scope scope own) (hsl : ∀ i ∈ slotsT g, i ∈ own.map (·.2))
  (hg : ∀ (s : Shared) (H : Hp) (C : Addr) (cl : List (Str × Addr)) (fp : List Addr), PG (X.blk s H scope (compEnvC scope cl C X.env) fp) tg (gT G g)) (ht : ∀ (s : Shared) (H : Hp) (C : Addr) (cl : List (Str × Addr)) (fp : List Addr), PTs (X.blk s H scope (compEnvC scope cl C X.env) fp) ifs (tT G W0 t))
  (he : ∀ (s : Shared) (H : Hp) (C : Addr) (cl : List (Str × Addr)) (fp : List Addr), PE (X.blk s H scope (compEnvC scope cl C X.env) fp) elt (tE G W0 f)) (hs : noSetT iter = true) :
  PS X (.Assign [.Name y py] (.ListComp elt [⟨tg, iter, ifs, 0⟩] scope pos) spos) (tS G W (sAsg (dCompN fs g t f (own.map (·.2))) (.nm i))) :=
 PS.imp (ps_setLc hc hN hy hyl hsw hi ok hg ht he (folded_of hs)) fun Z σ H ⟨S, h, e, R, E, P⟩ => tE_lcN hcu _ hsl ⟨S, h, e, R, E, P.st R E fun d h1 S1 H1 v _ N1 R1 v1 P1 => by
  unfold bindT at P1
  exact P1.next R1 ((E.mono N1 R.bad).set v1 fun c a z => by rw [hcu] at z; cases z)⟩
end
def rDX (G : Cg) (op : Hh → D → D → Option (D × Hh)) : R2 := fun x y H Q => ∃ S h d e z h', Rel G S h H ∧ VD G S H d x ∧ VD G S H e y ∧ op h d e = some (z, h') ∧ ∀ S' H' v, Nx G S H S' H' → Rel G S' h' H' → VD G S' H' z v → Q v H'
def dBX (f g : F D) (op : Hh → D → D → Option (D × Hh)) : F D := fun e h => (f e h).bind fun x h1 => (g e h1).bind fun y h2 => match op h2 x y with
 | some (z, h3) => .ok z h3
 | none => .fail
def opAddN (h : Hh) (x y : D) : Option (D × Hh) := match asM h x, asM h y with
 | some a, some b => if fits (a.length + b.length) = true then some (.ref h.length, h ++ [.lst (a ++ b)]) else none
 | _, _ => none
section
variable {X : Cx} {G : Cf} {W : WX} {a b : Expr} {f g : F D} {pos : Pos}
theorem tE_opX {op : Hh → D → D → Option (D × Hh)} {σ : L2.St} {H : Hp} {Q : VK} (h : tE G W (dBX f g op) σ H Q) : tOp (rDX G op) (tE G W f) (tE G W g) σ H Q := by
 obtain ⟨S, h, e, R, E, P⟩ := h
 refine ⟨S, h, e, R, E, P.bind fun x h1 S1 H1 v _ N1 R1 v1 P1 => ?_⟩
 have E1 := E.mono N1 R.bad
 refine ⟨S1, h1, e, R1, E1, P1.bind fun y h2 S2 H2 w _ N2 R2 v2 P2 => ?_⟩
 cases q : op h2 x y with
 | none => rw [q] at P2; exact P2.elim
 | some z =>
  obtain ⟨z, h3⟩ := z
  rw [q] at P2
  exact ⟨S2, h2, x, y, z, h3, R2, v1.mono N2 R1.bad, v2, q, fun S' H' v n r x => P2 S' H' v n r x⟩
theorem or_addN : OpR X (binaryOp .Add) (rDX G opAddN) := by
 intro pins s σ H x y v u Q I rx ry hq
 obtain ⟨S, h, d, e, z, h', R, vx, vy, q, k⟩ := hq
 unfold opAddN at q
 split at q
 ·rename_i l m q1 q2
  split at q
  ·rename_i c
   cases q
   obtain ⟨p1, vs, rfl, h1, r1⟩ := asM_at R vx q1
   obtain ⟨p2, ws, rfl, h2, r2⟩ := asM_at R vy q2
   have l1 := r1.length
   have l2 := r2.length
   have c2 := fits_ok c
   refine op_cat pins s σ H _ _ v u Q I rx ry ⟨p1, p2, vs, ws, rfl, rfl, h1, h2, by omega, fun p hp => ?_⟩
   obtain ⟨n1, rr, x1⟩ := new_ref R hp (o := .lst (l ++ m)) (.lst upd_same ((r1.append r2).mono (.push hp) R.bad))
   exact k _ _ _ n1 rr x1
  ·cases q
 ·cases q
theorem e_ban (ha : PE X a (tE G W f)) (hb : PE X b (tE G W g)) : PE X (.BinOp a .Add b pos) (tE G W (dBX f g opAddN)) :=
 PE.imp (pe_op or_addN ha hb) fun _ _ _ h => tE_opX h
end
end Sb
namespace Sb
open L2 PySem PySem.Spec PyProof.Rows
def tabAt (t : List (Str × D)) (z : Str) : Option D := (t.find? fun p => decide (p.1 = z)).map (·.2)
def tabV (t : List (Str × V)) (z : Str) : Option V := (t.find? fun p => decide (p.1 = z)).map (·.2)
def KTab (K : PySem.W.Frag) (w : World) (a : Addr) (t : List (Str × V)) : Prop := ∃ es n, KDict K w a es n ∧ ∀ z : Str, ∃ r, PySem.W.nsIn K a z = some r ∧ (match tabV t z with
 | some v => ∃ u, r = some u ∧ RelV v u
 | none => r = none)
theorem isStr_iff (x z : Str) (k : Tok) : (Value.str x k).isStr z = decide (x = z) := by
 show (x == z) = _
 by_cases c : x = z
 ·subst c; simp
 ·simp [c]
theorem nsIn_keys {P : Params} {K : PySem.W.Frag} {a : Addr} {es : Array DictEntry} {n : Nat} (hl : K.lookup a = some ⟨.type "dict", none, .dict es n, #[]⟩) : ∀ {ks : List Str}, es.toList.map He.keyOf = He.keysIn P ks → ∀ z : Str, z ∉ ks → PySem.W.nsIn K a z = some none := by
 intro ks h z hz
 unfold PySem.W.nsIn
 rw [hl]
 have key : ∀ (l : List DictEntry) (ks : List Str), l.map He.keyOf = He.keysIn P ks → z ∉ ks → l.find? (·.key.isStr z) = none ∧ l.any (·.refKey) = false := by
  intro l
  induction l with
  | nil => intro ks _ _; exact ⟨rfl, rfl⟩
  | cons e l ih =>
   intro ks h hz
   cases ks with
   | nil => cases h
   | cons k ks =>
    have h1 : He.keyOf e :: l.map He.keyOf = some (k, PyData.keyHash P k) :: He.keysIn P ks := h
    injection h1 with h2 h3
    obtain ⟨i1, i2⟩ := ih ks h3 (fun q => hz (List.mem_cons_of_mem _ q))
    unfold He.keyOf at h2
    split at h2
    ·rename_i x t q
     obtain ⟨h5, h6⟩ := Prod.mk.inj (Option.some.inj h2)
     have hne : ¬ x = z := fun c => hz (by rw [← c, h5]; exact List.mem_cons_self)
     constructor
     ·rw [List.find?_cons, q, isStr_iff, decide_eq_false hne]; exact i1
     ·rw [List.any_cons, i2, Bool.or_false]
      unfold DictEntry.refKey
      rw [q]
    ·cases h2
 obtain ⟨k1, k2⟩ := key es.toList ks h hz
 simp only [k1, k2, Bool.false_eq_true, if_false]
theorem ktab_ok {K : PySem.W.Frag} {w : World} {a : Addr} {t : List (Str × He.Dv)} (h : He.dicW K a = some (He.keysIn w.params (t.map (·.1)))) (hv : He.valsB K a t = true) : KTab K w a (t.map fun p => (p.1, p.2.v K)) := by
 obtain ⟨es, n, D⟩ := He.dicW_ok h
 refine ⟨es, n, D, fun z => ?_⟩
 have hk : es.toList.map He.keyOf = He.keysIn w.params (t.map (·.1)) := by
  unfold He.dicW at h
  rw [D.at_] at h
  simp only at h
  split at h
  ·exact Option.some.inj h
  ·cases h
 have key : ∀ l : List (Str × He.Dv), (∀ p ∈ l, p ∈ t) → (match tabV (l.map fun p => (p.1, p.2.v K)) z with
   | some v => ∃ u, PySem.W.nsIn K a z = some (some u) ∧ RelV v u
   | none => z ∉ l.map (·.1)) := by
  intro l
  induction l with
  | nil => intro _; show z ∉ []; simp
  | cons p l ih =>
   intro hm
   have ih2 := ih fun q hq => hm q (List.mem_cons_of_mem _ hq)
   unfold tabV at ih2 ⊢
   rw [List.map_cons, List.find?_cons]
   by_cases c : p.1 = z
   ·simp only [c, decide_true, Option.map_some]
    obtain ⟨u, e1, e2⟩ := He.valsB_ok hv (hm p List.mem_cons_self)
    rw [c] at e1
    exact ⟨u, e1, e2⟩
   ·simp only [c, decide_false]
    split at ih2
    ·rename_i v q
     rw [q]
     exact ih2
    ·rename_i q
     rw [q]
     simp only
     rw [List.map_cons, List.mem_cons, not_or]
     exact ⟨fun z => c z.symm, ih2⟩
 have fin := key t fun p hp => hp
 cases q : tabV (t.map fun p => (p.1, p.2.v K)) z with
 | some v =>
  rw [q] at fin
  obtain ⟨u, e1, e2⟩ := fin
  exact ⟨some u, e1, u, rfl, e2⟩
 | none =>
  rw [q] at fin
  exact ⟨none, nsIn_keys D.at_ hk z fin, rfl⟩
def endK (t : List (Str × D)) (x y : D) (h : Hh) : R D := match x with
 | .str z => .ok (getK (tabAt t z) y) h
 | _ => .fail
def kGet (t : List (Str × D)) (f g : F D) : F D := fun e h => (f e h).bind fun x h1 => (g e h1).bind fun y h2 => endK t x y h2
theorem tab_rel {G : Cg} {S : Rho} {H : Hp} (z : Str) : ∀ {t : List (Str × D)} {tv : List (Str × V)}, VDf G S H t tv → (tabAt t z = none ∧ tabV tv z = none) ∨ ∃ d v, tabAt t z = some d ∧ tabV tv z = some v ∧ VD G S H d v
 | _, _, .nil => .inl ⟨rfl, rfl⟩
 | _, _, .cons (k := k) (d := d) (v := v) x r => by
  unfold tabAt tabV
  rw [List.find?_cons, List.find?_cons]
  by_cases c : k = z
  ·simp only [c, decide_true]
   exact .inr ⟨d, v, rfl, rfl, x⟩
  ·simp only [c, decide_false]
   exact tab_rel z r
theorem e_kget {X : Cx} {G : Cf} {W : WX} {e e' : Expr} {f g : F D} {y : Str} {a : Addr} {p0 apos cpos : Pos} {t : List (Str × D)} {tv : List (Str × V)} (hg : Gl X y) (hm : X.mg y = some (.ref a)) (hdb : (y == ("__debug__" : Str)) = false) (hT : KTab X.K X.w a tv) (ht : ∀ S H, VDf G.toCg S H t tv)
  (he : PE X e (tE G W f)) (hf : PE X e' (tE G W g)) (hl : (apos.endLine == cpos.line) = true) (h1 : noStar e = true) (h2 : noStar e' = true) :
  PE X (.Call (.Attribute (.Name y p0) "get" apos) [e, e'] [] cpos) (tE G W (kGet t f g)) := by
 have m : M2 X (.Name y p0) "get" apos e e' cpos := m2_of rfl hl h1 h2
 obtain ⟨es, n, D, hns⟩ := hT
 refine ⟨fun pins s σ H Q I h => ?_⟩
 refine wpAny_Call_method m.base m.few m.line PySem.F.plainAttrs_dict PySem.F.slot_dict_get PySem.F.type_dict_get (thn ((pe_glob (v := .ref a) hg hm rfl hdb).run pins s σ H (fun x H1 => x = .ref a ∧ tE G W (kGet t f g) σ H1 Q) I ⟨rfl, h⟩) fun u s1 ⟨x, H1, I1, rx, ex, q1⟩ => ?_)
 subst ex
 obtain rfl : u = Value.ref a := rx
 have hob := I1.kIn _ _ D.at_
 have hmo := PySem.W.mapOf_K (prog := X.prog) (w := X.w) I1.kIn D.at_ D.lit
 refine ⟨hmo.typeIs, fun b hb => ?_, ?_⟩
 ·cases hb
  exact ⟨_, hob, rfl⟩
 rw [m.trees]
 obtain ⟨S, h0, en, R, E, P⟩ := q1
 refine Calls.callWith_builtin rfl (Calls.evalArgs_plain (Calls.spliced_cons (thn (he.run pins s1 σ H1 (fun xv H2 => ∃ S1 h1 xd, Rel G.toCg S1 h1 H2 ∧ EnR G S1 H2 en σ ∧ VD G.toCg S1 H2 xd xv ∧ Pst G.toCg (fun c d H => W c d σ H) S1 H2 (relV G.toCg) ((g en h1).bind fun y h2 => endK t xd y h2) Q) I1 ⟨S, h0, en, R, E, P.bind fun x h1 S1 H2 v _ N1 R1 v1 P1 => ⟨S1, h1, x, R1, E.mono N1 R.bad, v1, P1⟩⟩) fun iv s2 ⟨xv, H2, I2, ry, S1, h1, xd, R1, E1, v1, P1⟩ =>
  Calls.spliced_cons (thn (hf.run pins s2 σ H2 (fun yv H3 => ∃ S2 h2 yd, Rel G.toCg S2 h2 H3 ∧ VD G.toCg S2 H3 yd yv ∧ VD G.toCg S2 H3 xd xv ∧ Pst G.toCg (fun c d H => W c d σ H) S2 H3 (relV G.toCg) (endK t xd yd h2) Q) I2 ⟨S1, h1, en, R1, E1, P1.bind fun y h2 S2 H3 v _ N2 R2 v2 P2 => ⟨S2, h2, y, R2, v2, v1.mono N2 R1.bad, P2⟩⟩) fun fv s3 ⟨yv, H3, I3, rz, S2, h2, yd, R2, v2, v1', P2⟩ => Calls.spliced_nil ?_))))
 cases v1' with
 | str z =>
  obtain ⟨tk, rfl⟩ := ry
  have hmo3 := PySem.W.mapOf_K (prog := X.prog) (w := X.w) I3.kIn D.at_ D.lit
  obtain ⟨r, e1, e2⟩ := hns z
  have ef := PySem.W.find_K D.at_ e1
  refine call_meetsIn PySem.F.slot_dict_get hmo3.typeIs PySem.F.entry_dict_get (PySem.F.args_dict_get_3 _ _ _) (meets_dict_get_default (strKind X.prog X.w) a (strKind_is X.prog X.w z tk) D.low fv) ⟨_, hmo3, ?_⟩
  rcases tab_rel z (ht S2 H3) with ⟨t1, t2⟩ | ⟨d1, w1, t1, t2, r1⟩
  ·rw [t2] at e2
   simp only at e2
   unfold endK at P2
   simp only [t1, getK] at P2
   refine ⟨yv, H3, I3.tok _, ?_, P2.here R2 v2⟩
   show RelV yv ((findBy Value.isStrOf es z).getD fv)
   rw [ef, e2]
   exact rz
  ·rw [t2] at e2
   obtain ⟨u, e3, e4⟩ := e2
   unfold endK at P2
   simp only [t1, getK] at P2
   refine ⟨w1, H3, I3.tok _, ?_, P2.here R2 r1⟩
   show RelV w1 ((findBy Value.isStrOf es z).getD fv)
   rw [ef, e3]
   exact e4
 | _ => exact P2.elim
def dLrg (f : F D) : F D := fun e h => (f e h).bind fun d h1 => match d with
 | .int j => if -(2 ^ 62) ≤ j ∧ j ≤ 16777216 then .ok (D.lst ((List.range j.toNat).map fun i : Nat => D.int (i : Int))) h1 else .fail
 | _ => .fail
theorem vds_rg {G : Cg} {S : Rho} {H : Hp} : ∀ l : List Nat, VDs G S H (l.map fun i : Nat => D.int (i : Int)) (l.map fun i : Nat => V.int (0 + (i : Int)))
 | [] => .nil
 | i :: l => by
  rw [List.map_cons, List.map_cons, Int.zero_add]
  exact .cons (.int _) (vds_rg l)
theorem e_lrg {X : Cx} {G : Cf} {W : WX} {a : Expr} {f : F D} {p p2 q pos : Pos} (hK : G.K = X.K) (hc : X.calm = true) (hg : Gl X "list") (hm : X.mg "list" = none) (hg2 : Gl X "range") (hm2 : X.mg "range" = none) (ha : PE X a (tE G W f)) (hs : noStar a = true) :
  PE X (.Call (.Name "list" p) [.Call (.Name "range" p2) [a] [] q] [] pos) (tE G W (dLrg f)) :=
 PE.imp (pe_listRg hc hg hm (prg_1 hg2 hm2 ha (star_of hs _ _)) (star_of rfl _ _)) fun σ H Q ⟨S, h, e, R, E, P⟩ => ⟨S, h, e, R, E, P.bind fun d h1 S1 H1 v _ N1 R1 v1 P1 => by
  cases v1 with
  | int j =>
   by_cases c : -(2 ^ 62) ≤ j ∧ j ≤ 16777216
   ·have P2 : Pst G (fun c d H => W c d σ H) S1 H1 (relV G) (Sb.R.ok (D.lst ((List.range j.toNat).map fun i : Nat => D.int (i : Int))) h1) Q := by
     have z : (if -(2 ^ 62) ≤ j ∧ j ≤ 16777216 then (Sb.R.ok (D.lst ((List.range j.toNat).map fun i : Nat => D.int (i : Int))) h1) else Sb.R.fail) = Sb.R.ok (D.lst ((List.range j.toNat).map fun i : Nat => D.int (i : Int))) h1 := if_pos c
     rw [← z]; exact P1
    refine ⟨j, rfl, ⟨by omega, by omega, by omega, by omega, by omega⟩, fun p hp => ?_⟩
    have r : VDs G.toCg S1 H1 ((List.range j.toNat).map fun i : Nat => D.int (i : Int)) (rgV 0 j) := by
     have z := vds_rg (G := G.toCg) (S := S1) (H := H1) (List.range j.toNat)
     unfold rgV
     rw [show j - 0 = j from by omega]
     exact z
    obtain ⟨n1, r1, x1⟩ := new_lst R1 r hp
    exact P2 _ _ _ n1 r1 x1
   ·have P2 : Pst G (fun c d H => W c d σ H) S1 H1 (relV G) (Sb.R.fail (α := D)) Q := by
     have z : (if -(2 ^ 62) ≤ j ∧ j ≤ 16777216 then (Sb.R.ok (D.lst ((List.range j.toNat).map fun i : Nat => D.int (i : Int))) h1) else Sb.R.fail) = Sb.R.fail := if_neg c
     rw [← z]; exact P1
    exact P2.elim
  | _ => exact P1.elim⟩
def rg2L (i j : Int) : List D := (List.range (j - i).toNat).map fun q : Nat => D.int (i + (q : Int))
def dLr2 (f g : F D) : F D := fun e h => (f e h).bind fun d h1 => (g e h1).bind fun d2 h2 => match d, d2 with
 | .int i, .int j => if -(2 ^ 62) ≤ i ∧ i < 2 ^ 62 ∧ -(2 ^ 62) ≤ j ∧ j < 2 ^ 62 ∧ j - i ≤ 16777216 then .ok (.lst (rg2L i j)) h2 else .fail
 | _, _ => .fail
theorem vds_rg2 {G : Cg} {S : Rho} {H : Hp} (a : Int) : ∀ l : List Nat, VDs G S H (l.map fun i : Nat => D.int (a + (i : Int))) (l.map fun i : Nat => V.int (a + (i : Int)))
 | [] => .nil
 | i :: l => .cons (.int _) (vds_rg2 a l)
theorem e_lr2 {X : Cx} {G : Cf} {W : WX} {a b : Expr} {f g : F D} {p p2 q pos : Pos} (hK : G.K = X.K) (hc : X.calm = true) (hg : Gl X "list") (hm : X.mg "list" = none) (hg2 : Gl X "range") (hm2 : X.mg "range" = none) (ha : PE X a (tE G W f)) (hb : PE X b (tE G W g)) (hs : noStar a = true) (hs2 : noStar b = true) :
  PE X (.Call (.Name "list" p) [.Call (.Name "range" p2) [a, b] [] q] [] pos) (tE G W (dLr2 f g)) :=
 PE.imp (pe_listRg hc hg hm (prg_2 hg2 hm2 ha hb (star_of hs _ _) (star_of hs2 _ _) (by rw [star_of hs2]; rfl)) (star_of rfl _ _)) fun σ H Q ⟨S, h, e, R, E, P⟩ => ⟨S, h, e, R, E, P.bind fun d h1 S1 H1 v ef N1 R1 v1 P1 =>
  ⟨S1, h1, e, R1, E.mono N1 R.bad, P1.bind fun d2 h2 S2 H2 v' ef2 N2 R2 v2 P2 => by
  cases v1 with
  | int i =>
   cases v2 with
   | int j =>
    by_cases c : -(2 ^ 62) ≤ i ∧ i < 2 ^ 62 ∧ -(2 ^ 62) ≤ j ∧ j < 2 ^ 62 ∧ j - i ≤ 16777216
    ·have P3 : Pst G (fun c d H => W c d σ H) S2 H2 (relV G) (Sb.R.ok (D.lst (rg2L i j)) h2) Q := by
      have z : (if -(2 ^ 62) ≤ i ∧ i < 2 ^ 62 ∧ -(2 ^ 62) ≤ j ∧ j < 2 ^ 62 ∧ j - i ≤ 16777216 then (Sb.R.ok (D.lst (rg2L i j)) h2) else Sb.R.fail) = Sb.R.ok (D.lst (rg2L i j)) h2 := if_pos c
      rw [← z]; exact P2
     refine ⟨i, j, rfl, rfl, ⟨c.1, c.2.1, c.2.2.1, c.2.2.2.1, by omega⟩, fun p hp => ?_⟩
     have r : VDs G.toCg S2 H2 (rg2L i j) (rgV i j) := vds_rg2 (G := G.toCg) (S := S2) (H := H2) i (List.range (j - i).toNat)
     obtain ⟨n1, r1, x1⟩ := new_lst R2 r hp
     exact P3 _ _ _ n1 r1 x1
    ·have P3 : Pst G (fun c d H => W c d σ H) S2 H2 (relV G) (Sb.R.fail (α := D)) Q := by
      have z : (if -(2 ^ 62) ≤ i ∧ i < 2 ^ 62 ∧ -(2 ^ 62) ≤ j ∧ j < 2 ^ 62 ∧ j - i ≤ 16777216 then (Sb.R.ok (D.lst (rg2L i j)) h2) else Sb.R.fail) = Sb.R.fail := if_neg c
      rw [← z]; exact P2
     exact P3.elim
   | _ => exact P2.elim
  | _ => exact P2.elim⟩⟩
def strC (z : Str) : Expr → Bool
 | .Constant (.str y) _ _ => decide (y = z)
 | _ => false
def chDc : List (Str × Str) → List (Option Expr) → List Expr → Bool
 | [], [], [] => true
 | p :: t, some e :: ks, e' :: vs => strC p.1 e && strC p.2 e' && chDc t ks vs
 | _, _, _ => false
def dcD (t : List (Str × Str)) : List (Key × D) := t.map fun p => (.inr p.1, .str p.2)
def dcV (t : List (Str × Str)) : List (Key × V) := t.map fun p => (.inr p.1, .str p.2)
def dDcl (t : List (Str × Str)) : F D := fun _ h => .ok (.dct (dcD t)) h
theorem pe_strC {X : Cx} {z : Str} {e : Expr} (h : strC z e = true) : PE X e (tC (.str z)) := by
 unfold strC at h
 split at h
 ·have := of_decide_eq_true h
  subst this
  exact pe_str
 ·cases h
def dcT (t : List (Str × Str)) : List (TE × TE) := t.map fun p => (tC (.str p.1), tC (.str p.2))
theorem pps_dc {X : Cx} {pos : Pos} : ∀ {t : List (Str × Str)} {ks : List (Option Expr)} {vs : List Expr}, chDc t ks vs = true → PPs X pos ks vs (dcT t) ∧ ks.all (·.isSome) = true ∧ ks.length = vs.length ∧ ks.length = t.length
 | [], [], [], _ => ⟨pps_nil, rfl, rfl, rfl⟩
 | p :: t, some e :: ks, e' :: vs, h => by
  unfold chDc at h
  obtain ⟨h12, h3⟩ := Bool.and_eq_true_iff.mp h
  obtain ⟨h1, h2⟩ := Bool.and_eq_true_iff.mp h12
  obtain ⟨q1, q2, q3, q4⟩ := pps_dc (X := X) (pos := pos) h3
  exact ⟨pps_cons (pe_strC h1) (pe_strC h2) q1, by simpa using q2, by simp [q3], by simp [q4]⟩
 | [], [], _ :: _, h => by cases h
 | [], _ :: _, _, h => by cases h
 | _ :: _, [], _, h => by cases h
 | _ :: _, none :: _, _, h => by cases h
 | _ :: _, some _ :: _, [], h => by cases h
theorem pairs_dc {σ : L2.St} : ∀ {t : List (Str × Str)} {H : Hp} {Q : List (V × V) → Hp → Prop}, Q ((dcV t).map fun kv => (kV kv.1, kv.2)) H → tPairs (dcT t) σ H Q
 | [], _, _, h => h
 | p :: t, H, Q, h => by
  show tPairs (dcT t) σ H fun ps H3 => Q ((V.str p.1, V.str p.2) :: ps) H3
  exact pairs_dc h
theorem merge_dc : ∀ (t : List (Str × Str)) (kvs : List (Key × V)), ((kvs.map (·.1)) ++ (dcV t).map (·.1)).Nodup → mergeK kvs (dcV t) = kvs ++ dcV t
 | [], kvs, _ => by show kvs = kvs ++ []; rw [List.append_nil]
 | p :: t, kvs, h => by
  show mergeK (putK kvs (.inr p.1) (.str p.2)) (dcV t) = _
  have hn : (.inr p.1 : Key) ∉ kvs.map (·.1) := by
   intro z
   have := (List.nodup_append.mp h).2.2 _ z (.inr p.1) (by show _ ∈ ((.inr p.1, .str p.2) :: dcV t).map (·.1); simp)
   exact this rfl
  have e : putK kvs (.inr p.1) (.str p.2) = kvs ++ [(.inr p.1, .str p.2)] := by
   unfold putK
   rw [if_neg]
   intro z
   obtain ⟨kv, h1, h2⟩ := List.any_eq_true.mp z
   exact hn (List.mem_map.mpr ⟨kv, h1, of_decide_eq_true h2⟩)
  rw [e, merge_dc t _ (by
   rw [List.map_append, List.append_assoc]
   exact h), List.append_assoc]
  rfl
theorem vdk_dc {G : Cg} {S : Rho} {H : Hp} : ∀ t : List (Str × Str), VDk G S H (dcD t) (dcV t)
 | [] => .nil
 | p :: t => .cons (.str _) (vdk_dc t)
theorem e_dcl {X : Cx} {G : Cf} {W : WX} {t : List (Str × Str)} {ks : List (Option Expr)} {vs : List Expr} {pos : Pos} (hc : chDc t ks vs = true) (h0 : t ≠ []) (h15 : t.length ≤ 15) (nd : (t.map (·.1)).Nodup) :
  PE X (.Dict ks vs pos) (tE G W (dDcl t)) := by
 obtain ⟨q1, q2, q3, q4⟩ := pps_dc (X := X) (pos := pos) hc
 refine PE.imp (pe_disp q1 q2 q3 (fun z => h0 (List.eq_nil_of_length_eq_zero (by rw [← q4, z]; rfl))) (by omega)) fun σ H Q ⟨S, h, e, R, E, P⟩ p hp => pairs_dc ⟨upd_same, dcV t, rfl, by unfold dcV; rw [List.length_map]; exact h15, ?_⟩
 have nd2 : ((([] : List (Key × V)).map (·.1)) ++ (dcV t).map (·.1)).Nodup := by
  show ((dcV t).map (·.1)).Nodup
  unfold dcV
  rw [List.map_map]
  have : ((fun x : Key × V => x.1) ∘ fun p : Str × Str => ((.inr p.1 : Key), V.str p.2)) = (fun z : Str => (.inr z : Key)) ∘ fun p : Str × Str => p.1 := rfl
  rw [this, ← List.map_map]
  exact List.Pairwise.map _ (fun a b hab hz => hab (Sum.inr.inj hz)) nd
 rw [merge_dc t [] nd2, List.nil_append]
 obtain ⟨n, r, x⟩ := new_dct (l := dcD t) (vs := dcV t) R (vdk_dc t) hp
 have e2 : upd (upd H p (.dK [])) p (.dK (dcV t)) = upd H p (.dK (dcV t)) := by
  funext q
  unfold upd
  split <;> rfl
 rw [e2]
 exact P _ _ _ n r x
end Sb
namespace Sb
open L2 PySem PySem.Spec PyProof.Rows
def Fresh0 (X : Cx) (d : Addr) : Prop := ∀ o' u', X.H_0 d ≠ some (.frz o' u')
def unlP (X : Cx) (Q : Hp → Prop) : Hp → Prop := fun H => Q H ∨ ∃ d od u, H d = some (.frz od u) ∧ Fresh0 X d ∧ Q (upd H d u)
def unlD (X : Cx) (D : Ends) : Ends := ⟨fun σ H => unlP X (D.nx σ) H, fun v H => unlP X (D.rt v) H, fun σ H => unlP X (D.bk σ) H, fun σ H => unlP X (D.ct σ) H⟩
theorem unl_inv {X : Cx} {pins : List (Addr × Obj)} {σ : L2.St} {H : Hp} {s : Shared} {Q : Hp → Prop} (I : Inv X pins σ H s) (q : unlP X Q H) : ∃ H', Inv X pins σ H' s ∧ Q H' := by
 rcases q with q | ⟨d, od, u, e, f, q⟩
 ·exact ⟨H, I, q⟩
 ·exact ⟨_, I.unlock e f, q⟩
theorem ps_unl {X : Cx} {st : Stmt} {t : TS} (h : PS X st t) : PS X st (fun D σ H => t (unlD X D) σ H) := by
 refine ⟨fun pins s σ H D I hw => ?_⟩
 refine thn (h.run pins s σ _ _ I hw) fun f s1 q => ?_
 cases f with
 | next => obtain ⟨σ', H', I2, q⟩ := q; obtain ⟨H2, I3, q⟩ := unl_inv I2 q; exact ⟨σ', H2, I3, q⟩
 | brk => obtain ⟨σ', H', I2, q⟩ := q; obtain ⟨H2, I3, q⟩ := unl_inv I2 q; exact ⟨σ', H2, I3, q⟩
 | cont => obtain ⟨σ', H', I2, q⟩ := q; obtain ⟨H2, I3, q⟩ := unl_inv I2 q; exact ⟨σ', H2, I3, q⟩
 | ret v => obtain ⟨x, σ', H', I2, r, q⟩ := q; obtain ⟨H2, I3, q⟩ := unl_inv I2 q; exact ⟨x, σ', H2, I3, r, q⟩
theorem pe_unl {X : Cx} {e : Expr} {t : TE} (h : PE X e t) : PE X e (fun σ H Q => t σ H fun v H' => unlP X (Q v) H') := by
 refine ⟨fun pins s σ H Q I hw => ?_⟩
 refine thn (h.run pins s σ H _ I hw) fun v s1 ⟨x, H1, I2, r, q⟩ => ?_
 obtain ⟨H2, I3, q⟩ := unl_inv I2 q
 exact ⟨x, H2, I3, r, q⟩
def tLkE (X : Cx) (td : TE) : TE := fun σ H Q => td σ H fun x H1 => ∃ d kvs, x = .ref d ∧
 ((H1 d = some (.dK kvs) ∧ ∀ od, Fresh0 X d → Q x (upd H1 d (.frz od (.dK kvs)))) ∨ ∃ od, H1 d = some (.frz od (.dK kvs)) ∧ Q x H1)
theorem pe_lk {X : Cx} {e : Expr} {td : TE} (he : PE X e td) : PE X e (tLkE X td) := by
 refine ⟨fun pins s σ H Q I h => thn (he.run pins s σ H _ I h) fun u s1 ⟨x, H1, I1, rx, d, kvs, ex, q⟩ => ?_⟩
 rcases q with ⟨e, q⟩ | ⟨od, e, q⟩
 ·obtain ⟨od, I2⟩ := I1.lock e trivial
  exact ⟨x, _, I2, rx, q od (I1.nofrz e trivial)⟩
 ·exact ⟨x, H1, I1, rx, q⟩
def tLk (X : Cx) (td : TE) (J : Addr → Obj → List (Key × V) → It) : TI := fun σ H R => td σ H fun x H1 => ∃ d kvs, x = .ref d ∧
 ((H1 d = some (.dK kvs) ∧ ∀ od, Fresh0 X d → R (J d od kvs) (upd H1 d (.frz od (.dK kvs)))) ∨ ∃ od, H1 d = some (.frz od (.dK kvs)) ∧ R (J d od kvs) H1)
theorem tE_mono {G : Cf} {W : WX} {f : F D} {σ : L2.St} {H : Hp} {Q Q' : VK} (h : tE G W f σ H Q) (m : ∀ v H, Q v H → Q' v H) : tE G W f σ H Q' := by
 obtain ⟨S, h, e, R, E, P⟩ := h
 exact ⟨S, h, e, R, E, P.imp m⟩
theorem lk_of {X : Cx} {G : Cf} {W : WX} {f : F D} {J : Addr → Obj → List (Key × V) → It} {σ : L2.St} {H : Hp} {R : It → Hp → Prop} {Q : VK} (h : tLk X (tE G W f) J σ H R) (m : ∀ d od kvs H, H d = some (.frz od (.dK kvs)) → R (J d od kvs) H → Q (.ref d) H) : tLkE X (tE G W f) σ H Q := by
 refine tE_mono h fun x H1 ⟨d, kvs, ex, q⟩ => ⟨d, kvs, ex, ?_⟩
 subst ex
 rcases q with ⟨e, q⟩ | ⟨od, e, q⟩
 ·exact .inl ⟨e, fun od fr => m d od kvs _ upd_same (q od fr)⟩
 ·exact .inr ⟨od, e, m d od kvs H1 e q⟩
section
variable {X : Cx} {G : Cf} {W : WX} {f : F D} {tg e : Expr} {apos cpos : Pos}
theorem pi_keysL (he : PE X e (tE G W f)) : PI X tg e (tLk X (tE G W f) Itk) :=
 Sb.PI.imp (pi_keys (pe_lk he)) fun _ _ _ h => lk_of h fun d od kvs _ e q => ⟨d, od, rfl, .inl ⟨kvs, e, q⟩⟩
theorem pi_valuesL (he : PE X e (tE G W f)) (hbase : attributeBase e "values" X.env (eval e X.env) = eval e X.env) (hline : (apos.endLine == cpos.line) = true) : PI X tg (.Call (.Attribute e "values" apos) [] [] cpos) (tLk X (tE G W f) Itd) :=
 Sb.PI.imp (pi_values (pe_lk he) hbase hline) fun _ _ _ h => lk_of h fun d od kvs _ e q => ⟨d, od, kvs, rfl, e, q⟩
theorem pi_itemsL {elts : List Expr} {kk : Nat} {tpos : Pos} (he : PE X e (tE G W f)) (hbase : attributeBase e "items" X.env (eval e X.env) = eval e X.env) (hline : (apos.endLine == cpos.line) = true) :
  PI X (.Tuple elts kk tpos) (.Call (.Attribute e "items" apos) [] [] cpos) (tLk X (tE G W f) Iti) :=
 Sb.PI.imp (pi_items (pe_lk he) hbase hline) fun _ _ _ h => lk_of h fun d od kvs _ e q => ⟨d, od, kvs, rfl, e, q⟩
theorem pi_keysML (he : PE X e (tE G W f)) (hbase : attributeBase e "keys" X.env (eval e X.env) = eval e X.env) (hline : (apos.endLine == cpos.line) = true) : PI X tg (.Call (.Attribute e "keys" apos) [] [] cpos) (tLk X (tE G W f) Itk) :=
 Sb.PI.imp (pi_keysM (pe_lk he) hbase hline) fun _ _ _ h => lk_of h fun d od kvs _ e q => ⟨d, od, kvs, rfl, e, q⟩
end
section
variable {G : Cg} {S S1 : Rho} {H H1 : Hp} {h : Hh} {a : Addr} {od : Obj} {vs : List (Key × V)}
structure Lk (H H' : Hp) (a : Addr) (od : Obj) (vs : List (Key × V)) : Prop where
 ne : ∀ b, b ≠ a → H' b = H b
 at_ : H a = some (.dK vs) ∨ H a = some (.frz od (.dK vs))
 at' : H' a = some (.dK vs) ∨ H' a = some (.frz od (.dK vs))
theorem Lk.seqT {H H' : Hp} (L : Lk H H' a od vs) {K : PySem.W.Frag} {b : Addr} {xs : List V} (q : SqT K H b xs) : SqT K H' b xs := by
 rcases q with (q | ⟨o, q⟩) | q
 ·refine .inl (.inl ?_)
  rw [L.ne b (fun z => by rw [z] at q; rcases L.at_ with e | e <;> rw [e] at q <;> cases q)]; exact q
 ·refine .inl (.inr ⟨o, ?_⟩)
  rw [L.ne b (fun z => by rw [z] at q; rcases L.at_ with e | e <;> rw [e] at q <;> cases q)]; exact q
 ·exact .inr q
theorem Lk.seqF {H H' : Hp} (L : Lk H H' a od vs) {K : PySem.W.Frag} {b : Addr} {xs : List V} (q : SqF K H b xs) : SqF K H' b xs := by
 rcases q with ⟨o, q⟩ | q
 ·refine .inl ⟨o, ?_⟩
  rw [L.ne b (fun z => by rw [z] at q; rcases L.at_ with e | e <;> rw [e] at q <;> cases q)]; exact q
 ·exact .inr q
theorem Lk.rd {H H' : Hp} (L : Lk H H' a od vs) {b : Addr} {ws : List (Key × V)} (q : Rd H b (.dK ws)) : Rd H' b (.dK ws) := by
 by_cases z : b = a
 ·subst z
  have e : ws = vs := by
   rcases q with q | ⟨o, q⟩ <;> rcases L.at_ with e | e <;> rw [e] at q <;> cases q <;> rfl
  subst e
  rcases L.at' with e | e
  ·exact .inl e
  ·exact .inr ⟨_, e⟩
 ·rcases q with q | ⟨o, q⟩
  ·exact .inl (by rw [L.ne b z]; exact q)
  ·exact .inr ⟨o, by rw [L.ne b z]; exact q⟩
theorem Lk.other {H H' : Hp} (L : Lk H H' a od vs) {b : Addr} {u : HO} (q : H b = some u) (n1 : ∀ ws, u ≠ .dK ws) (n2 : ∀ o w, u ≠ .frz o w) : H' b = some u := by
 rw [L.ne b (fun z => by rw [z] at q; rcases L.at_ with e | e <;> rw [e] at q <;> cases q <;> first | exact n1 _ rfl | exact n2 _ _ rfl)]; exact q
theorem Lk.there {H H' : Hp} (L : Lk H H' a od vs) {b : Addr} (q : H b ≠ none) : H' b ≠ none := by
 by_cases z : b = a
 ·subst z; rcases L.at' with e | e <;> rw [e] <;> simp
 ·rw [L.ne b z]; exact q
theorem Lk.back {H H' : Hp} (L : Lk H H' a od vs) {b : Addr} (q : H' b = none) : H b = none := by
 by_cases z : b = a
 ·subst z; rcases L.at' with e | e <;> rw [e] at q <;> cases q
 ·rw [← L.ne b z]; exact q
theorem lk_lock (e : H a = some (.dK vs)) : Lk H (upd H a (.frz od (.dK vs))) a od vs := ⟨fun b z => upd_ne z, .inl e, .inr upd_same⟩
theorem lk_unl (e : H a = some (.frz od (.dK vs))) : Lk H (upd H a (.dK vs)) a od vs := ⟨fun b z => upd_ne z, .inr e, .inl upd_same⟩
mutual
theorem VD.lk {H H' : Hp} (L : Lk H H' a od vs) : ∀ {d : D} {v : V}, VD G S H d v → VD G S H' d v
 | _, _, .non => .non
 | _, _, .bl b => .bl b
 | _, _, .int b => .int b
 | _, _, .str b => .str b
 | _, _, .tup q r => .tup (L.seqT q) (VDs.lk L r)
 | _, _, .scr q => .scr (L.seqF q)
 | _, _, .lst q n r => .lst (L.other q (fun _ z => by cases z) (fun _ _ z => by cases z)) n (VDs.lk L r)
 | _, _, .dct q n r => .dct (L.rd q) n (VDk.lk L r)
 | _, _, .ins q n r => .ins (L.other q (fun _ z => by cases z) (fun _ _ z => by cases z)) n (VDf.lk L r)
 | _, _, .ref hi => .ref hi
theorem VDs.lk {H H' : Hp} (L : Lk H H' a od vs) : ∀ {d : List D} {v : List V}, VDs G S H d v → VDs G S H' d v
 | _, _, .nil => .nil
 | _, _, .cons q r => .cons (VD.lk L q) (VDs.lk L r)
theorem VDk.lk {H H' : Hp} (L : Lk H H' a od vs) : ∀ {d : List (Key × D)} {v : List (Key × V)}, VDk G S H d v → VDk G S H' d v
 | _, _, .nil => .nil
 | _, _, .cons q r => .cons (VD.lk L q) (VDk.lk L r)
theorem VDf.lk {H H' : Hp} (L : Lk H H' a od vs) : ∀ {d : List (Str × D)} {v : List (Str × V)}, VDf G S H d v → VDf G S H' d v
 | _, _, .nil => .nil
 | _, _, .cons q r => .cons (VD.lk L q) (VDf.lk L r)
end
theorem EnR.lk {G : Cf} {H H' : Hp} {e : En} {σ : L2.St} (L : Lk H H' a od vs) (E : EnR G S H e σ) : EnR G S H' e σ :=
 ⟨E.len, fun i d h => let ⟨v, x, y⟩ := E.at_ i d h; ⟨v, x, y.lk L⟩, E.cur⟩
theorem OD.lk {H H' : Hp} (L : Lk H H' a od vs) {b : Addr} (hb : b ≠ a) {o : O} (x : OD G S H b o) : OD G S H' b o := by
 have e := L.ne b hb
 cases x with
 | lst q v => exact .lst (by rw [e]; exact q) (v.lk L)
 | dct q v => exact .dct (by rw [e]; exact q) (v.lk L)
 | ins q v => exact .ins (by rw [e]; exact q) (v.lk L)
 | lckL q v => exact .lckL (by rw [e]; exact q) (v.lk L)
 | lckD q v => exact .lckD (by rw [e]; exact q) (v.lk L)
 | dkn q v a b c d => exact .dkn (by rw [e]; exact q) (fun x hx => ⟨(v x hx).1.to fun _ _ z => L.seqT z, (v x hx).2⟩) a b c d
theorem Rel.lk {H H' : Hp} (L : Lk H H' a od vs) (nb : ¬ S.B a) (R : Rel G S h H) : Rel G S h H' :=
 ⟨R.len, R.bad, R.inj, fun b z => L.there (R.live b z), fun i o e => (R.obj i o e).lk L fun z => nb (z ▸ R.bad i (by rw [← R.len]; exact (List.getElem?_eq_some_iff.mp e).1))⟩
theorem Rel.lkI {H H' : Hp} {i : Nat} {o : O} (L : Lk H H' (S.r i) od vs) (hi : i < S.n) (R : Rel G S h H) (ho : OD G S H' (S.r i) o) : Rel G S (h.set i o) H' where
 len := by rw [List.length_set]; exact R.len
 bad := R.bad
 inj := R.inj
 live := fun b z => L.there (R.live b z)
 obj := fun j q e => by
  by_cases z : j = i
  ·subst z
   rw [List.getElem?_set_self (by rw [R.len]; exact hi)] at e
   cases e
   exact ho
  ·rw [List.getElem?_set_ne (fun y => z y.symm)] at e
   have hj : j < S.n := by rw [← R.len]; exact (List.getElem?_eq_some_iff.mp e).1
   exact (R.obj j q e).lk L fun y => z (R.inj j i hj hi y)
theorem Nx.unl {S1 S2 : Rho} {H1 H2 : Hp} (e : H1 a = some (.dK vs)) (N : Nx G S1 (upd H1 a (.frz od (.dK vs))) S2 H2) : Nx G S1 H1 S2 (upd H2 a (.dK vs)) := by
 have L1 : Lk H1 (upd H1 a (.frz od (.dK vs))) a od vs := lk_lock e
 have e2 : H2 a = some (.frz od (.dK vs)) := N.frz a od _ upd_same
 have L2 : Lk H2 (upd H2 a (.dK vs)) a od vs := lk_unl e2
 have ne : ∀ {b : Addr}, H1 b = none → b ≠ a := fun z y => by rw [y, e] at z; cases z
 exact ⟨N.n, N.r, fun i h1 h2 => L1.back (N.new i h1 h2), N.up, fun b z => (N.dn b z).imp_right L1.back, fun b u n q => by
  by_cases z : b = a
  ·subst z; rw [e] at q; cases q; exact upd_same
  ·rw [upd_ne z]; exact N.keep b u n (by rw [upd_ne z]; exact q), fun b q => L2.there (N.there b (L1.there q)), fun b xs q => L2.seqT (N.seqT b xs (L1.seqT q)), fun b xs q => L2.seqF (N.seqF b xs (L1.seqF q)), fun b o u q => by
  have z : b ≠ a := fun y => by rw [y, e] at q; cases q
  rw [upd_ne z]; exact N.frz b o u (by rw [upd_ne z]; exact q)⟩
end
inductive Dw where
 | ks | km | vs | its
 deriving DecidableEq
def itsD : Dw → List (Key × D) → List D
 | .ks, l => l.map fun p => kD p.1
 | .km, l => l.map fun p => kD p.1
 | .vs, l => l.map (·.2)
 | .its, l => l.map fun p => .tup [kD p.1, p.2]
def Dw.J (K : PySem.W.Frag) : Dw → Addr → Obj → List (Key × V) → It
 | .ks => Itk
 | .km => Itk
 | .vs => Itd
 | .its => Iti
def lkK (h : Hh) : D → Option (List (Key × D))
 | .dct l => some l
 | .ref i => match h[i]? with
  | some (.lck (.dct l)) => some l
  | _ => none
 | _ => none
def dwAt (w : Dw) (d : D) : Hh → Nat → Option (Option D) := fun h i => match lkK h d with
 | some l => some (itsD w l)[i]?
 | none => none
theorem kD_at {G : Cg} {S : Rho} {H : Hp} (k : Key) : VD G S H (kD k) (kV k) := by
 cases k with
 | inl n => exact .int n
 | inr s => exact .str s
theorem VDk.get {G : Cg} {S : Rho} {H : Hp} : ∀ {l : List (Key × D)} {vs : List (Key × V)} (i : Nat), VDk G S H l vs → (l[i]? = none ∧ vs.length ≤ i) ∨ ∃ k d v, l[i]? = some (k, d) ∧ vs[i]? = some (k, v) ∧ VD G S H d v
 | _, _, i, .nil => .inl ⟨rfl, Nat.zero_le _⟩
 | _, _, 0, .cons a _ => .inr ⟨_, _, _, rfl, rfl, a⟩
 | _, _, i + 1, .cons _ t => by
  rcases VDk.get i t with ⟨q1, q2⟩ | ⟨k, d, v, q1, q2, q3⟩
  ·exact .inl ⟨by simpa using q1, by simpa using q2⟩
  ·exact .inr ⟨k, d, v, by simpa using q1, by simpa using q2, q3⟩
theorem itsD_none {l : List (Key × D)} {i : Nat} (w : Dw) (h : l[i]? = none) : (itsD w l)[i]? = none := by
 cases w <;> simp only [itsD, List.getElem?_map, h, Option.map_none]
theorem dw_turn {G : Cg} {S : Rho} {H : Hp} {h : Hh} {w : Dw} {K : PySem.W.Frag} {a : Addr} {od : Obj} {l : List (Key × D)} {vs : List (Key × V)} (R : Rel G S h H) (e : H a = some (.frz od (.dK vs))) (r : VDk G S H l vs) (i : Nat) :
  ((itsD w l)[i]? = none → (w.J K a od vs).stop i H) ∧ ∀ d, (itsD w l)[i]? = some d → (w.J K a od vs).go i H ∧ ∀ x H', (w.J K a od vs).yld i H x H' → Nx G S H S H' ∧ Rel G S h H' ∧ VD G S H' d x := by
 rcases r.get i with ⟨q1, q2⟩ | ⟨k, d, v, q1, q2, q3⟩
 ·refine ⟨fun _ => by cases w <;> exact ⟨e, q2⟩, fun d z => by rw [itsD_none w q1] at z; cases z⟩
 ·have hl : i < vs.length := (List.getElem?_eq_some_iff.mp q2).1
  refine ⟨fun z => ?_, fun d' z => ⟨by cases w <;> exact ⟨e, hl⟩, fun x H' y => ?_⟩⟩
  ·cases w <;> simp only [itsD, List.getElem?_map, q1, Option.map_some] at z <;> cases z
  ·cases w with
   | ks =>
    simp only [itsD, List.getElem?_map, q1, Option.map_some, Option.some.injEq] at z
    subst z
    obtain ⟨rfl, k2, v2, e2, rfl⟩ := y
    rw [q2] at e2
    cases e2
    exact ⟨.refl, R, kD_at k⟩
   | km =>
    simp only [itsD, List.getElem?_map, q1, Option.map_some, Option.some.injEq] at z
    subst z
    obtain ⟨rfl, k2, v2, e2, rfl⟩ := y
    rw [q2] at e2
    cases e2
    exact ⟨.refl, R, kD_at k⟩
   | vs =>
    simp only [itsD, List.getElem?_map, q1, Option.map_some, Option.some.injEq] at z
    subst z
    obtain ⟨rfl, k2, e2⟩ := y
    rw [q2] at e2
    cases e2
    exact ⟨.refl, R, q3⟩
   | its =>
    simp only [itsD, List.getElem?_map, q1, Option.map_some, Option.some.injEq] at z
    subst z
    obtain ⟨T, k2, v2, e2, rfl, hT, rfl⟩ := y
    rw [q2] at e2
    cases e2
    exact new_tup R (.cons (kD_at k) (.cons q3 .nil)) hT
theorem walks_dw {G : Cg} {S : Rho} {H : Hp} {w : Dw} {K : PySem.W.Frag} {a : Addr} {od : Obj} {d : D} {vs : List (Key × V)} (bad : ∀ i, i < S.n → S.B (S.r i)) (e : H a = some (.frz od (.dK vs))) (x : VD G S H d (.ref a)) : Walks G (w.J K a od vs) (dwAt w d) S H := fun S' h H' i N R => by
 have e' := N.frz a od _ e
 have x' := x.mono N bad
 unfold dwAt
 cases q : lkK h d with
 | none => exact ⟨fun z => (by cases z), fun d z => (by cases z)⟩
 | some l =>
  have r : VDk G S' H' l vs := by
   cases x' with
   | dct q1 q2 q3 =>
    cases q
    rcases q1 with q1 | ⟨o, q1⟩
    ·rw [e'] at q1; cases q1
    ·rw [e'] at q1; cases q1; exact q3
   | @ref j hj =>
    have q' : (match h[j]? with | some (.lck (.dct l)) => some l | _ => none) = some l := q
    split at q'
    ·rename_i l' ql
     cases q'
     cases R.obj j _ ql with
     | lckD q1 q2 => rw [e'] at q1; cases q1; exact q2
    ·cases q'
   | _ => cases q
  obtain ⟨t1, t2⟩ := dw_turn (w := w) (K := K) R e' r i
  exact ⟨fun z => t1 (Option.some.inj z), fun d z => t2 d (Option.some.inj z)⟩
theorem for_core {G : Cf} {W : WX} {S1 : Rho} {H1 : Hp} {h1 : Hh} {e1 : En} {σ : L2.St} {J : It} {at_ : Hh → Nat → Option (Option D)} {g : Tg} {b : FS} {n : Nat} {Z : Ends} (w : Walks G J at_ S1 H1) (R1 : Rel G S1 h1 H1) (E1 : EnR G S1 H1 e1 σ) (P1 : PstS G W S1 H1 (forS at_ g b n 0 e1 h1) Z) :
  ∃ W' : Nat → Nat → L2.St → Hp → Prop, (∃ m, W' 0 m σ H1) ∧ ∀ i m σ H, W' i m σ H →
   (J.stop i H ∧ Z.nx σ H) ∨ (J.go i H ∧ ∃ N : L2.St → Hp → Prop, (∀ σ' H', N σ' H' → ∃ m', m' < m ∧ W' (i + 1) m' σ' H') ∧ ∀ x H', J.yld i H x H' → gT G g x σ H' fun σ2 H2 => tS G W b { Z with nx := N, ct := N, bk := Z.nx } σ2 H2) := by
 refine ⟨fun i m σ H => ∃ S h e, Nx G S1 H1 S H ∧ Rel G S h H ∧ EnR G S H e σ ∧ PstS G W S H (forS at_ g b m i e h) Z, ⟨n, S1, h1, e1, .refl, R1, E1, P1⟩, ?_⟩
 rintro i m σ2 H2 ⟨S2, h2, e2, N2, R2, E2, P2⟩
 obtain ⟨w1, w2⟩ := w S2 h2 H2 i N2 R2
 unfold forS at P2
 split at P2
 ·rename_i q
  exact .inl ⟨w1 q, P2.next R2 E2⟩
 ·rename_i d q
  obtain ⟨g1, g2⟩ := w2 d q
  refine .inr ⟨g1, ?_⟩
  cases m with
  | zero => exact P2.elim
  | succ m =>
   simp only at P2
   split at P2
   ·rename_i e3 q3
    refine ⟨fun σ' H' => ∃ S h e, Nx G S1 H1 S H' ∧ Rel G S h H' ∧ EnR G S H' e σ' ∧ PstS G W S H' (forS at_ g b m (i + 1) e h) Z, fun σ' H' z => ⟨m, Nat.lt_succ_self m, z⟩, fun x H3 y => ?_⟩
    obtain ⟨N3, R3, x3⟩ := g2 x H3 y
    refine ⟨S2, h2, e2, d, e3, R3, E2.mono N3 R2.bad, x3, q3, fun σ4 E4 _ => ⟨S2, h2, e3, R3, E4, ?_⟩⟩
    have P3 := PstS.mono P2 N3
    cases q5 : b e3 h2 with
    | nx e5 h5 => rw [q5] at P3; exact fun S' H' σ' N R' E' => ⟨S', h5, e5, (N2.trans N3).trans N, R', E', PstS.mono (r := forS at_ g b m (i + 1) e5 h5) P3 N⟩
    | ct e5 h5 => rw [q5] at P3; exact fun S' H' σ' N R' E' => ⟨S', h5, e5, (N2.trans N3).trans N, R', E', PstS.mono (r := forS at_ g b m (i + 1) e5 h5) P3 N⟩
    | bk e5 h5 => rw [q5] at P3; exact P3
    | rt _ _ => rw [q5] at P3; exact P3
    | exc _ _ _ _ => rw [q5] at P3; exact P3
    | fail => rw [q5] at P3; exact P3
   ·exact P2.elim
 ·exact P2.elim
theorem tS_W0 {G : Cf} {W : WX} {b : FS} {Z : Ends} {σ : L2.St} {H : Hp} (h : tS G W0 b Z σ H) : tS G W b Z σ H := by
 obtain ⟨S, h, e, R, E, P⟩ := h
 refine ⟨S, h, e, R, E, ?_⟩
 cases q : b e h with
 | exc c fs e1 h1 =>
  rw [q] at P
  exact fun S' H' σ' d N R' E' x => (P S' H' σ' d N R' E' x).elim
 | nx e1 h1 => rw [q] at P; exact P
 | rt d h1 => rw [q] at P; exact P
 | bk e1 h1 => rw [q] at P; exact P
 | ct e1 h1 => rw [q] at P; exact P
 | fail => rw [q] at P; exact P
def unlR (i : Nat) (l : List (Key × D)) : RS → RS
 | .nx e h => .nx e (h.set i (.dct l))
 | .rt d h => .rt d (h.set i (.dct l))
 | _ => .fail
def calR : RS → RS
 | .nx e h => .nx e h
 | .rt d h => .rt d h
 | _ => .fail
def forDw (w : Dw) (d : D) (g : Tg) (b : FS) (e : En) (h : Hh) : RS := match d with
 | .dct l => calR (forS (dwAt w d) g b l.length 0 e h)
 | .ref i => match h[i]? with
  | some (.dct l) => unlR i l (forS (dwAt w d) g b l.length 0 e (h.set i (.lck (.dct l))))
  | some (.lck (.dct l)) => calR (forS (dwAt w d) g b l.length 0 e h)
  | _ => .fail
 | _ => .fail
def sForD (w : Dw) (f : F D) (g : Tg) (b : FS) : FS := fun e h => (f e h).st e fun d h1 => forDw w d g b e h1
theorem cal_W0 {G : Cf} {W : WX} {S : Rho} {H : Hp} {r : RS} {Z : Ends} (P : PstS G W S H (calR r) Z) : PstS G W0 S H r Z := by
 cases r with
 | nx e h => exact P
 | rt d h => exact P
 | _ => exact P.elim
theorem PstS.ends {G : Cf} {W : WX} {S : Rho} {H : Hp} {r : RS} {Z Z' : Ends} (P : PstS G W S H r Z) (h1 : ∀ σ H, Z.nx σ H → Z'.nx σ H) (h2 : ∀ v H, Z.rt v H → Z'.rt v H) (h3 : ∀ σ H, Z.bk σ H → Z'.bk σ H) (h4 : ∀ σ H, Z.ct σ H → Z'.ct σ H) : PstS G W S H r Z' := by
 cases r with
 | nx e h => exact fun S' H' σ' N R E => h1 _ _ (P S' H' σ' N R E)
 | rt d h => exact fun S' H' v N R x => h2 _ _ (P S' H' v N R x)
 | bk e h => exact fun S' H' σ' N R E => h3 _ _ (P S' H' σ' N R E)
 | ct e h => exact fun S' H' σ' N R E => h4 _ _ (P S' H' σ' N R E)
 | exc c fs e h => exact P
 | fail => exact P
theorem unl_ends {G : Cf} {W : WX} {X : Cx} {S : Rho} {H : Hp} {r : RS} {Z : Ends} (P : PstS G W S H r Z) : PstS G W S H r (unlD X Z) := P.ends (fun _ _ => .inl) (fun _ _ => .inl) (fun _ _ => .inl) (fun _ _ => .inl)
theorem unlR_ends {G : Cf} {W : WX} {X : Cx} {S1 : Rho} {H1 : Hp} {a : Addr} {od : Obj} {vs : List (Key × V)} {i : Nat} {l : List (Key × D)} {r : RS} {Z : Ends} (hi : i < S1.n) (ha : S1.r i = a) (e : H1 a = some (.dK vs)) (rl : VDk G S1 H1 l vs) (bad : ∀ i, i < S1.n → S1.B (S1.r i)) (f : Fresh0 X a) (P : PstS G W S1 H1 (unlR i l r) Z) : PstS G W0 S1 (upd H1 a (.frz od (.dK vs))) r (unlD X Z) := by
 subst ha
 have key : ∀ S' H' h', Nx G S1 (upd H1 (S1.r i) (.frz od (.dK vs))) S' H' → Rel G S' h' H' → H' (S1.r i) = some (.frz od (.dK vs)) ∧ Lk H' (upd H' (S1.r i) (.dK vs)) (S1.r i) od vs ∧ Nx G S1 H1 S' (upd H' (S1.r i) (.dK vs)) ∧ Rel G S' (h'.set i (.dct l)) (upd H' (S1.r i) (.dK vs)) := fun S' H' h' N R => by
  have e2 : H' (S1.r i) = some (.frz od (.dK vs)) := N.frz _ od _ upd_same
  have N2 := N.unl e
  have L := lk_unl (a := S1.r i) e2
  refine ⟨e2, L, N2, ?_⟩
  have hr := N.r i hi
  have hi' : i < S'.n := Nat.lt_of_lt_of_le hi N.n
  have L' : Lk H' (upd H' (S1.r i) (.dK vs)) (S'.r i) od vs := by rw [hr]; exact L
  refine Rel.lkI L' hi' R ?_
  rw [hr]
  exact .dct upd_same (rl.mono N2 bad)
 cases r with
 | nx e1 h1 =>
  intro S' H' σ' N R E
  obtain ⟨e2, L, N2, R2⟩ := key S' H' h1 N R
  exact .inr ⟨S1.r i, od, .dK vs, e2, f, P S' _ σ' N2 R2 (E.lk L)⟩
 | rt d h1 =>
  intro S' H' v N R x
  obtain ⟨e2, L, N2, R2⟩ := key S' H' h1 N R
  exact .inr ⟨S1.r i, od, .dK vs, e2, f, P S' _ v N2 R2 (x.lk L)⟩
 | _ => exact P.elim
theorem calR_ends {G : Cf} {W : WX} {X : Cx} {S1 : Rho} {H1 : Hp} {a : Addr} {od : Obj} {vs : List (Key × V)} {r : RS} {Z : Ends} (nb : ¬ S1.B a) (e : H1 a = some (.dK vs)) (f : Fresh0 X a) (P : PstS G W S1 H1 (calR r) Z) : PstS G W0 S1 (upd H1 a (.frz od (.dK vs))) r (unlD X Z) := by
 have key : ∀ S' H' h', Nx G S1 (upd H1 a (.frz od (.dK vs))) S' H' → Rel G S' h' H' → H' a = some (.frz od (.dK vs)) ∧ Lk H' (upd H' a (.dK vs)) a od vs ∧ Nx G S1 H1 S' (upd H' a (.dK vs)) ∧ Rel G S' h' (upd H' a (.dK vs)) := fun S' H' h' N R => by
  have e2 : H' a = some (.frz od (.dK vs)) := N.frz _ od _ upd_same
  have L := lk_unl (a := a) e2
  exact ⟨e2, L, N.unl e, R.lk L (N.nb nb (by rw [upd_same]; simp))⟩
 cases r with
 | nx e1 h1 =>
  intro S' H' σ' N R E
  obtain ⟨e2, L, N2, R2⟩ := key S' H' h1 N R
  exact .inr ⟨a, od, .dK vs, e2, f, P S' _ σ' N2 R2 (E.lk L)⟩
 | rt d h1 =>
  intro S' H' v N R x
  obtain ⟨e2, L, N2, R2⟩ := key S' H' h1 N R
  exact .inr ⟨a, od, .dK vs, e2, f, P S' _ v N2 R2 (x.lk L)⟩
 | _ => exact P.elim
structure IterOk (X : Cx) (w : Dw) (tg a iter : Expr) : Prop where
 run : ∀ {G : Cf} {W : WX} {f : F D}, PE X a (tE G W f) → PI X tg iter (tLk X (tE G W f) (w.J X.K))
theorem gT_mono {G : Cf} {g : Tg} {x : V} {σ : L2.St} {H : Hp} {Q Q' : L2.St → Hp → Prop} (h : ∀ σ H, Q σ H → Q' σ H) (q : gT G g x σ H Q) : gT G g x σ H Q' := by
 obtain ⟨S, h0, e, d, e', R, E, r, b, k⟩ := q
 exact ⟨S, h0, e, d, e', R, E, r, b, fun σ' E' a => h _ _ (k σ' E' a)⟩
theorem s_forD {X : Cx} {G : Cf} {W : WX} {tg a iter : Expr} {body : List Stmt} {f : F D} {w : Dw} {g : Tg} {b : FS} {pos : Pos} (hc : X.calm = true) (hp : PassesOwn (model X.prog X.w) X.A X.env X.xe) (ha : PE X a (tE G W f)) (hi : IterOk X w tg a iter) (hg : PG X tg (gT G g)) (hb : PSs X body (tS G W b)) (hs : noSetT iter = true) :
  PS X (.For tg iter body [] pos) (tS G W (sForD w f g b)) :=
 PS.imp (ps_unl (ps_for hp hc (hi.run ha) hg hb (folded_of hs))) fun Z σ H ⟨S, h, e, R, E, P⟩ => by
  refine ⟨S, h, e, R, E, P.st R E fun d h1 S1 H1 v _ N1 R1 v1 P1 => ?_⟩
  have E1 := E.mono N1 R.bad
  have fin : ∀ (od : Obj) (vs : List (Key × V)) (ad : Addr) (h2 : Hh) (H2 : Hp) (n : Nat), H2 ad = some (.frz od (.dK vs)) → VD G S1 H2 d (.ref ad) → Rel G S1 h2 H2 → EnR G S1 H2 e σ → PstS G W0 S1 H2 (forS (dwAt w d) g b n 0 e h2) (unlD X Z) →
    ∃ W' : Nat → Nat → L2.St → Hp → Prop, (∃ m, W' 0 m σ H2) ∧ ∀ i m σ H, W' i m σ H → ((w.J X.K ad od vs).stop i H ∧ (unlD X Z).nx σ H) ∨ ((w.J X.K ad od vs).go i H ∧ ∃ N : L2.St → Hp → Prop, (∀ σ' H', N σ' H' → ∃ m', m' < m ∧ W' (i + 1) m' σ' H') ∧ ∀ x H', (w.J X.K ad od vs).yld i H x H' → gT G g x σ H' fun σ2 H2 => tS G W b { unlD X Z with nx := N, ct := N, bk := (unlD X Z).nx } σ2 H2) := fun od vs ad h2 H2 n e2 x2 R2 E2 P2 => by
   obtain ⟨W', w0, w1⟩ := for_core (walks_dw (w := w) (K := X.K) R2.bad e2 x2) R2 E2 P2
   refine ⟨W', w0, fun i m σ H w => ?_⟩
   rcases w1 i m σ H w with z | ⟨z, N, n1, n2⟩
   ·exact .inl z
   ·exact .inr ⟨z, N, n1, fun x H' y => gT_mono (fun _ _ => tS_W0) (n2 x H' y)⟩
  have P2 : PstS G W S1 H1 (forDw w d g b e h1) Z := P1
  clear P1
  cases v1 with
  | @dct l ad vs q nb r =>
   have P3 : PstS G W S1 H1 (calR (forS (dwAt w (.dct l)) g b l.length 0 e h1)) Z := P2
   refine ⟨ad, vs, rfl, ?_⟩
   rcases q with q | ⟨o, q⟩
   ·refine .inl ⟨q, fun od fr => ?_⟩
    have L := lk_lock (od := od) q
    exact fin od vs ad h1 _ l.length upd_same (.dct (.inr ⟨od, upd_same⟩) nb (r.lk L)) (R1.lk L nb) (E1.lk L) (calR_ends nb q fr P3)
   ·exact .inr ⟨o, q, fin o vs ad h1 H1 l.length q (.dct (.inr ⟨o, q⟩) nb r) R1 E1 (unl_ends (cal_W0 P3))⟩
  | @ref i hi2 =>
   have P3 : PstS G W S1 H1 (match h1[i]? with
    | some (.dct l) => unlR i l (forS (dwAt w (.ref i)) g b l.length 0 e (h1.set i (.lck (.dct l))))
    | some (.lck (.dct l)) => calR (forS (dwAt w (.ref i)) g b l.length 0 e h1)
    | _ => .fail) Z := P2
   split at P3
   ·rename_i l ql
    cases R1.obj i _ ql with
    | @dct _ vs q r =>
     refine ⟨S1.r i, vs, rfl, .inl ⟨q, fun od fr => ?_⟩⟩
     have L := lk_lock (od := od) q
     exact fin od vs _ _ _ l.length upd_same (.ref hi2) (Rel.lkI L hi2 R1 (.lckD upd_same (r.lk L))) (E1.lk L) (unlR_ends hi2 rfl q r R1.bad fr P3)
   ·rename_i l ql
    cases R1.obj i _ ql with
    | @lckD _ vs o q r =>
     exact ⟨S1.r i, vs, rfl, .inr ⟨o, q, fin o vs _ h1 H1 l.length q (.ref hi2) R1 E1 (unl_ends (cal_W0 P3))⟩⟩
   ·exact P3.elim
  | _ => exact P2.elim
theorem it_ks {X : Cx} {tg a : Expr} : IterOk X .ks tg a a := ⟨fun h => pi_keysL h⟩
theorem it_km {X : Cx} {tg a : Expr} {p q : Pos} (hb : okBase a = true) (hl : (p.endLine == q.line) = true) : IterOk X .km tg a (.Call (.Attribute a "keys" p) [] [] q) := ⟨fun h => pi_keysML h (base_of hb _ _ _) hl⟩
theorem it_vs {X : Cx} {tg a : Expr} {p q : Pos} (hb : okBase a = true) (hl : (p.endLine == q.line) = true) : IterOk X .vs tg a (.Call (.Attribute a "values" p) [] [] q) := ⟨fun h => pi_valuesL h (base_of hb _ _ _) hl⟩
theorem it_its {X : Cx} {es : List Expr} {kk : Nat} {tp : Pos} {a : Expr} {p q : Pos} (hb : okBase a = true) (hl : (p.endLine == q.line) = true) : IterOk X .its (.Tuple es kk tp) a (.Call (.Attribute a "items" p) [] [] q) := ⟨fun h => pi_itemsL h (base_of hb _ _ _) hl⟩
theorem lc_mid {G : Cf} {g : Tg} {t : F Bool} {f : F D} (hcu : G.cur = none) (vs : List Nat) (hsl : ∀ i ∈ slotsT g, i ∈ vs) {S1 : Rho} {H1 : Hp} {h1 h2 : Hh} {e : En} {σ : L2.St} {J : It} {at_ : Hh → Nat → Option (Option D)} {n : Nat} {l : List D} {p : Addr} {Q : VK}
  (w : Walks G J at_ S1 H1) (R1 : Rel G S1 h1 H1) (E1 : EnR G S1 H1 e σ) (hp : H1 p = none) (q : compS at_ g t f n 0 (wipeE e vs) h1 = some (l, h2)) (hn : n ≤ sizeLine) (fin : ∀ S' H', Nx G S1 H1 S' H' → Rel G S' h2 H' → VD G S' H' (.lst l) (.ref p) → Q (.ref p) H') :
  ∃ W : Nat → Nat → Hp → Prop, (∃ m, W 0 m (upd H1 p (.lst []))) ∧ ∀ i m H, W i m H →
   (J.stop i H ∧ Q (.ref p) H) ∨ (J.go i H ∧ ∃ Nx : Hp → Prop, (∀ H', Nx H' → ∃ m', m' < m ∧ W (i + 1) m' H') ∧ ∀ x H', J.yld i H x H' → gT G g x (wipe σ vs) H' fun σ2 H2 => wipe σ2 vs = wipe σ vs ∧ tT G W0 t σ2 H2 fun b H3 =>
    if b = true then tE G W0 f σ2 H3 fun y H4 => ∃ acc, H4 p = some (.lst acc) ∧ acc.length < sizeLine ∧ Nx (upd H4 p (.lst (acc ++ [y]))) else Nx H3) := by
 refine ⟨fun i m H => ∃ S4 h4 acc vacc l', Nx G S1 H1 S4 H ∧ Rel G S4 h4 H ∧ S4.B p ∧ (∀ i, i < S4.n → S4.r i ≠ p) ∧ H p = some (.lst vacc) ∧ VDs G S4 H acc vacc ∧ acc.length ≤ i ∧ i + m = n ∧
  compS at_ g t f m i (wipeE e vs) h4 = some (l', h2) ∧ l = acc ++ l', ⟨n, ?_⟩, ?_⟩
 ·
  have k := keeps_new (o := .lst []) hp
  have N2 : Nx G S1 H1 (S1.ban p) (upd H1 p (.lst [])) := ⟨Nat.le_refl _, fun _ _ => rfl, fun i a b => absurd b (Nat.not_lt.mpr a), fun _ z => .inl z, fun b z => z.elim .inl fun y => .inr (by rw [y]; exact hp), fun b u _ e => k b u e,
   (Nx.same (G := G) (S := S1) k).there, (Nx.same (G := G) (S := S1) k).seqT, (Nx.same (G := G) (S := S1) k).seqF, (Nx.same (G := G) (S := S1) k).frz⟩
  have ne : ∀ i, i < S1.n → S1.r i ≠ p := fun i hi z => R1.nb hp (z ▸ R1.bad i hi)
  refine ⟨S1.ban p, h1, [], [], l, N2, ⟨R1.len, fun i hi => .inl (R1.bad i hi), R1.inj, fun b z => ?_, fun i o q => (R1.obj i o q).mono N2 R1.bad fun u q => k _ u q⟩, .inr rfl, ne, upd_same, .nil, Nat.le_refl _, Nat.zero_add _, q, rfl⟩
  rcases z with z | z
  ·exact N2.there b (R1.live b z)
  ·rw [z, upd_same]; simp
 ·rintro i m H4 ⟨S4, h4, acc, vacc, l', N4, R4, hb, ne, hpl, va, la, im, q4, el⟩
  obtain ⟨w1, w2⟩ := w S4 h4 H4 i N4 R4
  unfold compS at q4
  split at q4
  ·
   rename_i qa
   cases q4
   refine .inl ⟨w1 qa, ?_⟩
   rw [List.append_nil] at el
   subst el
   have hB : ∀ b, (S4.unban p).B b → S4.B b := fun b z => z.1
   refine fin (S4.unban p) H4 ⟨N4.n, N4.r, N4.new, fun b z => ⟨N4.up b z, fun y => R1.live b z (by rw [y]; exact hp)⟩, fun b z => N4.dn b z.1, N4.keep, N4.there, N4.seqT, N4.seqF, N4.frz⟩
    ⟨R4.len, fun i hi => ⟨R4.bad i hi, ne i hi⟩, R4.inj, fun b z => R4.live b z.1, fun i o q => OD.lessB (S := S4) (S' := S4.unban p) rfl rfl hB (R4.obj i o q)⟩ (.lst hpl (fun z => z.2 rfl) (VDs.lessB (S := S4) (S' := S4.unban p) rfl rfl hB va))
  ·rename_i d qa
   obtain ⟨g1, g2⟩ := w2 d qa
   refine .inr ⟨g1, ?_⟩
   cases m with
   | zero => cases q4
   | succ m =>
    simp only at q4
    split at q4
    rotate_left
    ·cases q4
    rename_i e1 qb
    refine ⟨fun H' => ∃ S4 h4 acc vacc l', Nx G S1 H1 S4 H' ∧ Rel G S4 h4 H' ∧ S4.B p ∧ (∀ i, i < S4.n → S4.r i ≠ p) ∧ H' p = some (.lst vacc) ∧ VDs G S4 H' acc vacc ∧ acc.length ≤ i + 1 ∧ (i + 1) + m = n ∧
     compS at_ g t f m (i + 1) (wipeE e vs) h4 = some (l', h2) ∧ l = acc ++ l', fun H' z => ⟨m, Nat.lt_succ_self m, z⟩, fun x H5 y => ?_⟩
    obtain ⟨N5, R5, x5⟩ := g2 x H5 y
    have N05 := N4.trans N5
    have E5 : EnR G S4 H5 (wipeE e vs) (wipe σ vs) := (E1.mono N05 R1.bad).wipe hcu vs
    have stay : ∀ {S6 H6}, Nx G S4 H4 S6 H6 → S6.B p ∧ (∀ i, i < S6.n → S6.r i ≠ p) ∧ H6 p = some (.lst vacc) := fun {S6 H6} N => by
     refine ⟨N.up p hb, fun i hi z => ?_, N.keep p _ ne hpl⟩
     by_cases k : i < S4.n
     ·exact ne i k ((N.r i k).symm.trans z)
     ·have := N.new i (Nat.not_lt.mp k) hi
      rw [z, hpl] at this
      cases this
    refine ⟨S4, h4, wipeE e vs, d, e1, R5, E5, x5, qb, fun σ2 E6 A6 => ⟨?_, ?_⟩⟩
    ·exact (wipe_same ⟨A6.1, fun j hj => A6.2 j (fun z => hj (hsl j z))⟩).trans (wipe_wipe vs σ)
    refine ⟨S4, h4, e1, R5, E6, ?_⟩
    cases qt : t e1 h4 with
    | fail => rw [qt] at q4; cases q4
    | exc _ _ _ => rw [qt] at q4; cases q4
    | ok b h6 =>
     rw [qt] at q4
     simp only at q4
     intro S6 H6 b' N6 R6 eb
     subst eb
     have N46 := N5.trans N6
     cases b with
     | false =>
      obtain ⟨k1, k2, k3⟩ := stay N46
      exact ⟨S6, h6, acc, vacc, l', N4.trans N46, R6, k1, k2, k3, va.mono N46 R4.bad, by omega, by omega, q4, el⟩
     | true =>
      refine ⟨S6, h6, e1, R6, E6.mono N6 R5.bad, ?_⟩
      rw [if_pos rfl] at q4
      cases qf : f e1 h6 with
      | fail => rw [qf] at q4; cases q4
      | exc _ _ _ => rw [qf] at q4; cases q4
      | ok y7 h7 =>
       rw [qf] at q4
       simp only at q4
       intro S7 H7 v7 N7 R7 x7
       cases q8 : compS at_ g t f m (i + 1) (wipeE e vs) h7 with
       | none => rw [q8] at q4; cases q4
       | some z8 =>
        obtain ⟨l8, h8⟩ := z8
        rw [q8] at q4
        have N47 := N46.trans N7
        obtain ⟨k1, k2, k3⟩ := stay N47
        have va7 := va.mono N47 R4.bad
        have l1 := va7.length
        refine ⟨vacc, k3, by omega, S7, h7, acc ++ [y7], vacc ++ [v7], l8, (N4.trans N47).updB hp k3, R7.updB k1 k3 k2, k1, k2, upd_same, (va7.append (.cons x7 .nil)).updB k1 k3, by rw [List.length_append]; exact Nat.succ_le_succ la, by omega, ?_, ?_⟩
        ·cases q4; exact q8
        ·cases q4; rw [el, List.append_assoc]; rfl
  ·cases q4
def endDw (i : Nat) (l : List (Key × D)) : Option (List D × Hh) → R D
 | some (r, h) => .ok (.lst r) (h.set i (.dct l))
 | none => .fail
def endCw : Option (List D × Hh) → R D
 | some (r, h) => .ok (.lst r) h
 | none => .fail
def compDw (w : Dw) (d : D) (g : Tg) (t : F Bool) (f : F D) (vs : List Nat) (e : En) (h : Hh) : R D := match d with
 | .dct l => if fits l.length = true then endCw (compS (dwAt w d) g t f l.length 0 (wipeE e vs) h) else .fail
 | .ref i => match h[i]? with
  | some (.dct l) => if fits l.length = true then endDw i l (compS (dwAt w d) g t f l.length 0 (wipeE e vs) (h.set i (.lck (.dct l)))) else .fail
  | some (.lck (.dct l)) => if fits l.length = true then endCw (compS (dwAt w d) g t f l.length 0 (wipeE e vs) h) else .fail
  | _ => .fail
 | _ => .fail
def dCompD (w : Dw) (fs : F D) (g : Tg) (t : F Bool) (f : F D) (vs : List Nat) : F D := fun e h => (fs e h).bind fun d h1 => compDw w d g t f vs e h1
theorem e_lcD {X : Cx} {G : Cf} {W : WX} {elt tg a iter : Expr} {ifs : List Expr} {scope : Scope} {own : List (Str × Nat)} {pos : Pos} {fs : F D} {w : Dw} {g : Tg} {t : F Bool} {f : F D} (hc : X.calm = true) (hN : X.N.Nodup) (hcu : G.cur = none) (ha : PE X a (tE G W fs)) (hi : IterOk X w tg a iter) (ok : BlkOk X.N X.env.scope scope own) (hsl : ∀ i ∈ slotsT g, i ∈ own.map (·.2))
  (hg : ∀ (s : Shared) (H : Hp) (C : Addr) (cl : List (Str × Addr)) (fp : List Addr), PG (X.blk s H scope (compEnvC scope cl C X.env) fp) tg (gT G g)) (ht : ∀ (s : Shared) (H : Hp) (C : Addr) (cl : List (Str × Addr)) (fp : List Addr), PTs (X.blk s H scope (compEnvC scope cl C X.env) fp) ifs (tT G W0 t))
  (he : ∀ (s : Shared) (H : Hp) (C : Addr) (cl : List (Str × Addr)) (fp : List Addr), PE (X.blk s H scope (compEnvC scope cl C X.env) fp) elt (tE G W0 f)) (hs : noSetT iter = true) :
  PE X (.ListComp elt [⟨tg, iter, ifs, 0⟩] scope pos) (tE G W (dCompD w fs g t f (own.map (·.2)))) :=
 PE.imp (pe_unl (pe_lc hc hN (hi.run ha) ok hg ht he (folded_of hs))) fun σ H Q ⟨S, h, e, R, E, P⟩ => by
  refine ⟨S, h, e, R, E, P.bind fun d h1 S1 H1 v _ N1 R1 v1 P1 => ?_⟩
  have E1 := E.mono N1 R.bad
  have P2 : Pst G (fun c d H => W c d σ H) S1 H1 (relV G) (compDw w d g t f (own.map (·.2)) e h1) Q := P1
  clear P1
  cases v1 with
  | @dct l ad vs q nb r =>
   have P3 : Pst G (fun c d H => W c d σ H) S1 H1 (relV G) (if fits l.length = true then endCw (compS (dwAt w (.dct l)) g t f l.length 0 (wipeE e (own.map (·.2))) h1) else .fail) Q := P2
   refine ⟨ad, vs, rfl, ?_⟩
   by_cases c : fits l.length = true
   rotate_left
   ·rw [if_neg c] at P3; exact P3.elim
   rw [if_pos c] at P3
   cases qc : compS (dwAt w (.dct l)) g t f l.length 0 (wipeE e (own.map (·.2))) h1 with
   | none => rw [qc] at P3; exact P3.elim
   | some z =>
    obtain ⟨rr, h2⟩ := z
    rw [qc] at P3
    rcases q with q | ⟨o, q⟩
    ·refine .inl ⟨q, fun od fr p hp => ?_⟩
     have L := lk_lock (od := od) q
     have R2 := R1.lk L nb
     have x2 : VD G S1 (upd H1 ad (.frz od (.dK vs))) (.dct l) (.ref ad) := .dct (.inr ⟨od, upd_same⟩) nb (r.lk L)
     refine lc_mid (Q := fun v H' => unlP X (Q v) H') hcu _ hsl (walks_dw (w := w) (K := X.K) R2.bad upd_same x2) R2 (E1.lk L) hp qc (fits_ok c) fun S' H' N R' x' => ?_
     have e2 : H' ad = some (.frz od (.dK vs)) := N.frz _ od _ upd_same
     have L2 := lk_unl (a := ad) e2
     exact .inr ⟨ad, od, .dK vs, e2, fr, P3 S' _ _ (N.unl q) (R'.lk L2 (N.nb nb (by rw [upd_same]; simp))) (x'.lk L2)⟩
    ·refine .inr ⟨o, q, fun p hp => ?_⟩
     exact lc_mid (Q := fun v H' => unlP X (Q v) H') hcu _ hsl (walks_dw (w := w) (K := X.K) R1.bad q (.dct (.inr ⟨o, q⟩) nb r)) R1 E1 hp qc (fits_ok c) fun S' H' N R' x' => .inl (P3 S' _ _ N R' x')
  | @ref i hi2 =>
   have P3 : Pst G (fun c d H => W c d σ H) S1 H1 (relV G) (match h1[i]? with
    | some (.dct l) => if fits l.length = true then endDw i l (compS (dwAt w (.ref i)) g t f l.length 0 (wipeE e (own.map (·.2))) (h1.set i (.lck (.dct l)))) else .fail
    | some (.lck (.dct l)) => if fits l.length = true then endCw (compS (dwAt w (.ref i)) g t f l.length 0 (wipeE e (own.map (·.2))) h1) else .fail
    | _ => .fail) Q := P2
   split at P3
   ·rename_i l ql
    cases R1.obj i _ ql with
    | @dct _ vs q r =>
     refine ⟨S1.r i, vs, rfl, .inl ⟨q, fun od fr p hp => ?_⟩⟩
     by_cases c : fits l.length = true
     rotate_left
     ·rw [if_neg c] at P3; exact P3.elim
     rw [if_pos c] at P3
     cases qc : compS (dwAt w (.ref i)) g t f l.length 0 (wipeE e (own.map (·.2))) (h1.set i (.lck (.dct l))) with
     | none => rw [qc] at P3; exact P3.elim
     | some z =>
      obtain ⟨rr, h2⟩ := z
      rw [qc] at P3
      have L := lk_lock (od := od) q
      have R2 := Rel.lkI L hi2 R1 (.lckD upd_same (r.lk L))
      refine lc_mid (Q := fun v H' => unlP X (Q v) H') hcu _ hsl (walks_dw (w := w) (K := X.K) (d := .ref i) R2.bad upd_same (.ref hi2)) R2 (E1.lk L) hp qc (fits_ok c) fun S' H' N R' x' => ?_
      have e2 : H' (S1.r i) = some (.frz od (.dK vs)) := N.frz _ od _ upd_same
      have L2 := lk_unl (a := S1.r i) e2
      have hr := N.r i hi2
      have hi' : i < S'.n := Nat.lt_of_lt_of_le hi2 N.n
      have L' : Lk H' (upd H' (S1.r i) (.dK vs)) (S'.r i) od vs := by rw [hr]; exact L2
      have N2 := N.unl q
      have R3 : Rel G S' (h2.set i (.dct l)) (upd H' (S1.r i) (.dK vs)) := Rel.lkI L' hi' R' (by rw [hr]; exact .dct upd_same (r.mono N2 R1.bad))
      exact .inr ⟨S1.r i, od, .dK vs, e2, fr, P3 S' _ _ N2 R3 (x'.lk L2)⟩
   ·rename_i l ql
    cases R1.obj i _ ql with
    | @lckD _ vs o q r =>
     refine ⟨S1.r i, vs, rfl, .inr ⟨o, q, fun p hp => ?_⟩⟩
     by_cases c : fits l.length = true
     rotate_left
     ·rw [if_neg c] at P3; exact P3.elim
     rw [if_pos c] at P3
     cases qc : compS (dwAt w (.ref i)) g t f l.length 0 (wipeE e (own.map (·.2))) h1 with
     | none => rw [qc] at P3; exact P3.elim
     | some z =>
      obtain ⟨rr, h2⟩ := z
      rw [qc] at P3
      exact lc_mid (Q := fun v H' => unlP X (Q v) H') hcu _ hsl (walks_dw (w := w) (K := X.K) (d := .ref i) R1.bad q (.ref hi2)) R1 E1 hp qc (fits_ok c) fun S' H' N R' x' => .inl (P3 S' _ _ N R' x')
   ·exact P3.elim
  | _ => exact P2.elim
end Sb
namespace Sb
open L2 PySem PySem.Spec PyProof.Rows
abbrev setObj (w : World) : Obj := { cls := .type "set", dict := none, data := .set #[] 0 (.fresh 0 0 (!w.params.followText "set-order")) }
section
variable {P : Program} {w : World} {A : Around} {E : Value → Shared → Prop} {s : Shared}
theorem setListI {l : Addr} {xs : Array Value} (ns : List Int) {Q : Value → Shared → Prop} (hh : A.handled = none) (hl : s.heap.IsList l xs) (hit : IntsAre xs.toList ns) (hb : ns.length + 1 < scanBound)
  (h : ∀ (h' : Heap) (tk c : Nat), SetR w h' s.heap.objs.size (fun j => decide (j ∈ ns)) c → c ≤ ns.length → (∀ b o, s.heap.get? b = some o → h'.get? b = some o) → Q (.ref s.heap.objs.size) { s with heap := h', toks := tk }) :
  wpAny (model P w) A (call (.type "set") [.ref l]) Q E s := by
 have hz : xs.size = ns.length := by
  have q := IntsAre.length hit
  rwa [Array.length_toList] at q
 obtain ⟨c, tl, hmro⟩ := F.called_set.mro
 have hmade := F.called_set.made
 have hsub := F.called_set.sub
 refine wpAny_call (codeAny_of_tree ?_)
 show wpAny _ _ (callAny (.type "set") _) _ _ _
 refine wpAny_pure ⟨Code.quiet_builtin _ (by decide +kernel), codeAny_builtin F.entry_type_call ?_⟩
 rw [Around.under_plain (weight_type_call_type "set" [.ref l] []) rfl]
 have h1 := F.called_set.notType
 have h2 := F.called_set.canCreate
 have hct := F.typeCall_set_1 (.ref l)
 repeat (any_goals (first | assumption | wp_step))
 refine codeAny_mono (code_set_led1 (.ref l) (E := E) (Q₁ := fun obj s₁ => obj = .ref s.heap.objs.size ∧ s₁ = { s with heap := s.heap.push (setObj w) }) ⟨rfl, rfl⟩) fun r s₁ hr => ?_
 cases r with
 | error e => exact hr
 | ok fl =>
  cases fl with
  | ret obj =>
   obtain ⟨rfl, rfl⟩ := hr
   have hS : (s.heap.push (setObj w)).get? s.heap.objs.size = some (setObj w) := Heap.get?_push_size _ rfl
   have hT : Shared.TypeIs { s with heap := s.heap.push (setObj w) } (.ref s.heap.objs.size) "set" := ⟨_, hS, rfl⟩
   have hli := F.called_set.init.lookup
   have hbi := F.called_set.init.bind (.ref s.heap.objs.size)
   repeat (any_goals (first | assumption | wp_step))
   refine codeAny_mono (codeAny_call_builtin (R := wants (fun r s₂ => r = .none ∧ ∃ h' tk c, s₂ = { s with heap := h', toks := tk } ∧ SetR w h' s.heap.objs.size (fun j => decide (j ∈ ns)) c ∧ c ≤ ns.length ∧
     (∀ b o, s.heap.get? b = some o → h'.get? b = some o)) E) F.called_set.init.plain F.entry_set_init (check_set_init_1 hT ?_)) fun r₂ s₂ hr₂ => ?_
   ·obtain ⟨⟨ocls, odict, odata, oslots⟩, hol, hcl, nl, hdl⟩ := hl
    simp only at hcl hdl
    subst hcl; subst hdl
    have hol' : (s.heap.push (setObj w)).get? l = some { cls := .type "list", dict := odict, data := .seq xs nl, slots := oslots } := Heap.get?_push_of_some _ hol
    have hsls := F.sub_list_set
    have hslf := F.sub_list_frozenset
    have hne : (Value.type "list" == Value.type "dict") = false := by decide
    have hl1 : (s.heap.push (setObj w)).IsList l xs := ⟨_, hol', rfl, nl, rfl⟩
    unfold Builtin.«set.__init__» noKeywords Builtin.Frozenset.updateFrom
    generalize hPI : pyIter = PI
    wp_walk
    subst hPI
    refine wpAny_pyIter_list hl1 ?_
    refine wpAny_bind (wpAny_runValue ?_)
    have hlS : l < s.heap.objs.size := Heap.lt_size hol
    have hh3 : A.in1.in1.in1.handled = none := by simp [hh]
    have hz1 : (s.heap.push (setObj w)).objs.size = s.heap.objs.size + 1 := Heap.size_push ..
    have hneI : l ≠ (s.heap.push (setObj w)).objs.size := by
     rw [hz1]; exact Nat.ne_of_lt (Nat.lt_succ_of_lt hlS)
    have hSf : s.heap.objs.size ∉ [(s.heap.push (setObj w)).objs.size, l] := by
     simp only [List.mem_cons, List.not_mem_nil, or_false, not_or]
     exact ⟨by rw [hz1]; exact Nat.ne_of_lt (Nat.lt_succ_self _), Nat.ne_of_gt hlS⟩
    have hval : ∀ (i : Nat) (v : Value), xs[i]? = some v → ∃ k t, ns[i]? = some k ∧ v = .int k t := fun i v hv => by
     have hi : i < ns.length := by rw [← hz]; exact (Array.getElem?_eq_some_iff.mp hv).1
     obtain ⟨t, e⟩ := PyProof.Rows.IntsAre.int_at hit i v (by rw [Array.getElem?_toList]; exact hv)
     refine ⟨ns[i], t, List.getElem?_eq_getElem hi, ?_⟩
     rw [e, List.getD_eq_getElem?_getD, List.getElem?_eq_getElem hi] <;> rfl
    refine set_update_ints ((Walks.list hh3 _ l hneI xs).toS) s.heap.objs.size
     hSf ns hz hb hval (xs.size - 0) 0 _ (by omega) (Nat.zero_le _)
     ⟨⟨_, Heap.get?_push_size _ rfl, rfl, rfl⟩, (hl1.push _)⟩ ?hS0 ?hR
    case hS0 => exact ⟨0, Nat.le_refl 0, setR_new_at (Heap.get?_push_of_some _ hS)⟩
    case hR =>
     intro s' c' hm hc' hS'
     obtain ⟨h', g2, d', tk', os'⟩ := s'
     have eg : g2 = s.gens := hm.gens
     have ed : d' = s.drawn := hm.drawn
     have eo : os' = s.os := hm.os
     subst eg; subst ed; subst eo
     show wpAny _ _ _ _ _ _
     refine wpAny_pure ?_
     show wpAny _ _ (ret Value.none) _ _ _
     rw [hz] at hc'
     refine wpAny_pure ⟨rfl, h', tk', c', rfl, hS', hc', fun b o e => ?_⟩
     have hb0 : b < s.heap.objs.size := Heap.lt_size e
     exact hm.heap b o (by
      simp only [List.mem_cons, List.not_mem_nil, or_false, not_or]
      exact ⟨Nat.ne_of_lt hb0, by rw [hz1]; exact Nat.ne_of_lt (Nat.lt_succ_of_lt hb0)⟩) (Heap.get?_push_of_some _ (Heap.get?_push_of_some _ e))
   ·cases r₂ with
    | error e => exact hr₂
    | ok fl₂ =>
     cases fl₂ with
     | ret r =>
      obtain ⟨rfl, h', tk, c', rfl, hS', hc', hk'⟩ := hr₂
      repeat (any_goals (first | assumption | wp_step))
      exact h _ _ _ hS' hc' hk'
     | _ => exact hr₂.elim
  | _ => exact hr.elim
end
def rSetLI (w : World) (K : PySem.W.Frag) : List V → Hp → VK → Prop := fun xs H Q => ∃ (l : Addr) (ns : List Int), xs = [V.ref l] ∧ SqL K H l (ns.map V.int) ∧ ns.length < 64 ∧
 ∀ (a : Addr) (n : Nat), n ≤ ns.length → H a = none → Q (.ref a) (upd H a (SetO w a (fun j => decide (j ∈ ns)) n))
theorem cr_setLI {X : Cx} (hc : X.calm = true) : CallR X (.type "set") (rSetLI X.w X.K) := by
 intro pins s σ H xs us Q I r h
 obtain ⟨l, ns, rfl, hq, h64, q⟩ := h
 rw [Vals.ref1 r]
 obtain ⟨its, rv, pl, hz⟩ := I.list hq
 refine setListI ns (I.ok.hd hc) pl.isList (by simpa using rv.ints) (by unfold scanBound; omega) fun h' tk c hS hn hk => ?_
 exact ⟨.ref _, _, I.laid (t' := tk) hk (Nat.le_refl _) (setO_new hS), rfl, q _ c hn (I.hok.fresh (Nat.le_refl _))⟩
def insU (a : Int) : List Int → List Int
 | [] => [a]
 | b :: l => if a < b then a :: b :: l else if a = b then b :: l else b :: insU a l
def sortU (l : List Int) : List Int := l.foldr insU []
theorem mem_insU (a x : Int) : ∀ l : List Int, x ∈ insU a l ↔ x = a ∨ x ∈ l
 | [] => by simp [insU]
 | b :: l => by
  unfold insU
  split
  ·simp
  ·split
   ·rename_i h; subst h; simp
   ·rw [List.mem_cons, mem_insU a x l, List.mem_cons]
    constructor
    ·rintro (h | h | h)
     ·exact .inr (.inl h)
     ·exact .inl h
     ·exact .inr (.inr h)
    ·rintro (h | h | h)
     ·exact .inr (.inl h)
     ·exact .inl h
     ·exact .inr (.inr h)
theorem insU_lt (a : Int) : ∀ {l : List Int}, l.Pairwise (· < ·) → (insU a l).Pairwise (· < ·)
 | [], _ => by simp [insU]
 | b :: l, h => by
  rw [List.pairwise_cons] at h
  unfold insU
  split
  ·rename_i c
   refine List.pairwise_cons.mpr ⟨fun x hx => ?_, List.pairwise_cons.mpr h⟩
   rcases List.mem_cons.mp hx with rfl | hx
   ·exact c
   ·have := h.1 x hx; omega
  ·split
   ·exact List.pairwise_cons.mpr h
   ·refine List.pairwise_cons.mpr ⟨fun x hx => ?_, insU_lt a h.2⟩
    rcases (mem_insU a x l).mp hx with rfl | hx
    ·omega
    ·exact h.1 x hx
theorem mem_sortU (x : Int) : ∀ l : List Int, x ∈ sortU l ↔ x ∈ l
 | [] => Iff.rfl
 | a :: l => by
  show x ∈ insU a (sortU l) ↔ _
  rw [mem_insU, mem_sortU x l, List.mem_cons]
theorem sortU_lt : ∀ l : List Int, (sortU l).Pairwise (· < ·)
 | [] => List.Pairwise.nil
 | a :: l => insU_lt a (sortU_lt l)
theorem lt_ext : ∀ {l m : List Int}, l.Pairwise (· < ·) → m.Pairwise (· < ·) → (∀ x, x ∈ l ↔ x ∈ m) → l = m
 | [], [], _, _, _ => rfl
 | [], b :: m, _, _, h => by have := (h b).mpr List.mem_cons_self; cases this
 | a :: l, [], _, _, h => by have := (h a).mp List.mem_cons_self; cases this
 | a :: l, b :: m, hl, hm, h => by
  rw [List.pairwise_cons] at hl hm
  have e : a = b := by
   rcases List.mem_cons.mp ((h a).mp List.mem_cons_self) with z | z
   ·exact z
   ·rcases List.mem_cons.mp ((h b).mpr List.mem_cons_self) with y | y
    ·exact y.symm
    ·have := hm.1 a z
     have := hl.1 b y
     omega
  subst e
  congr 1
  refine lt_ext hl.2 hm.2 fun x => ⟨fun hx => ?_, fun hx => ?_⟩
  ·rcases List.mem_cons.mp ((h x).mp (List.mem_cons_of_mem _ hx)) with z | z
   ·have := hl.1 x hx; omega
   ·exact z
  ·rcases List.mem_cons.mp ((h x).mpr (List.mem_cons_of_mem _ hx)) with z | z
   ·have := hm.1 x hx; omega
   ·exact z
def opSst (h : Hh) (d : D) : Option D := match (asL h d).bind intsD with
 | some ns => if ns.length < 64 then some (.lst ((sortU ns).map .int)) else none
 | none => none
theorem e_sst {X : Cx} {G : Cf} {W : WX} {a : Expr} {f : F D} {p p2 q pos : Pos} (hK : G.K = X.K) (hc : X.calm = true) (hg : Gl X "sorted") (hm : X.mg "sorted" = none) (hg2 : Gl X "set") (hm2 : X.mg "set" = none) (ha : PE X a (tE G W f)) (hs : noStar a = true) :
  PE X (.Call (.Name "sorted" p) [.Call (.Name "set" p2) [a] [] q] [] pos) (tE G W (dU f opSst)) := by
 have inner := pe_callTy (X := X) (x := "set") (p := p2) (pos := q) (cr_setLI hc) hg2 hm2 boot_set (pa_cons ha pa_nil (star_of hs _ _)) (by decide) (by decide) (star_of hs _ _) (stars_of rfl)
 refine PE.imp (pe_callB (id := "sorted") (cr_sortedSet hc) hg hm (by decide +kernel) (pa_cons inner pa_nil (star_of rfl _ _)) (by decide) (by decide) (star_of rfl _ _) (stars_of rfl)) fun σ H Q ⟨S, h, e, R, E, P⟩ => ?_
 refine ⟨S, h, e, R, E, P.bind fun d h1 S1 H1 v _ N1 R1 v1 P1 => ?_⟩
 unfold opSst at P1
 split at P1
 ·rename_i ns en
  split at P1
  ·rename_i c
   obtain ⟨l, e1, e2⟩ := Option.bind_eq_some_iff.mp en
   obtain ⟨a0, vs, rfl, hq, r⟩ := asL_at R1 v1 e1
   have ev := intsD_at r e2
   subst ev
   rw [hK] at hq
   refine ⟨a0, ns, rfl, hq, c, fun s0 n hn hs0 => ⟨s0, _, n, rfl, upd_same, by omega, fun ns' p' hlt hmem hlen hp => ?_⟩⟩
   have e : ns' = sortU ns := lt_ext hlt (sortU_lt ns) fun x => by rw [hmem, mem_sortU]; simp
   subst e
   have N2 : Nx G S1 H1 S1 (upd H1 s0 (SetO X.w s0 (fun j => decide (j ∈ ns)) n)) := .same (keeps_new hs0)
   have R2 : Rel G S1 h1 (upd H1 s0 (SetO X.w s0 (fun j => decide (j ∈ ns)) n)) := R1.same (keeps_new hs0)
   obtain ⟨n1, r1, x1⟩ := new_lst R2 (VDs.ints (G := G) (S := S1) (H := upd H1 s0 (SetO X.w s0 (fun j => decide (j ∈ ns)) n)) (sortU ns)) hp
   exact P1 _ _ _ (N2.trans n1) r1 x1
  ·exact P1.elim
 ·exact P1.elim
def KvO (a d : Addr) : HO := .ext fun h => PySem.W.KdlKeysView h a d
theorem kvO_new {w : World} {P : Program} {H : Hp} {h : Heap} {a d : Addr} (k : PySem.W.KdlKeysView h a d) : ObjOk P w H h a (KvO a d) := by
 have ⟨o, ho, _, _⟩ := k
 exact ⟨k, ⟨o, ho⟩, fun h1 h2 ⟨o, ho, a, b⟩ hk => ⟨o, hk o ho, a, b⟩⟩
def tKv (te : TE) : TE := fun σ H Q => te σ H fun x H1 => ∃ d kvs, x = .ref d ∧ Rd H1 d (.dK kvs) ∧ ∀ v, H1 v = none → Q (.ref v) (upd H1 v (KvO v d))
theorem pe_keysV {X : Cx} {e : Expr} {te : TE} {apos cpos : Pos} (he : PE X e te) (hbase : attributeBase e "keys" X.env (eval e X.env) = eval e X.env) (hline : (apos.endLine == cpos.line) = true) : PE X (.Call (.Attribute e "keys" apos) [] [] cpos) (tKv te) := by
 refine ⟨fun pins s σ H Q I h => ?_⟩
 refine wpAny_Call_method (T := "dict") (id := "dict.keys") hbase rfl hline F.plainAttrs_dict F.slot_dict_keys F.type_dict_keys (thn (he.run pins s σ H _ I h) fun u s1 ⟨x, H1, I1, rx, d, kvs, ex, hd, q⟩ => ?_)
 subst ex
 obtain rfl : u = Value.ref d := rx
 obtain ⟨hz, lo, vs, kv, hm⟩ := dk_rd I1.hok hd
 refine ⟨hm.typeIs, hm.mapOf.noDict, ?_⟩
 have I2 : Inv X pins σ (upd H1 s1.heap.objs.size (KvO s1.heap.objs.size d)) { s1 with heap := s1.heap.push { cls := .type "dict_keys", data := .fields #[.ref d] } } :=
  I1.laid (t' := s1.toks) (fun b ob q => Heap.get?_push_of_some _ q) (Nat.le_refl _) (kvO_new ⟨_, Heap.get?_push_size _ rfl, rfl, rfl⟩)
 show wpAny _ _ (callWith cpos (.builtin "dict.keys") [.ref d] [] []) _ X.xe s1
 exact method_meetsIn F.slot_dict_keys F.entry_dict_keys rfl (PySem.evalArgs_none ⟨rfl, hm.typeIs, F.args_dict_keys_1 _, _, PySem.W.kdl_meets_keys (mixKind X.prog X.w) d lo, ⟨vs, hm⟩, ⟨.ref _, _, I2, rfl, q _ (I1.hok.fresh (Nat.le_refl _))⟩⟩)
theorem kvO_get {X : Cx} {pins : List (Addr × Obj)} {σ : L2.St} {H : Hp} {s : Shared} {a d : Addr} (I : Inv X pins σ H s) (ha : H a = some (KvO a d)) : PySem.W.KdlKeysView s.heap a d := (I.hok a _ ha).1
def rListKv : List V → Hp → VK → Prop := fun xs H Q => ∃ v d kvs, xs = [.ref v] ∧ H v = some (KvO v d) ∧ Rd H d (.dK kvs) ∧ ∀ q, H q = none → Q (.ref q) (upd H q (.lst (kvs.map fun kv => kV kv.1)))
theorem cr_listKv {X : Cx} (hc : X.calm = true) : CallR X (.type "list") rListKv := by
 intro pins s σ H xs us Q I r h
 obtain ⟨v, d, kvs, rfl, hv, hk, q⟩ := h
 rw [Vals.ref1 r]
 have kv := kvO_get I hv
 obtain ⟨z, lo, vs, rk, hd⟩ := dk_rd I.hok hk
 obtain ⟨ep, hat⟩ := hd.dictAt
 have hl : kvs.length = vs.length := Paired.length rk
 refine PySem.W.kdl_call (PySem.W.kdl_keys (knd := mixKind X.prog X.w) (kvs := vs) (ep := ep)) (I.ok.hd hc) ⟨kv, hat⟩ (by rw [← hl]; exact z) fun h' tk acc' c' hkeep hS hacc => ?_
 refine ⟨.ref s.heap.objs.size, upd H s.heap.objs.size (.lst (kvs.map fun kv => kV kv.1)), I.laid hkeep (Nat.le_refl _) (show ObjOk X.prog X.w _ _ _ (.lst (kvs.map fun kv => kV kv.1)) from ⟨?_, acc'.toList, c', ?_, ?_⟩), rfl, q _ (I.hok.fresh (Nat.le_refl _))⟩
 ·rw [List.length_map]; exact z
 ·have el : acc'.toList.length = acc'.size := by simp
  refine vals_of_at (by rw [List.length_map, el, hacc.1, hl]) fun j x w h1 h2 => ?_
  obtain ⟨k, y, hky, hi⟩ := hacc.2 j w (by rw [← Array.getElem?_toList]; exact h2)
  have e1 : (kvs.map (·.1))[j]? = some k := by
   rw [KV.keys rk, List.getElem?_map, hky] <;> rfl
  have e2 : (kvs.map fun kv => kV kv.1)[j]? = some (kV k) := by
   have e3 : (kvs.map fun kv => kV kv.1) = (kvs.map (·.1)).map kV := by rw [List.map_map] <;> rfl
   rw [e3, List.getElem?_map, e1] <;> rfl
  rw [e2] at h1
  cases h1
  exact keyIs_rel hi
 ·rw [Array.toArray_toList]; exact hS
def rSortKv : List V → Hp → VK → Prop := fun xs H Q => ∃ v d kvs, ∃ ks : List Int, xs = [.ref v] ∧ H v = some (KvO v d) ∧ Rd H d (.dK kvs) ∧ kvs.map (·.1) = ks.map Sum.inl ∧ ks.length < 64 ∧
 ∀ (ys : List Int) (p : Addr), ys.Perm ks → ys.Pairwise (· ≤ ·) → H p = none → Q (.ref p) (upd H p (.lst (ys.map V.int)))
theorem cr_sortKv {X : Cx} (hc : X.calm = true) : CallR X (.builtin "sorted") rSortKv := by
 intro pins s σ H xs us Q I r h
 obtain ⟨v, d, kvs, ks, rfl, hv, hd, hks, h64, q⟩ := h
 rw [Vals.ref1 r]
 have kv := kvO_get I hv
 obtain ⟨z, lo, vs, rel, dd⟩ := dk_rd I.hok hd
 obtain ⟨ep, hat⟩ := dd.dictAt
 have hkeys : vs.map (·.1) = ks.map Sum.inl := rel.keys.symm.trans hks
 have hl : vs.length = ks.length := by
  have e := congrArg List.length hkeys
  rwa [List.length_map, List.length_map] at e
 have h16 : vs.length ≤ sizeLine := by rw [hl, sizeLine_eq]; omega
 refine Calls.call_function_entry PyProof.Rows.kind_sorted PyProof.Rows.plain_sorted PyProof.Rows.entry_sorted (PyProof.Rows.args_sorted1 _) ?_
 unfold Builtin.«sorted»
 refine wpAny_bind (m := checkCount "sorted" 1 1 _) (wpAny_pure ?_)
 refine wpAny_bind (PySem.W.kdu_collect (A := X.A.in1) (PySem.W.kdl_keys (knd := mixKind X.prog X.w) (kvs := vs) (ep := ep)) (I.ok.hd hc) ⟨kv, hat⟩ h16 fun h' tk acc hk hacc => ?_)
 have hal : acc.toList.length = ks.length := by rw [Array.length_toList, hacc.1, hl]
 have hS : IntsAre acc.toList ks := ints_each hal fun j v e => by
  obtain ⟨k, x, e1, e2⟩ := hacc.2 j v (by rw [← Array.getElem?_toList]; exact e)
  have e3 : (vs.map (·.1))[j]? = some k := by rw [List.getElem?_map, e1]; rfl
  rw [hkeys, List.getElem?_map] at e3
  cases e4 : ks[j]? with
  | none => rw [e4] at e3; cases e3
  | some y =>
   rw [e4] at e3
   have e5 : Sum.inl y = k := Option.some.inj e3
   subst e5
   rcases keyIs_shape (show keyIs (Sum.inl y) v = true from e2) with ⟨i, t, ek, ev⟩ | ⟨z, t, ek, ev⟩
   ·cases ek
    exact ⟨y, t, rfl, ev⟩
   ·cases ek
 have I1 : Inv X pins σ H { s with heap := h', toks := tk } := I.kept hk
 refine wpAny_bind (wpAny_newList ?_ (by rw [hal, sizeLine_eq]; omega))
 have hoL : (h'.push (seqObj "list" acc.toList.toArray 0)).get? h'.objs.size = some (seqObj "list" acc.toList.toArray 0) := Heap.get?_push_size _ rfl
 show wpAny _ _ _ _ _ { s with heap := h'.push (seqObj "list" acc.toList.toArray 0), toks := tk }
 refine wpAny_bind (wpAny_holding (wpAny_call_entry PyProof.Rows.slot_list_sort ⟨_, hoL, rfl⟩ PyProof.Rows.entry_list_sort
  (PyProof.Rows.list_sort_tree (s := { s with heap := h'.push (seqObj "list" acc.toList.toArray 0), toks := tk }) hoL hS (by rw [hal]; exact h64) fun out ys g1 g2 g3 => ⟨_, rfl, ?_⟩) (PyProof.Rows.args_list_sort _)))
 obtain ⟨e', he'⟩ := PyProof.Rows.sortedHeap_at (vs := acc.toList) (out := out) hoL
 have hlen : (ys.map V.int).length ≤ sizeLine := by
  rw [List.length_map, g2.length_eq]
  exact Nat.le_trans (Nat.le_of_lt h64) (by decide)
 refine wpAny_pure ⟨_, rfl, .ref h'.objs.size, upd H h'.objs.size (.lst (ys.map V.int)), I1.laid (t' := tk) (fun b u e => ?_) (Nat.le_refl _)
  (show ObjOk X.prog X.w _ _ _ (.lst (ys.map V.int)) from ⟨hlen, out.toList, e', vals_of_ints g1, by rw [Array.toArray_toList]; exact he'⟩), rfl, q ys _ g2 g3 (I1.hok.fresh (Nat.le_refl _))⟩
 have hb : b < h'.objs.size := Heap.lt_size e
 rw [PyProof.Rows.sortedHeap_old (Nat.ne_of_lt hb) (by rw [size_push']; exact Nat.lt_succ_of_lt hb)]
 exact Heap.get?_push_of_some _ e
def opSky (h : Hh) (d : D) : Option D := match asK h d with
 | some l => match keysI l with
  | some ns => if ns.length < 64 then some (.lst ((sortI ns).map .int)) else none
  | none => none
 | none => none
def opLky (h : Hh) (d : D) : Option D := match asK h d with
 | some l => match keysI l with
  | some ns => some (.lst (ns.map .int))
  | none => none
 | none => none
theorem e_sky {X : Cx} {G : Cf} {W : WX} {a : Expr} {f : F D} {p ap q pos : Pos} (hc : X.calm = true) (hg : Gl X "sorted") (hm : X.mg "sorted" = none) (ha : PE X a (tE G W f)) (hbase : attributeBase a "keys" X.env (eval a X.env) = eval a X.env) (hline : (ap.endLine == q.line) = true) :
  PE X (.Call (.Name "sorted" p) [.Call (.Attribute a "keys" ap) [] [] q] [] pos) (tE G W (dU f opSky)) := by
 have inner := pe_keysV (X := X) ha hbase hline
 refine PE.imp (pe_callB (id := "sorted") (cr_sortKv hc) hg hm (by decide +kernel) (pa_cons inner pa_nil (star_of rfl _ _)) (by decide) (by decide) (star_of rfl _ _) (stars_of rfl)) fun σ H Q ⟨S, h, e, R, E, P⟩ => ?_
 refine ⟨S, h, e, R, E, P.bind fun d h1 S1 H1 v _ N1 R1 v1 P1 => ?_⟩
 unfold opSky at P1
 split at P1
 ·rename_i l e1
  split at P1
  ·rename_i ns e2
   split at P1
   ·rename_i c
    obtain ⟨a0, vs, rfl, hq, r⟩ := asK_at R1 v1 e1
    refine ⟨a0, vs, rfl, hq, fun s0 hs0 => ⟨s0, a0, vs, ns, rfl, upd_same, ?_, keysI_at r e2, c, fun ns' p' hperm hsort hp => ?_⟩⟩
    ·rcases hq with hq | ⟨o, hq⟩
     ·exact .inl (by rw [upd_ne (fun z => by rw [z, hs0] at hq; cases hq)]; exact hq)
     ·exact .inr ⟨o, by rw [upd_ne (fun z => by rw [z, hs0] at hq; cases hq)]; exact hq⟩
    ·have e : ns' = sortI ns := perm_sorted (hperm.trans (sortI_perm ns).symm) hsort (sortI_sorted ns)
     subst e
     have N2 : Nx G S1 H1 S1 (upd H1 s0 (KvO s0 a0)) := .same (keeps_new hs0)
     have R2 : Rel G S1 h1 (upd H1 s0 (KvO s0 a0)) := R1.same (keeps_new hs0)
     obtain ⟨n1, r1, x1⟩ := new_lst R2 (VDs.ints (G := G) (S := S1) (H := upd H1 s0 (KvO s0 a0)) (sortI ns)) hp
     exact P1 _ _ _ (N2.trans n1) r1 x1
   ·exact P1.elim
  ·exact P1.elim
 ·exact P1.elim
theorem e_lky {X : Cx} {G : Cf} {W : WX} {a : Expr} {f : F D} {p ap q pos : Pos} (hc : X.calm = true) (hg : Gl X "list") (hm : X.mg "list" = none) (ha : PE X a (tE G W f)) (hbase : attributeBase a "keys" X.env (eval a X.env) = eval a X.env) (hline : (ap.endLine == q.line) = true) :
  PE X (.Call (.Name "list" p) [.Call (.Attribute a "keys" ap) [] [] q] [] pos) (tE G W (dU f opLky)) := by
 have inner := pe_keysV (X := X) ha hbase hline
 refine PE.imp (pe_callTy (cr_listKv hc) hg hm (by decide +kernel) (pa_cons inner pa_nil (star_of rfl _ _)) (by decide) (by decide) (star_of rfl _ _) (stars_of rfl)) fun σ H Q ⟨S, h, e, R, E, P⟩ => ?_
 refine ⟨S, h, e, R, E, P.bind fun d h1 S1 H1 v _ N1 R1 v1 P1 => ?_⟩
 unfold opLky at P1
 split at P1
 ·rename_i l e1
  split at P1
  ·rename_i ns e2
   obtain ⟨a0, vs, rfl, hq, r⟩ := asK_at R1 v1 e1
   refine ⟨a0, vs, rfl, hq, fun s0 hs0 => ⟨s0, a0, vs, rfl, upd_same, ?_, fun p' hp => ?_⟩⟩
   ·rcases hq with hq | ⟨o, hq⟩
    ·exact .inl (by rw [upd_ne (fun z => by rw [z, hs0] at hq; cases hq)]; exact hq)
    ·exact .inr ⟨o, by rw [upd_ne (fun z => by rw [z, hs0] at hq; cases hq)]; exact hq⟩
   ·have e : (vs.map fun kv => kV kv.1) = ns.map V.int := by
     have := congrArg (List.map kV) (keysI_at r e2)
     rw [List.map_map, List.map_map] at this
     exact this
    rw [e] at *
    have N2 : Nx G S1 H1 S1 (upd H1 s0 (KvO s0 a0)) := .same (keeps_new hs0)
    have R2 : Rel G S1 h1 (upd H1 s0 (KvO s0 a0)) := R1.same (keeps_new hs0)
    obtain ⟨n1, r1, x1⟩ := new_lst R2 (VDs.ints (G := G) (S := S1) (H := upd H1 s0 (KvO s0 a0)) ns) hp
    exact P1 _ _ _ (N2.trans n1) r1 x1
  ·exact P1.elim
 ·exact P1.elim
def dGet1 (f g : F D) : F D := fun e h => (f e h).bind fun x h1 => if (asK h1 x).isSome = true then (g e h1).bind fun y h2 => match asK h2 x, keyD y with
 | some l, some q => .ok (getK (valD l q) .non) h2
 | _, _ => .fail else .fail
theorem e_dget1 {X : Cx} {G : Cf} {W : WX} {o e : Expr} {f g : F D} {apos cpos : Pos} (hu : X.A.units + 1 < cLine) (ho : PE X o (tE G W f)) (he : PE X e (tE G W g)) (hb : okBase o = true) (hl : (apos.endLine == cpos.line) = true) (h1 : noStar e = true) :
  PE X (.Call (.Attribute o "get" apos) [e] [] cpos) (tE G W (dGet1 f g)) :=
 PE.imp (pe_dget1 hu ho he (m1_of hb hl h1)) fun σ H Q ⟨S, h, en, R, E, P⟩ => ⟨S, h, en, R, E, P.bind fun x h1 S1 H1 v _ N1 R1 v1 P1 => by
  by_cases c : (asK h1 x).isSome = true
  rotate_left
  ·rw [if_neg c] at P1; exact P1.elim
  rw [if_pos c] at P1
  obtain ⟨a, rfl, hd⟩ := isD_of R1 v1 c
  have E1 := E.mono N1 R.bad
  refine ⟨a, rfl, hd, S1, h1, en, R1, E1, P1.bind fun y h2 S2 H2 w _ N2 R2 v2 P2 => ?_⟩
  have x3 := v1.mono N2 R1.bad
  cases q : asK h2 x with
  | none => simp only [q] at P2; exact P2.elim
  | some l =>
   cases qk : keyD y with
   | none => simp only [q, qk] at P2; exact P2.elim
   | some kk =>
    simp only [q, qk] at P2
    obtain ⟨a', vs, ea, ha, r⟩ := asK_at R2 x3 q
    cases ea
    have ek := keyD_at v2 qk
    subst ek
    refine ⟨valV vs kk, .inl ⟨vs, kk, ha, rfl, rfl⟩, ?_⟩
    rcases r.val kk with ⟨e1, e2⟩ | ⟨d1, w1, e1, e2, r1⟩
    ·rw [e1] at P2
     rw [e2]
     exact P2.here R2 .non
    ·rw [e1] at P2
     rw [e2]
     exact P2.here R2 r1⟩
end Sb
namespace Sb
open L2 PySem PySem.Spec PyProof.Rows
def clD (x : D) (h : Hh) : R D := match x with
 | .ref i => (match h[i]? with
  | some (.dct _) => .ok .non (h.set i (.dct []))
  | _ => .fail)
 | _ => .fail
def dDcr (f : F D) : F D := fun e h => (f e h).bind clD
def mergeD (kvs more : List (Key × D)) : List (Key × D) := more.foldl (fun acc kv => putD acc kv.1 kv.2) kvs
def dPrs : List (F D × F D) → F (List (Key × D))
 | [] => fun _ h => .ok [] h
 | p :: r => fun e h => (p.1 e h).bind fun k h1 => (p.2 e h1).bind fun v h2 => match keyD k with
  | some q => (dPrs r e h2).bind fun ps h3 => .ok ((q, v) :: ps) h3
  | none => .fail
def disE (n : Nat) (r : R (List (Key × D))) : R D := r.bind fun ps h2 => match h2[n]? with
 | some (.dct []) => .ok (.ref n) (h2.set n (.dct (mergeD [] ps)))
 | _ => .fail
def dDis (l : List (F D × F D)) : F D := fun e h => disE h.length (dPrs l e (h ++ [.dct []]))
section
variable {X : Cx} {G : Cf} {W : WX}
theorem e_dclear {a : Expr} {f : F D} {p q : Pos} (ha : PE X a (tE G W f)) (hb : okBase a = true) (hl : (p.endLine == q.line) = true) : PE X (.Call (.Attribute a "clear" p) [] [] q) (tE G W (dDcr f)) :=
 PE.imp (pe_dclear ha (base_of hb _ _ _) hl) fun σ H Q ⟨S, h, e, R, E, P⟩ => ⟨S, h, e, R, E, P.bind fun x h1 S1 H1 v _ N1 R1 v1 P1 => by
  cases v1 with
  | @ref i hi =>
   have P2 : Pst G.toCg (fun c d H => W c d σ H) S1 H1 (relV G.toCg) (match h1[i]? with
    | some (.dct _) => .ok .non (h1.set i (.dct []))
    | _ => .fail) Q := P1
   split at P2
   rotate_left
   ·exact P2.elim
   rename_i l e0
   cases R1.obj i _ e0 with
   | @dct _ vs e1 r1 =>
    refine ⟨.inr (.inr (.inl ⟨rfl, .inl ⟨vs, e1⟩⟩)), _, vs, rfl, rfl, e1, ?_⟩
    have N2 : Nx G.toCg S1 H1 S1 (upd H1 (S1.r i) (.dK [])) := Nx.write R1 hi e1 (fun _ z => by cases z) (fun _ _ z => by cases z)
    have R2 := R1.write (v := .dK []) (o := .dct []) hi e1 (fun _ z => by cases z) (fun _ _ z => by cases z) (.dct (l := []) upd_same .nil)
    exact P2 _ _ _ N2 R2 .non
  | _ => exact P1.elim⟩
theorem VDk.merge {G : Cg} {S : Rho} {H : Hp} : ∀ {more : List (Key × D)} {vs : List (Key × V)} {kvs : List (Key × D)} {ws : List (Key × V)}, VDk G S H more vs → VDk G S H kvs ws → VDk G S H (mergeD kvs more) (mergeK ws vs)
 | _, _, _, _, .nil, b => b
 | _, _, kvs, ws, .cons (k := k) (d := d) (v := v) (l := l) (vs := vs) x t, b => by
  show VDk G S H (mergeD (putD kvs k d) l) (mergeK (putK ws k v) vs)
  exact VDk.merge t (b.put k x)
def relK (G : Cg) : Rho → Hp → List (Key × D) → List (V × V) → Prop := fun S H a ps => ∃ vs, VDk G S H a vs ∧ ps = vs.map fun kv => (kV kv.1, kv.2)
theorem prs_of : ∀ (l : List (F D × F D)) {S : Rho} {h : Hh} {e : En} {σ : L2.St} {H : Hp} {Q : List (V × V) → Hp → Prop}, Rel G.toCg S h H → EnR G S H e σ → Pst G.toCg (fun c d H => W c d σ H) S H (relK G.toCg) (dPrs l e h) Q →
  tPairs (l.map fun p => (tE G W p.1, tE G W p.2)) σ H Q
 | [], S, h, e, σ, H, Q, R, E, P => P _ _ _ .refl R ⟨[], .nil, rfl⟩
 | p :: r, S, h, e, σ, H, Q, R, E, P => by
  show tE G W p.1 σ H fun x H1 => tE G W p.2 σ H1 fun y H2 => tPairs (r.map fun p => (tE G W p.1, tE G W p.2)) σ H2 fun ps H3 => Q ((x, y) :: ps) H3
  refine ⟨S, h, e, R, E, Pst.bind P fun k h1 S1 H1 kv _ N1 R1 k1 P1 => ?_⟩
  have E1 := E.mono N1 R.bad
  refine ⟨S1, h1, e, R1, E1, Pst.bind P1 fun v h2 S2 H2 vv _ N2 R2 v2 P2 => ?_⟩
  have E2 := E1.mono N2 R1.bad
  cases qk : keyD k with
  | none => simp only [qk] at P2; exact P2.elim
  | some q =>
   simp only [qk] at P2
   obtain rfl := keyD_at (k1.mono N2 R1.bad) qk
   refine prs_of r R2 E2 (Pst.bind P2 fun ps h3 S3 H3 ws _ N3 R3 w3 P3 => ?_)
   obtain ⟨vs, r3, rfl⟩ := w3
   exact P3.here R3 ⟨(q, vv) :: vs, .cons (v2.mono N3 R2.bad) r3, rfl⟩
theorem dPrs_len : ∀ (l : List (F D × F D)) {e : En} {h h2 : Hh} {ps : List (Key × D)}, dPrs l e h = .ok ps h2 → ps.length = l.length
 | [], e, h, h2, ps, q => by cases q; rfl
 | p :: r, e, h, h2, ps, q => by
  have q1 : ((p.1 e h).bind fun k h1 => (p.2 e h1).bind fun v h2 => match keyD k with
   | some q => (dPrs r e h2).bind fun ps h3 => .ok ((q, v) :: ps) h3
   | none => .fail) = .ok ps h2 := q
  cases a : p.1 e h with
  | ok k h1 =>
   rw [a] at q1
   have q2 : ((p.2 e h1).bind fun v h2 => match keyD k with
    | some q => (dPrs r e h2).bind fun ps h3 => .ok ((q, v) :: ps) h3
    | none => .fail) = .ok ps h2 := q1
   cases b : p.2 e h1 with
   | ok v h3 =>
    rw [b] at q2
    have q3 : (match keyD k with
     | some q => (dPrs r e h3).bind fun ps h3 => .ok ((q, v) :: ps) h3
     | none => .fail) = R.ok ps h2 := q2
    cases c : keyD k with
    | none => rw [c] at q3; cases q3
    | some kk =>
     rw [c] at q3
     cases d : dPrs r e h3 with
     | ok ps2 h4 =>
      simp only [d] at q3
      have q4 : R.ok ((kk, v) :: ps2) h4 = R.ok ps h2 := q3
      cases q4
      rw [List.length_cons, List.length_cons, dPrs_len r d]
     | exc _ _ _ => simp only [d] at q3; cases q3
     | fail => simp only [d] at q3; cases q3
   | exc _ _ _ => rw [b] at q2; cases q2
   | fail => rw [b] at q2; cases q2
  | exc _ _ _ => rw [a] at q1; cases q1
  | fail => rw [a] at q1; cases q1
theorem e_dis {l : List (F D × F D)} {ks : List (Option Expr)} {vs : List Expr} {pos : Pos} (hp : PPs X pos ks vs (l.map fun p => (tE G W p.1, tE G W p.2))) (hall : ks.all (·.isSome) = true) (hl : ks.length = vs.length) (h0 : ks ≠ []) (h15 : ks.length ≤ 15) (hn : l.length = ks.length) :
  PE X (.Dict ks vs pos) (tE G W (dDis l)) :=
 PE.imp (pe_disp hp hall hl h0 h15) fun σ H Q ⟨S, h, e, R, E, P⟩ p hp => by
  have R1 : Rel G.toCg (S.push p) (h ++ [.dct []]) (upd H p (.dK [])) := R.push hp (.dct (l := []) upd_same .nil)
  have N1 : Nx G.toCg S H (S.push p) (upd H p (.dK [])) := .push hp
  have E1 := E.mono N1 R.bad
  have P1 : Pst G.toCg (fun c d H => W c d σ H) (S.push p) (upd H p (.dK [])) (relV G.toCg) (disE h.length (dPrs l e (h ++ [.dct []]))) Q := Pst.mono (r := disE h.length (dPrs l e (h ++ [.dct []]))) P N1
  refine prs_of l R1 E1 (Pst.bind P1 fun ps h2 S2 H2 ws q2 N2 R2 w2 P2 => ?_)
  obtain ⟨us, r2, rfl⟩ := w2
  have hr : S2.r h.length = p := by
   have hh : h.length < (S.push p).n := by show h.length < S.n + 1; rw [R.len]; omega
   rw [N2.r _ hh]
   show (if h.length = S.n then p else S.r h.length) = p
   rw [if_pos R.len]
  split at P2
  rotate_left
  ·exact P2.elim
  rename_i e2
  have hn2 : h.length < S2.n := by rw [← R2.len]; exact (List.getElem?_eq_some_iff.mp e2).1
  have ob := R2.obj _ _ e2
  rw [hr] at ob
  cases ob with
  | @dct _ vs0 q0 rv =>
   cases rv
   refine ⟨q0, us, rfl, ?_, ?_⟩
   ·have : us.length = ps.length := r2.length.symm
    rw [this, dPrs_len l q2]; omega
   ·have q0' : H2 (S2.r h.length) = some (.dK []) := by rw [hr]; exact q0
    have N3 : Nx G.toCg S2 H2 S2 (upd H2 (S2.r h.length) (.dK (mergeK [] us))) := Nx.write R2 hn2 q0' (fun _ z => by cases z) (fun _ _ z => by cases z)
    have R3 := R2.write (v := .dK (mergeK [] us)) (o := .dct (mergeD [] ps)) hn2 q0' (fun _ z => by cases z) (fun _ _ z => by cases z) (.dct upd_same ((r2.mono N3 R2.bad).merge .nil))
    have x3 : VD G.toCg S2 (upd H2 (S2.r h.length) (.dK (mergeK [] us))) (.ref h.length) (.ref (S2.r h.length)) := .ref hn2
    rw [hr] at N3 R3 x3
    exact P2 _ _ _ N3 R3 x3
end
end Sb
namespace Sb
open L2 PySem PySem.Spec PyProof.Rows
def asN (h : Hh) : D → Option (List NestedKey)
 | .ref i => match h[i]? with
  | some (.dkn ks) => some ks
  | some (.dct []) => some []
  | _ => none
 | _ => none
def keyN (d : D) : Option NestedKey := match d with
 | .tup l => match nk (.tup l) with
  | some k => if k.depth ≤ 8 then some k else none
  | none => none
 | _ => none
def addN (ks : List NestedKey) (k : NestedKey) : List NestedKey := if k ∈ ks then ks else ks ++ [k]
def opInk (h : Hh) (x y : D) : Option D := match keyN x, asN h y with
 | some k, some ks => some (.bl (decide (k ∈ ks)))
 | _, _ => none
def opNink (h : Hh) (x y : D) : Option D := match keyN x, asN h y with
 | some k, some ks => some (.bl (!decide (k ∈ ks)))
 | _, _ => none
section
variable {X : Cx} {G : Cg} {pins : List (Addr × Obj)} {σ : L2.St} {H : Hp} {s : Shared}
mutual
theorem nv_is (I : Inv X pins σ H s) : ∀ {k : NestedKey} {v : V} {u : Value}, NV X.K H k v → RelV v u → NestedIs s.heap k u
 | _, _, _, .non, r => by
  cases (show _ = Value.none from r); exact .none
 | _, _, _, .bl b, r => by
  cases (show _ = Value.bool b from r); exact .bool rfl
 | _, _, _, .int i, r => by
  obtain ⟨t, e⟩ := (show ∃ t, _ = Value.int i t from r)
  rw [e]; exact .int i t
 | _, _, _, .str x, r => by
  obtain ⟨t, e⟩ := (show ∃ t, _ = Value.str x t from r)
  rw [e]; exact .text x t
 | _, _, _, .tup (a := a) q b, r => by
  cases (show _ = Value.ref a from r)
  obtain ⟨its, w, ⟨o, ho, hc, n, hd⟩, _⟩ := I.tuple q
  exact .tup ho hc hd (by simpa using nvs_is I b w)
theorem nvs_is (I : Inv X pins σ H s) : ∀ {k : List NestedKey} {v : List V} {u : List Value}, NVs X.K H k v → Vals v u → NestedAll s.heap k u
 | _, _, _, .nil, .nil => .nil
 | _, _, _, .cons a b, .cons r t => .cons (nv_is I a r) (nvs_is I b t)
end
theorem nkO_tup {w : World} {a : Addr} {xs : List (NestedKey × Addr)} (ys : List V) : NkO w a xs ≠ .tup ys := fun z => by unfold NkO at z; cases z
theorem nkO_frz {w : World} {a : Addr} {xs : List (NestedKey × Addr)} (ob : Obj) (v : HO) : NkO w a xs ≠ .frz ob v := fun z => by unfold NkO at z; cases z
theorem dk_tup {l : List (Key × V)} (ys : List V) : HO.dK l ≠ .tup ys := fun z => by cases z
theorem dk_frz {l : List (Key × V)} (ob : Obj) (v : HO) : HO.dK l ≠ .frz ob v := fun z => by cases z
def trueH (xs : List (NestedKey × Addr)) : List (NestedKey × Addr × Value) := xs.map fun x => (x.1, x.2, .bool true)
theorem nk_dict (hK : G.K = X.K) (hW : G.w = X.w) {S : Rho} {h : Hh} (R : Rel G S h H) (I : Inv X pins σ H s) {i : Nat} {ks : List NestedKey} (q : asN h (.ref i) = some ks) :
  ∃ xs : List (NestedKey × Addr), xs.map (·.1) = ks ∧ (S.r i == sysModules) = false ∧ s.heap.DictOfH (nestedKind X.prog X.w) (S.r i) (trueH xs) ∧ (∀ x ∈ xs, NV G.K H x.1 (.ref x.2) ∧ x.1.depth ≤ 8) ∧ ks.Nodup ∧ ∃ u, H (S.r i) = some u ∧ Mut (some u) ∧ (∀ ys, u ≠ .tup ys) ∧ ∀ ob v, u ≠ .frz ob v := by
 have e2 : (match h[i]? with | some (.dkn ks) => some ks | some (.dct []) => some [] | _ => none) = some ks := q
 split at e2
 ·rename_i ks' qi
  cases e2
  cases R.obj i _ qi with
  | @dkn _ xs q v a b c d =>
   obtain ⟨⟨o, es, ep, h1, h2, h3, h4⟩, _, _⟩ := (show ObjOk X.prog X.w H s.heap (S.r i) (NkO G.w (S.r i) xs) from I.hok _ _ q)
   refine ⟨xs, a, d, ⟨o, es, ep, h1, h2, h3, ?_, ?_, ?_⟩, v, b, _, q, trivial, nkO_tup, nkO_frz⟩
   ·rw [h4, trueH, List.map_map, hW]; rfl
   ·intro x hx
    obtain ⟨y, hy, rfl⟩ := List.mem_map.mp hx
    obtain ⟨n1, n2⟩ := v y hy
    rw [hK] at n1
    exact ⟨nv_is I n1 rfl, n2⟩
   ·rw [trueH, List.map_map, show ((fun x : NestedKey × Addr × Value => x.1) ∘ fun x : NestedKey × Addr => (x.1, x.2, Value.bool true)) = Prod.fst from rfl]
    rw [show xs.map Prod.fst = ks from a]
    exact b
 ·rename_i qi
  cases e2
  cases R.obj i _ qi with
  | dct q r =>
   cases r
   obtain ⟨z, hd, vs, rel, o, es, ep, h1, h2, h3, h4, h5, h6⟩ := dk_of I.hok q
   cases rel
   refine ⟨[], rfl, hd, ⟨o, es, ep, h1, h2, h3, ?_, (fun x hx => absurd hx (List.not_mem_nil)), List.nodup_nil⟩, (fun x hx => absurd hx (List.not_mem_nil)), List.nodup_nil, _, q, trivial, dk_tup, dk_frz⟩
   cases he : es.toList with
   | nil => rfl
   | cons a b => rw [he] at h5; cases h5
 ·cases e2
theorem trueH_at (xs : List (NestedKey × Addr)) (k : NestedKey) : (atKey (trueH xs) k).isSome = decide (k ∈ xs.map (·.1)) := by
 unfold atKey trueH
 induction xs with
 | nil => rfl
 | cons x xs ih =>
  rw [List.map_cons, List.map_cons]
  by_cases e : x.1 = k
  ·rw [List.find?_cons_of_pos (by simpa using e)]
   simp [e]
  ·rw [List.find?_cons_of_neg (by simpa using e), ih]
   have e' : ¬ k = x.1 := fun z => e z.symm
   simp [e']
theorem keyN_at {S : Rho} {d : D} {v : V} {k : NestedKey} (x : VD G S H d v) (q : keyN d = some k) : ∃ a, v = .ref a ∧ NV G.K H k (.ref a) ∧ k.depth ≤ 8 := by
 unfold keyN at q
 split at q
 ·rename_i l
  split at q
  ·rename_i k' qk
   split at q
   ·rename_i c
    cases q
    cases x with
    | tup a b => exact ⟨_, rfl, nk_at (.tup a b) qk, c⟩
   ·cases q
  ·cases q
 ·cases q
theorem or_ink {X : Cx} {G : Cg} (hK : G.K = X.K) (hW : G.w = X.w) (hu : X.A.units + 65 < cLine) : OpR X (compareOp .In) (rD G opInk) := by
 intro pins s σ H x y v u Q I rx ry hq
 obtain ⟨S, h, d, e, z, R, vx, vy, q, k⟩ := hq
 unfold opInk at q
 split at q
 ·rename_i kk ks q1 q2
  cases q
  obtain ⟨a, rfl, n1, n2⟩ := keyN_at vx q1
  obtain rfl : v = Value.ref a := rx
  cases e with
  | ref i =>
   cases vy with
   | ref hi =>
    obtain rfl : u = Value.ref (S.r i) := ry
    obtain ⟨xs, e1, hd, hm, _⟩ := nk_dict hK hW R I q2
    rw [hK] at n1
    refine wpAny_in_heap (knd := nestedKind X.prog X.w) (by show X.A.units + 1 + 8 < cLine; omega) ⟨nv_is I n1 rfl, n2⟩ hd hm ?_
    rw [trueH_at, e1]
    exact ⟨.bl (decide (kk ∈ ks)), H, I.tok _, rfl, k H _ .refl R (.bl _)⟩
  | _ => cases q2
 ·cases q
theorem or_nink {X : Cx} {G : Cg} (hK : G.K = X.K) (hW : G.w = X.w) (hu : X.A.units + 65 < cLine) : OpR X (compareOp .NotIn) (rD G opNink) := by
 intro pins s σ H x y v u Q I rx ry hq
 obtain ⟨S, h, d, e, z, R, vx, vy, q, k⟩ := hq
 unfold opNink at q
 split at q
 ·rename_i kk ks q1 q2
  cases q
  obtain ⟨a, rfl, n1, n2⟩ := keyN_at vx q1
  obtain rfl : v = Value.ref a := rx
  cases e with
  | ref i =>
   cases vy with
   | ref hi =>
    obtain rfl : u = Value.ref (S.r i) := ry
    obtain ⟨xs, e1, hd, hm, _⟩ := nk_dict hK hW R I q2
    rw [hK] at n1
    refine wpAny_notIn_heap (knd := nestedKind X.prog X.w) (by show X.A.units + 1 + 8 < cLine; omega) ⟨nv_is I n1 rfl, n2⟩ hd hm ?_
    rw [trueH_at, e1]
    exact ⟨.bl (!decide (kk ∈ ks)), H, I.tok _, rfl, k H _ .refl R (.bl _)⟩
  | _ => cases q2
 ·cases q
def rSbk (G : Cg) : TSet := fun o i v H Q => ∃ S h j d k ks, Rel G S h H ∧ VD G S H (.ref j) o ∧ VD G S H d i ∧ v = .bl true ∧ keyN d = some k ∧ asN h (.ref j) = some ks ∧ ks.length < 16777216 ∧
 ∀ H', Nx G S H S H' → Rel G S (h.set j (.dkn (addN ks k))) H' → Q H'
theorem nkO_ok {P : Program} {w : World} {H : Hp} {h : Heap} {a : Addr} {xs : List (NestedKey × Addr)} (k : ∃ o es ep, h.get? a = some o ∧ o.ExactDict ∧ o.data = .dict es ep ∧ es.toList = xs.map fun x => (⟨x.1.hash w, .ref x.2, .bool true⟩ : DictEntry)) : ObjOk P w H h a (NkO w a xs) := by
 obtain ⟨o, es, ep, h1, h2⟩ := k
 refine ⟨⟨o, es, ep, h1, h2⟩, ⟨o, h1⟩, ?_⟩
 rintro g1 g2 ⟨o', es', ep', z1, z2⟩ kk
 exact ⟨o', es', ep', kk _ z1, z2⟩
theorem set_nk {X : Cx} {G : Cg} (hK : G.K = X.K) (hW : G.w = X.w) (hu : X.A.units + 65 < cLine) : PSet X (rSbk G) := by
 intro pins s σ H o i v ov iv u Q I ro ri rv hq
 obtain ⟨S, h, j, d, k, ks, R, vo, vi, rfl, q1, q2, hl, kk⟩ := hq
 obtain ⟨a, rfl, n1, n2⟩ := keyN_at vi q1
 obtain rfl : iv = Value.ref a := ri
 obtain rfl : u = Value.bool true := rv
 cases vo with
 | ref hj =>
  obtain rfl : ov = Value.ref (S.r j) := ro
  obtain ⟨xs, e1, hd, hm, hv, nd, hu0, hH, mu, nt, nf⟩ := nk_dict hK hW R I q2
  have n1' := n1
  rw [hK] at n1'
  obtain ⟨ys, eys⟩ : ∃ ys : List (NestedKey × Addr), ys = if k ∈ ks then xs else xs ++ [(k, a)] := ⟨_, rfl⟩
  have es : storedH (trueH xs) k a (.bool true) = trueH ys := by
   unfold storedH
   rw [trueH_at, e1, eys]
   by_cases c : k ∈ ks
   ·rw [if_pos (decide_eq_true c), if_pos c]
    unfold trueH
    rw [List.map_map]
    refine List.map_congr_left fun x _ => ?_
    unfold putAt
    dsimp only [Function.comp]
    split <;> rfl
   ·rw [if_neg (by simpa using c), if_neg c]
    unfold trueH
    rw [List.map_append]; rfl
  have ek : ys.map (·.1) = addN ks k := by
   rw [eys]; unfold addN
   split
   ·exact e1
   ·rw [List.map_append, e1]; rfl
  have eN : (addN ks k).Nodup := by
   unfold addN
   split
   ·exact nd
   ·rename_i c
    rw [List.nodup_append]
    exact ⟨nd, by simp, fun a ha b hb => by rw [List.mem_singleton.mp hb]; exact fun z => c (z ▸ ha)⟩
  have eL : (addN ks k).length ≤ 16777216 := by
   unfold addN
   split
   ·omega
   ·rw [List.length_append, List.length_singleton]; omega
  have hz : (trueH xs).length ≤ sizeLine := by
   have : xs.length = ks.length := by rw [← e1, List.length_map]
   rw [trueH, List.length_map, sizeLine_eq]; omega
  refine wpAny_setItem_heap (knd := nestedKind X.prog X.w) (hsz := hz) (by show X.A.units + 1 + 8 < cLine; omega) ⟨nv_is I n1' rfl, n2⟩ hm fun h' dd' hs => ?_
  rw [es] at dd'
  obtain ⟨o, es', ep, h1, h2, h3, h4, _⟩ := dd'
  have N3 : Nx G S H S (upd H (S.r j) (NkO G.w (S.r j) ys)) := Nx.write R hj hH nt nf
  have hv2 : ∀ x ∈ ys, NV G.K (upd H (S.r j) (NkO G.w (S.r j) ys)) x.1 (.ref x.2) ∧ x.1.depth ≤ 8 := fun x hx => by
   rw [eys] at hx
   have : x ∈ xs ∨ x = (k, a) := by
    split at hx
    ·exact .inl hx
    ·rcases List.mem_append.mp hx with z | z
     ·exact .inl z
     ·exact .inr (List.mem_singleton.mp z)
   rcases this with z | z
   ·exact ⟨(hv x z).1.to N3.seqT, (hv x z).2⟩
   ·rw [z]; exact ⟨n1.to N3.seqT, n2⟩
  have R3 := R.write hj hH nt nf (v := NkO G.w (S.r j) ys) (.dkn upd_same hv2 ek eN eL hd)
  refine ⟨_, d_write I (by rw [hH]; exact mu) hs ⟨o, h1⟩ ?_, kk _ N3 R3⟩
  rw [hW]
  refine nkO_ok ⟨o, es', ep, h1, h2, h3, ?_⟩
  rw [h4, trueH, List.map_map]; rfl
def sSbk (o i : F D) : FS := fun e h => (dC (.bl true) e h).st e fun y h1 => (o e h1).st e fun x h2 => (i e h2).st e fun k h3 => match y, x, keyN k, asN h3 x with
 | .bl true, .ref j, some q, some ks => if ks.length < 16777216 then .nx e (h3.set j (.dkn (addN ks q))) else .fail
 | _, _, _, _ => .fail
def sbkD (x k : D) (e : En) (h : Hh) : RS := match D.bl true, x, keyN k, asN h x with
 | .bl true, .ref j, some q, some ks => if ks.length < 16777216 then .nx e (h.set j (.dkn (addN ks q))) else .fail
 | _, _, _, _ => .fail
theorem sbk_E (f g : F D) (e : En) (h : Hh) : sSbk f g e h = (f e h).st e fun x h2 => (g e h2).st e fun k h3 => sbkD x k e h3 := rfl
theorem s_sbk {X : Cx} {G : Cf} {W : WX} {o i : Expr} {fo fi : F D} {kd : Nat} {p1 pos pos' : Pos} (hK : G.K = X.K) (hW : G.w = X.w) (hu : X.A.units + 65 < cLine) (ho : PE X o (tE G W fo)) (hi : PE X i (tE G W fi)) (hsl : noSlice i = true) :
  PS X (.Assign [.Subscript o i pos'] (.Constant (.bool true) kd p1) pos) (tS G W (sSbk fo fi)) :=
 PS.imp (ps_asg (PE.imp pe_bl fun _ _ _ z => tE_c (G := G) (W := W) (d := .bl true) (fun _ _ => .bl true) z) (pg_sub ho hi (set_nk hK hW hu) (sub_asg hsl _ _)) (by unfold swapsWithSole; exact swaps_of rfl _ _ _) (stores_of rfl _)) fun Z σ H ⟨S, h, e, R, E, P⟩ => ⟨S, h, e, R, E, P.st R E fun y h1 S1 H1 vy _ N1 R1 v1 P1 =>
  have E1 := E.mono N1 R.bad
  ⟨S1, h1, e, R1, E1, P1.st R1 E1 fun x h2 S2 H2 vx _ N2 R2 v2 P2 =>
   have E2 := E1.mono N2 R1.bad
   ⟨S2, h2, e, R2, E2, P2.st R2 E2 fun k h3 S3 H3 vk _ N3 R3 v3 P3 => by
    have E3 := E2.mono N3 R2.bad
    have y3 := (v1.mono N2 R1.bad).mono N3 R2.bad
    have x3 := v2.mono N3 R2.bad
    split at P3
    ·rename_i j q ks e1 e2 qk qa
     try subst e1
     try subst e2
     cases y3
     split at P3
     ·rename_i c
      exact ⟨S3, h3, j, k, q, ks, R3, x3, v3, rfl, by assumption, by assumption, c, fun H' N R' => P3 S3 H' σ N R' (E3.mono N R3.bad)⟩
     ·exact P3.elim
    ·exact P3.elim⟩⟩⟩
end
end Sb
namespace Sb
open L2 PySem PySem.Spec PyProof.Rows
def Cst.d : Cst → D
 | .non => .non
 | .bl b => .bl b
 | .int i => .int i
 | .str x => .str x
theorem Cst.vd (c : Cst) {G : Cg} {S : Rho} {H : Hp} : VD G S H c.d c.v := by cases c <;> constructor
theorem Cst.vds : ∀ (l : List Cst) {G : Cg} {S : Rho} {H : Hp}, VDs G S H (l.map Cst.d) (l.map Cst.v)
 | [], _, _, _ => .nil
 | c :: l, _, _, _ => .cons c.vd (Cst.vds l)
theorem Cst.vdf : ∀ (l : List (Str × Cst)) {G : Cg} {S : Rho} {H : Hp}, VDf G S H (l.map fun p => (p.1, p.2.d)) (l.map fun p => (p.1, p.2.v))
 | [], _, _, _ => .nil
 | c :: l, _, _, _ => .cons c.2.vd (Cst.vdf l)
inductive BF where
 | len | sum | all | any | max | min | int | list | tuple | sorted | dict | str
 deriving DecidableEq
def BF.nm : BF → String
 | .len => "len"
 | .sum => "sum"
 | .all => "all"
 | .any => "any"
 | .max => "max"
 | .min => "min"
 | .int => "int"
 | .list => "list"
 | .tuple => "tuple"
 | .sorted => "sorted"
 | .dict => "dict"
 | .str => "str"
def BF.op : BF → Hh → List D → Option D
 | .len => bLen
 | .sum => bSum
 | .all => bAll
 | .any => bAny
 | .max => bMax
 | .min => bMin
 | .int => bInt
 | .list => bList
 | .tuple => bTuple
 | .sorted => bSorted
 | .dict => bDict
 | .str => bStr
inductive BN where
 | list | dict | sorted
 deriving DecidableEq
def BN.nm : BN → String
 | .list => "list"
 | .dict => "dict"
 | .sorted => "sorted"
def BN.op : BN → Hh → List D → Option (D × Hh)
 | .list => nList
 | .dict => nDict
 | .sorted => nSorted
inductive BM where
 | append | count | index | clear | extend | pop | cntb | join | split
 deriving DecidableEq
def BM.nm : BM → String
 | .append => "append"
 | .count => "count"
 | .index => "index"
 | .clear => "clear"
 | .extend => "extend"
 | .pop => "pop"
 | .cntb => "count"
 | .join => "join"
 | .split => "split"
def BM.op : BM → MOp
 | .append => mAppend
 | .count => mCount
 | .index => mIndex
 | .clear => mClear
 | .extend => mExtend
 | .pop => mPop
 | .cntb => mCountF
 | .join => mJoin
 | .split => mSplit
def BM.c : BM → Hh → D → Bool
 | .append => cLst
 | .count => cLst
 | .index => cLst
 | .clear => cLst
 | .extend => cLst
 | .pop => cLst
 | .cntb => cLst
 | .join => cStr
 | .split => cStr
mutual
inductive Ex where
 | var (i : Nat) | cst (c : Cst) | glb (c : Cst)
 | bin (o : Operator) (a b : Ex) | neg (a : Ex) | cmp (o : CmpOp) (a b : Ex) | chn (o o' : CmpOp) (a b c : Ex)
 | and (a b : Ex) | or (a b : Ex) | not (a : Ex) | ite (t : Tx) (a b : Ex)
 | tup (l : Exs) | lst (l : Exs) | new (l : Exs)
 | idx (a b : Ex) | slc (a : Ex) (lo hi : Oe) | fld (a : Ex) (f : Str)
 | cal (pu : Bool) (i : Nat) (dd : List Cst) (l : Exs)
 | met (pu : Bool) (a : Ex) (m : Str) (t : List (Nat × Nat × List Cst)) (l : Exs)
 | mak (pu : Bool) (c i : Nat) (dd : List Cst) (l : Exs)
 | bif (b : BF) (l : Exs) | bim (b : BM) (a : Ex) (l : Exs)
 | isi (t : BT) (a : Ex) | isx (i : Nat) (t : List (Nat × Bool))
 | com (e : Ex) (g : Tg) (s : Sr) (t : Ot) (own : List (Str × Nat))
 | dcr (a : Ex) | dis (l : Prs) | lset (a : Ex) | dfr | dnw | sst (a : Ex) | ink (a b : Ex) | nink (a b : Ex) | sky (a : Ex) | lky (a : Ex) | dg1 (a k : Ex)
 | isc (t : List (Nat × Bool)) (a : Ex) | bi0 (b : BM) (a : Ex) | bnw (b : BN) (l : Exs)
 | ban (a b : Ex) | kge (t : List (Str × Cst)) (a d : Ex) | dge (a k d : Ex) | dse (a k d : Ex) | dpo (a k : Ex) | lrg (a : Ex) | lr2 (a b : Ex) | dcl (t : List (Str × Str))
 | cmn (e : Ex) (g : Tg) (s : Sr) (t : Ot) (own : List (Str × Nat))
 | cod (e : Ex) (w : Dw) (g : Tg) (a : Ex) (t : Ot) (own : List (Str × Nat))
inductive Tx where
 | val (a : Ex) | ink (a b : Ex) | nink (a b : Ex) | cmp (o : CmpOp) (a b : Ex) | chn (o o' : CmpOp) (a b c : Ex) | and (a b : Tx) | or (a b : Tx) | not (a : Tx)
inductive Exs where
 | nil | cons (a : Ex) (l : Exs)
inductive Prs where
 | nil | cons (k v : Ex) (l : Prs)
inductive Oe where
 | no | so (a : Ex)
inductive Ot where
 | no | so (a : Tx)
inductive Sr where
 | seq (a : Ex) | rg1 (a : Ex) | rg2 (a b : Ex) | enu (a : Ex) | zip (a b : Ex) | txt (a : Ex)
end
mutual
inductive St where
 | pass | brk | cnt | never
 | asg (g : Tg) (e : Ex) | drop (e : Ex) | ret (e : Ex) | retN
 | ite (t : Tx) (a b : Bk) | whl (n : Nat) (t : Tx) (b : Bk) | for (s : Sr) (g : Tg) (b : Bk) | fod (w : Dw) (a : Ex) (g : Tg) (b : Bk)
 | fld (a : Ex) (f : Str) (v : Ex) | sub (o i v : Ex) | sbk (o i : Ex) | rai (c : Nat) | try (b : Bk) (l : Hcs)
inductive Bk where
 | nil | cons (s : St) (b : Bk) | wip (l : List Nat) (b : Bk)
inductive Hcs where
 | nil | cons (i : Option Nat) (t : List (Nat × Bool)) (b : Bk) (l : Hcs)
end
structure Sm where
 M : Nat → FC
 ft : FT
abbrev Cu := Option (Nat × Nat)
def Sm.f (m : Sm) (pu : Bool) (i : Nat) : FC := if pu = true then pureC (m.M i) else m.M i
def binF (o : Operator) : Hh → D → D → Option D := (binD o).getD fun _ _ _ => none
def dIsx (cu : Cu) (i : Nat) (t : List (Nat × Bool)) : F D := fun _ h => match cu with
 | some (j, c) => if i = j then (match t.lookup c with
  | some b => .ok (.bl b) h
  | none => .fail) else .fail
 | none => .fail
def Sm.me (m : Sm) (pu : Bool) (t : List (Nat × Nat × List Cst)) : Nat → Option (FC × List D) := fun c => match t.lookup c with
 | some q => some (m.f pu q.1, q.2.map Cst.d)
 | none => none
def sWip (l : List Nat) (b : FS) : FS := fun e h => b (wipeE e l) h
theorem EnR.wip1 {G : Cf} {S : Rho} {H : Hp} {e : En} {σ : L2.St} (E : EnR G S H e σ) (i : Nat) : EnR G S H (e.set i none) σ where
 len := by rw [List.length_set]; exact E.len
 at_ := fun j d h => by
  by_cases c : i = j
  ·subst c
   by_cases l : i < e.length
   ·rw [List.getElem?_set_self l] at h; cases h
   ·rw [List.getElem?_eq_none (by rw [List.length_set]; omega)] at h; cases h
  ·rw [List.getElem?_set_ne c] at h
   exact E.at_ j d h
 cur := fun j c a z => by
  obtain ⟨h1, h2⟩ := E.cur j c a z
  refine ⟨h1, ?_⟩
  by_cases c : i = j
  ·subst c
   rw [List.getElem?_set_self (List.getElem?_eq_some_iff.mp h2).1]
  ·rw [List.getElem?_set_ne c]; exact h2
theorem EnR.wips {G : Cf} {S : Rho} {H : Hp} {e : En} {σ : L2.St} (E : EnR G S H e σ) : ∀ l : List Nat, EnR G S H (wipeE e l) σ
 | [] => E
 | i :: l => (EnR.wips E l).wip1 i
theorem b_wip {X : Cx} {G : Cf} {W : WX} {x : List Stmt} {f : FS} (l : List Nat) (h : PSs X x (tS G W f)) : PSs X x (tS G W (sWip l f)) :=
 PSs.imp h fun Z σ H ⟨S, h, e, R, E, P⟩ => ⟨S, h, wipeE e l, R, E.wips l, P⟩
mutual
def evE (m : Sm) : Cu → Ex → F D
 | _, .var i => dVar i
 | _, .cst c => dC c.d
 | _, .glb c => dC c.d
 | cu, .bin o a b => dB (evE m cu a) (evE m cu b) (binF o)
 | cu, .neg a => dU (evE m cu a) opNeg
 | cu, .cmp o a b => dB (evE m cu a) (evE m cu b) (cmpD o)
 | cu, .chn o o' a b c => dCh (evE m cu a) (evE m cu b) (evE m cu c) (cmpD o) (cmpD o')
 | cu, .and a b => dAnd (evE m cu a) (evE m cu b)
 | cu, .or a b => dOr (evE m cu a) (evE m cu b)
 | cu, .not a => dNot (evE m cu a)
 | cu, .ite t a b => dIf (evT m cu t) (evE m cu a) (evE m cu b)
 | cu, .tup l => dTup (evL m cu l)
 | cu, .lst l => dLst (evL m cu l)
 | cu, .new l => dNew (evL m cu l)
 | cu, .idx a b => dB (evE m cu a) (evE m cu b) opIdx
 | cu, .slc a lo hi => dSl (evE m cu a) (evO m cu lo) (evO m cu hi)
 | cu, .fld a f => dFld m.ft (evE m cu a) f
 | cu, .cal pu i dd l => dCl (evL m cu l) (m.f pu i) (dd.map Cst.d)
 | cu, .met pu a x t l => dMe (evE m cu a) (evL m cu l) (m.me pu t) x
 | cu, .mak pu c i dd l => dCl (evL m cu l) (if pu = true then mkP c (m.M i) (dd.map Cst.d) else mkC c (m.M i) (dd.map Cst.d)) []
 | cu, .bif b l => dBi (evL m cu l) b.op
 | cu, .bim b a l => dM (evE m cu a) b.c (evL m cu l) b.op
 | cu, .isi t a => dU (evE m cu a) (isiD t)
 | cu, .lset a => dU (evE m cu a) opLset
 | cu, .dcr a => dDcr (evE m cu a)
 | cu, .dis l => dDis (evP m cu l)
 | cu, .sst a => dU (evE m cu a) opSst
 | cu, .ink a b => dB (evE m cu a) (evE m cu b) opInk
 | cu, .nink a b => dB (evE m cu a) (evE m cu b) opNink
 | cu, .sky a => dU (evE m cu a) opSky
 | cu, .lky a => dU (evE m cu a) opLky
 | cu, .dg1 a k => dGet1 (evE m cu a) (evE m cu k)
 | _, .dfr => dDfr
 | _, .dnw => dDnw
 | cu, .isx i t => dIsx cu i t
 | cu, .isc t a => dU (evE m cu a) (iscD t)
 | cu, .bi0 b a => dM (evE m cu a) b.c dNil b.op
 | cu, .bnw b l => dBn (evL m cu l) b.op
 | cu, .kge t a d => kGet (t.map fun p => (p.1, p.2.d)) (evE m cu a) (evE m cu d)
 | cu, .ban a b => dBX (evE m cu a) (evE m cu b) opAddN
 | cu, .dge a k d => dGet (evE m cu a) (evE m cu k) (evE m cu d)
 | cu, .dse a k d => dSetd (evE m cu a) (evE m cu k) (evE m cu d)
 | _, .dcl t => dDcl t
 | cu, .lr2 a b => dLr2 (evE m cu a) (evE m cu b)
 | cu, .lrg a => dLrg (evE m cu a)
 | cu, .dpo a k => dPop (evE m cu a) (evE m cu k)
 | cu, .cmn e g s t own => dCompN (evS m cu s) g (evQ m cu t) (evE m cu e) (own.map (·.2))
 | cu, .cod e w g a t own => dCompD w (evE m cu a) g (evQ m cu t) (evE m cu e) (own.map (·.2))
 | cu, .com e g s t own => dComp (evS m cu s) g (evQ m cu t) (evE m cu e) (own.map (·.2))
def evT (m : Sm) : Cu → Tx → F Bool
 | cu, .val a => dT (evE m cu a)
 | cu, .cmp o a b => dT (dB (evE m cu a) (evE m cu b) (cmpD o))
 | cu, .ink a b => dT (dB (evE m cu a) (evE m cu b) opInk)
 | cu, .nink a b => dT (dB (evE m cu a) (evE m cu b) opNink)
 | cu, .chn o o' a b c => dT (dCh (evE m cu a) (evE m cu b) (evE m cu c) (cmpD o) (cmpD o'))
 | cu, .and a b => bAnd (evT m cu a) (evT m cu b)
 | cu, .or a b => bOr (evT m cu a) (evT m cu b)
 | cu, .not a => bNot (evT m cu a)
def evL (m : Sm) : Cu → Exs → F (List D)
 | _, .nil => dNil
 | cu, .cons a l => dCons (evE m cu a) (evL m cu l)
def evP (m : Sm) : Cu → Prs → List (F D × F D)
 | _, .nil => []
 | cu, .cons k v l => (evE m cu k, evE m cu v) :: evP m cu l
def evO (m : Sm) : Cu → Oe → F (Option Int)
 | _, .no => pNone
 | cu, .so a => pSome (evE m cu a)
def evQ (m : Sm) : Cu → Ot → F Bool
 | _, .no => bYes
 | cu, .so a => evT m cu a
def evS (m : Sm) : Cu → Sr → F Src
 | cu, .seq a => iSeq (evE m cu a)
 | cu, .rg1 a => iRange1 (evE m cu a)
 | cu, .rg2 a b => iRange2 (evE m cu a) (evE m cu b)
 | cu, .enu a => iEnu (evE m cu a)
 | cu, .zip a b => iZip (evE m cu a) (evE m cu b)
 | cu, .txt a => iTxt (evE m cu a)
end
mutual
def evSt (m : Sm) : Cu → St → FS
 | _, .pass => sNx
 | _, .brk => sBrk
 | _, .cnt => sCnt
 | _, .never => sNever
 | cu, .asg g e => sAsg (evE m cu e) g
 | cu, .drop e => sDrop (evE m cu e)
 | cu, .ret e => sRet (evE m cu e)
 | _, .retN => sRetN
 | cu, .ite t a b => sIf (evT m cu t) (evB m cu a) (evB m cu b)
 | cu, .whl n t b => whl (evT m cu t) (evB m cu b) n
 | cu, .for s g b => sFor (evS m cu s) g (evB m cu b)
 | cu, .fod w a g b => sForD w (evE m cu a) g (evB m cu b)
 | cu, .fld a f v => sFldD m.ft (evE m cu a) f (evE m cu v)
 | cu, .sub o i v => sSub (evE m cu o) (evE m cu i) (evE m cu v)
 | cu, .sbk o i => sSbk (evE m cu o) (evE m cu i)
 | _, .rai c => sRaise c
 | cu, .try b l => sTryN (evB m cu b) (evC m l)
def evB (m : Sm) : Cu → Bk → FS
 | _, .nil => sNx
 | cu, .cons s b => sSeq (evSt m cu s) (evB m cu b)
 | cu, .wip l b => sWip l (evB m cu b)
def evC (m : Sm) : Hcs → List DCl
 | .nil => []
 | .cons i t b l => ⟨i, fun c => match t.lookup c with
  | some true => some (some (evB m (i.map fun i => (i, c)) b))
  | some false => some none
  | none => none⟩ :: evC m l
end
def Tb.f (T : Tb) : FT := fun c f => decide ((c, f) ∈ T.ft)
def chOf (mg : Str → Option Value) (x : Str) : Value := match mg x with
 | some v => v
 | none => (bootBuiltins x).getD .none
def nmOk (x : Str) : Bool := !(x == ("__debug__" : Str)) && !(x == ("__classdict__" : Str))
structure TOk (T : Tb) (m : Sm) (k : Nat) (P : Program) (w : World) (K : PySem.W.Frag) (mg : Str → Option Value) (base : Heap) (G : Cg) : Prop where
 ft : m.ft = T.f
 fok : FOk G T.f
 bn : ∀ x ∈ T.bn, mg x = none
 gl : ∀ p ∈ T.gl, ∃ u, mg p.1 = some u ∧ RelV p.2.v u
 fn : ∀ i t, T.fn[i]? = some t → t.dd ≠ [] → ∃ fa, mg t.nm = some (.ref fa) ∧ ∀ n dd, (n, dd) ∈ t.dd → Cal G P w mg base (2 * k) fa n (dd.map Cst.d) (m.M i)
 me : ∀ c x n i dd, (c, x, n, i, dd) ∈ T.me → ∃ fa, Cls G.K (G.cad c) ∧ Meth G.K (G.cad c) x fa ∧ Cal G P w mg base (2 * k) fa n (dd.map Cst.d) (m.M i)
 mks : ∀ c x n i dd, (c, x, n, i, dd) ∈ T.mks → ∃ fi, mg x = some (.ref (G.cad c)) ∧ Mk G.K (G.cad c) fi ∧ Cal G P w mg base (2 * k) fi n (dd.map Cst.d) (m.M i)
 ex : ∀ q ∈ T.ex, mg q.2 = some (.ref (G.cad q.1)) ∧ ExC G q.1
 xn : ∀ x ∈ T.xn, mg x = some (chOf mg x) ∨ (mg x = none ∧ bootBuiltins x = some (chOf mg x) ∧ x ≠ "__name__")
 xm : ∀ q ∈ T.xm, PySem.W.exmOne G.K (.ref (G.cad q.1)) (chOf mg q.2.1) = some q.2.2
 xi : ∀ q ∈ T.xi, L2.ExcC G.K (G.cad q.1) ∧ ∃ v : V, RelV v (chOf mg q.2.1) ∧ (∀ u, RelV v u → u = chOf mg q.2.1) ∧ PySem.W.kitOne G.K (.ref (G.cad q.1)) (chOf mg q.2.1) = some q.2.2
 ic : ∀ q ∈ T.ic, InsX G.K (G.cad q.1) ∧ ∃ v : V, ClsV v (chOf mg q.2.1) ∧ RelV v (chOf mg q.2.1) ∧ PySem.W.kitOne G.K (.ref (G.cad q.1)) (chOf mg q.2.1) = some q.2.2
 tab : ∀ q ∈ T.tab, ∃ a, mg q.1 = some (.ref a) ∧ KTab K w a (q.2.map fun p => (p.1, p.2.v))
structure Sc where
 N : List Str
 sc : Scope
 fn : Str → Bool
 cm : Bool
 df : Bool
def visB (sc : Scope) (x : Str) : Bool := match sc.names.lookup x with
 | some .local => true
 | some .cell => true
 | some .free => true
 | _ => false
def locB (sc : Scope) (x : Str) : Bool := match sc.names.lookup x with
 | some .local => true
 | some .cell => true
 | _ => false
def glB (sc : Scope) (x : Str) : Bool := match sc.names.lookup x with
 | some .globalImplicit => true
 | _ => false
def isLocal (sc : Scope) (x : Str) : Bool := match sc.names.lookup x with
 | some .local => true
 | _ => false
structure Ok (T : Tb) (m : Sm) (k : Nat) (Γ : Sc) (cu : Cu) (X : Cx) (G : Cf) (W : WX) : Prop where
 hK : G.K = X.K
 hW : G.w = X.w
 t : TOk T m k X.prog X.w X.K X.mg X.base G.toCg
 hN : X.N = Γ.N
 nd : X.N.Nodup
 un : X.A.units + 65 < cLine
 kd : X.env.scope.kind = .function
 sc : X.env.scope = Γ.sc
 fn : X.fn = Γ.fn
 cm : Γ.cm = true → X.calm = true ∧ Room (2 * k + 1) X.A ∧ Takes X W ∧ PassesOwn (model X.prog X.w) X.A X.env X.xe ∧ cu = none
 df : Γ.df = true → X.stack = X.env :: X.outer ∧ X.env.frame = some X.env.locals
 c0 : cu = none → G.cur = none
 c1 : ∀ i c, cu = some (i, c) → ∃ a, G.cur = some (i, c, a) ∧ (L2.ExcC X.K (G.cad c) → CallR X (.builtin "isinstance") (rIsE X.K (G.cad c) a))
 c2 : ∀ i c a, G.cur = some (i, c, a) → cu = some (i, c)
def chCst : Cst → Const → Bool
 | .non, .none => true
 | .bl b, .bool c => b == c
 | .int i, .int j => decide (i = j)
 | .str x, .str y => decide (x = y)
 | _, _ => false
def blkB (N : List Str) (sc scope : Scope) (own : List (Str × Nat)) : Bool :=
 decide (scope.kind = .function) && scope.names.all (fun y => decide (scope.names.lookup y.1 = some y.2)) && own.all (fun p => decide (N[p.2]? = some p.1)) &&
  scope.names.all (fun y => match y.2 with
   | .free => decide (sc.names.lookup y.1 = some .cell) || decide (sc.names.lookup y.1 = some .free)
   | .local => decide (y.1 ∈ own.map (·.1)) || !decide (y.1 ∈ N)
   | .cell => decide (y.1 ∈ own.map (·.1)) || !decide (y.1 ∈ N)
   | _ => true)
theorem blk_ok {N : List Str} {sc scope : Scope} {own : List (Str × Nat)} (h : blkB N sc scope own = true) : BlkOk N sc scope own := by
 unfold blkB at h
 simp only [Bool.and_eq_true, decide_eq_true_eq, List.all_eq_true] at h
 obtain ⟨⟨⟨h1, h2⟩, h3⟩, h4⟩ := h
 refine ⟨h1, h2, h3, fun y hy e => ?_, fun y hy e => ?_⟩
 ·have z := h4 y hy
  rw [e] at z
  simpa using z
 ·have z := h4 y hy
  rcases e with e | e <;> rw [e] at z <;> simpa using z
mutual
def chG (Γ : Sc) : Tg → Expr → Bool
 | .nm i, x => match x with
  | .Name y _ => decide (Γ.N[i]? = some y) && locB Γ.sc y && (Γ.fn y || isLocal Γ.sc y)
  | _ => false
 | .tp l, x => match x with
  | .Tuple es _ _ => Γ.cm && chGs Γ l es && es.all noStar && decide (es.length = l.length)
  | _ => false
def chGs (Γ : Sc) : List Tg → List Expr → Bool
 | [], es => match es with
  | [] => true
  | _ => false
 | t :: l, es => match es with
  | e :: es => chG Γ t e && noStar e && chGs Γ l es
  | [] => false
end
def Tb.okF (T : Tb) (i n : Nat) (dd : List Cst) (y : Str) : Bool := match T.fn[i]? with
 | some t => decide (t.nm = y) && decide ((n, dd) ∈ t.dd)
 | none => false
def Sc.blk (Γ : Sc) (scope : Scope) : Sc := ⟨Γ.N, relS scope Γ.sc, fun x => scope.names.lookup x == some .cell, Γ.cm, false⟩
def plainT : Expr → Bool
 | .UnaryOp .Not _ _ => false
 | .BoolOp _ _ _ => false
 | .IfExp _ _ _ _ => false
 | .Compare _ _ _ _ => false
 | _ => true
def srT : Sr → Bool
 | .enu _ => true
 | .zip _ _ => true
 | _ => false
def isTupE : Expr → Bool
 | .Tuple _ _ _ => true
 | _ => false
def dwI (w : Dw) (x : Expr) : Option Expr := match w with
 | .ks => some x
 | .km => match x with
  | .Call (.Attribute o y p) [] [] q => if (decide (y = ("keys" : Str)) && okBase o && (p.endLine == q.line)) = true then some o else none
  | _ => none
 | .vs => match x with
  | .Call (.Attribute o y p) [] [] q => if (decide (y = ("values" : Str)) && okBase o && (p.endLine == q.line)) = true then some o else none
  | _ => none
 | .its => match x with
  | .Call (.Attribute o y p) [] [] q => if (decide (y = ("items" : Str)) && okBase o && (p.endLine == q.line)) = true then some o else none
  | _ => none
def notCod : Ex → Bool
 | .cod _ _ _ _ _ _ => false
 | _ => true
mutual
def chE (T : Tb) : Sc → Ex → Expr → Bool
 | Γ, .var i, x => match x with
  | .Name y _ => decide (Γ.N[i]? = some y) && visB Γ.sc y && nmOk y
  | _ => false
 | _, .cst c, x => match x with
  | .Constant k _ _ => chCst c k
  | _ => false
 | Γ, .glb c, x => match x with
  | .Name y _ => glB Γ.sc y && decide ((y, c) ∈ T.gl) && nmOk y
  | _ => false
 | Γ, .bin o a b, x => match x with
  | .BinOp p q r _ => decide (q = o) && (binD o).isSome && chE T Γ a p && chE T Γ b r
  | _ => false
 | Γ, .neg a, x => match x with
  | .UnaryOp .USub p _ => chE T Γ a p
  | _ => false
 | Γ, .cmp o a b, x => match x with
  | .Compare p [q] [r] _ => decide (q = o) && noSet r && chE T Γ a p && chE T Γ b r
  | _ => false
 | Γ, .chn o o' a b c, x => match x with
  | .Compare p [q, q'] [r, s] _ => decide (q = o) && decide (q' = o') && noSet s && chE T Γ a p && chE T Γ b r && chE T Γ c s
  | _ => false
 | Γ, .and a b, x => match x with
  | .BoolOp .And (p :: q :: r) ps => chE T Γ a p && (match r with
   | [] => chE T Γ b q
   | _ => chE T Γ b (.BoolOp .And (q :: r) ps))
  | _ => false
 | Γ, .or a b, x => match x with
  | .BoolOp .Or (p :: q :: r) ps => chE T Γ a p && (match r with
   | [] => chE T Γ b q
   | _ => chE T Γ b (.BoolOp .Or (q :: r) ps))
  | _ => false
 | Γ, .not a, x => match x with
  | .UnaryOp .Not p _ => chE T Γ a p
  | _ => false
 | Γ, .ite t a b, x => match x with
  | .IfExp c p q _ => chT T Γ t c && chE T Γ a p && chE T Γ b q
  | _ => false
 | Γ, .tup l, x => match x with
  | .Tuple es _ _ => chL T Γ l es
  | _ => false
 | Γ, .lst l, x => match x with
  | .List es _ => chL T Γ l es
  | _ => false
 | Γ, .new l, x => match x with
  | .List es _ => chL T Γ l es
  | _ => false
 | Γ, .idx a b, x => match x with
  | .Subscript p q _ => noSlice q && chE T Γ a p && chE T Γ b q
  | _ => false
 | Γ, .slc a lo hi, x => match x with
  | .Subscript p (.Slice l h none _) _ => chE T Γ a p && chO T Γ lo l && chO T Γ hi h
  | _ => false
 | Γ, .fld a f, x => match x with
  | .Attribute p g _ => decide (g = f) && okBase p && chE T Γ a p
  | _ => false
 | Γ, .cal _ i dd l, x => match x with
  | .Call (.Name y _) es [] _ => Γ.cm && glB Γ.sc y && nmOk y && T.okF i es.length dd y && es.all noStar && chL T Γ l es
  | _ => false
 | Γ, .met _ a m t l, x => match x with
  | .Call (.Attribute o y p) es [] q => Γ.cm && decide (y = m) && okBase o && (p.endLine == q.line) && es.all noStar && decide (es.length < 18) && t.all (fun z => decide ((z.1, m, es.length + 1, z.2.1, z.2.2) ∈ T.me)) && chE T Γ a o && chL T Γ l es
  | _ => false
 | Γ, .mak _ c i dd l, x => match x with
  | .Call (.Name y _) es [] _ => Γ.cm && glB Γ.sc y && nmOk y && decide ((c, y, es.length + 1, i, dd) ∈ T.mks) && es.all noStar && chL T Γ l es
  | _ => false
 | Γ, .bif b l, x => match x with
  | .Call (.Name y _) (e :: es) [] _ => Γ.cm && glB Γ.sc y && decide (y = Str.ofString b.nm) && decide (y ∈ T.bn) && (e :: es).all noStar && chL T Γ l (e :: es)
  | _ => false
 | Γ, .bim b a l, x => match x with
  | .Call (.Attribute o y p) (e :: es) [] q => decide (y = Str.ofString b.nm) && okBase o && (p.endLine == q.line) && (e :: es).all noStar && decide (es.length < 20) && chE T Γ a o && chL T Γ l (e :: es)
  | _ => false
 | Γ, .isi t a, x => match x with
  | .Call (.Name y _) [e, .Name z _] [] _ => glB Γ.sc y && glB Γ.sc z && decide (y = ("isinstance" : Str)) && decide (y ∈ T.bn) && decide (z = Str.ofString t.name) && decide (z ∈ T.bn) && noStar e && decide (t ≠ .non) && chE T Γ a e
  | _ => false
 | Γ, .ink a b, x => match x with
  | .Compare e [.In] [f] _ => noSet f && chE T Γ a e && chE T Γ b f
  | _ => false
 | Γ, .nink a b, x => match x with
  | .Compare e [.NotIn] [f] _ => noSet f && chE T Γ a e && chE T Γ b f
  | _ => false
 | Γ, .sst a, x => match x with
  | .Call (.Name y _) [.Call (.Name z _) [e] [] _] [] _ => Γ.cm && glB Γ.sc y && glB Γ.sc z && decide (y = ("sorted" : Str)) && decide (y ∈ T.bn) && decide (z = ("set" : Str)) && decide (z ∈ T.bn) && noStar e && chE T Γ a e
  | _ => false
 | Γ, .sky a, x => match x with
  | .Call (.Name y _) [.Call (.Attribute o z p) [] [] q] [] _ => Γ.cm && glB Γ.sc y && decide (y = ("sorted" : Str)) && decide (y ∈ T.bn) && decide (z = ("keys" : Str)) && okBase o && (p.endLine == q.line) && chE T Γ a o
  | _ => false
 | Γ, .lky a, x => match x with
  | .Call (.Name y _) [.Call (.Attribute o z p) [] [] q] [] _ => Γ.cm && glB Γ.sc y && decide (y = ("list" : Str)) && decide (y ∈ T.bn) && decide (z = ("keys" : Str)) && okBase o && (p.endLine == q.line) && chE T Γ a o
  | _ => false
 | Γ, .dg1 a k, x => match x with
  | .Call (.Attribute o y p) [e] [] q => decide (y = ("get" : Str)) && okBase o && (p.endLine == q.line) && noStar e && chE T Γ a o && chE T Γ k e
  | _ => false
 | Γ, .dcr a, x => match x with
  | .Call (.Attribute o y p) [] [] q => decide (y = ("clear" : Str)) && okBase o && (p.endLine == q.line) && chE T Γ a o
  | _ => false
 | Γ, .dis l, x => match x with
  | .Dict ks vs _ => decide (ks ≠ []) && decide (ks.length ≤ 15) && chP T Γ l ks vs
  | _ => false
 | Γ, .lset a, x => match x with
  | .Call (.Name y _) [.Call (.Name z _) [e] [] _] [] _ => Γ.cm && glB Γ.sc y && glB Γ.sc z && decide (y = ("len" : Str)) && decide (y ∈ T.bn) && decide (z = ("set" : Str)) && decide (z ∈ T.bn) && noStar e && chE T Γ a e
  | _ => false
 | _, .dfr, x => match x with
  | .Dict [] [] _ => true
  | _ => false
 | _, .dnw, x => match x with
  | .Dict [] [] _ => true
  | _ => false
 | Γ, .isx i t, x => match x with
  | .Call (.Name y _) [.Name e _, .Name z _] [] _ => glB Γ.sc y && glB Γ.sc z && decide (y = ("isinstance" : Str)) && decide (y ∈ T.bn) && decide (Γ.N[i]? = some e) && visB Γ.sc e && nmOk e && nmOk z && decide (z ∈ T.xn) && t.all (fun q => decide ((q.1, z, q.2) ∈ T.xi))
  | _ => false
 | Γ, .isc t a, x => match x with
  | .Call (.Name y _) [e, .Name z _] [] _ => glB Γ.sc y && glB Γ.sc z && decide (y = ("isinstance" : Str)) && decide (y ∈ T.bn) && nmOk z && decide (z ∈ T.xn) && t.all (fun q => decide ((q.1, z, q.2) ∈ T.ic)) && noStar e && !t.isEmpty && chE T Γ a e
  | _ => false
 | Γ, .bi0 b a, x => match x with
  | .Call (.Attribute o y p) [] [] q => decide (y = Str.ofString b.nm) && okBase o && (p.endLine == q.line) && chE T Γ a o
  | _ => false
 | Γ, .bnw b l, x => match x with
  | .Call (.Name y _) (e :: es) [] _ => Γ.cm && glB Γ.sc y && decide (y = Str.ofString b.nm) && decide (y ∈ T.bn) && (e :: es).all noStar && chL T Γ l (e :: es)
  | _ => false
 | Γ, .kge t a d, x => match x with
  | .Call (.Attribute (.Name z _) y p) [e, e'] [] q => decide (y = ("get" : Str)) && glB Γ.sc z && nmOk z && decide ((z, t) ∈ T.tab) && (p.endLine == q.line) && noStar e && noStar e' && chE T Γ a e && chE T Γ d e'
  | _ => false
 | Γ, .ban a b, x => match x with
  | .BinOp p .Add r _ => chE T Γ a p && chE T Γ b r
  | _ => false
 | Γ, .dge a k d, x => match x with
  | .Call (.Attribute o y p) [e, e'] [] q => decide (y = ("get" : Str)) && okBase o && (p.endLine == q.line) && noStar e && noStar e' && chE T Γ a o && chE T Γ k e && chE T Γ d e'
  | _ => false
 | Γ, .dse a k d, x => match x with
  | .Call (.Attribute o y p) [e, e'] [] q => decide (y = ("setdefault" : Str)) && okBase o && (p.endLine == q.line) && noStar e && noStar e' && chE T Γ a o && chE T Γ k e && chE T Γ d e'
  | _ => false
 | _, .dcl t, x => match x with
  | .Dict ks vs _ => chDc t ks vs && decide (t ≠ []) && decide (t.length ≤ 15) && decide (t.map (·.1)).Nodup
  | _ => false
 | Γ, .lr2 a b, x => match x with
  | .Call (.Name y _) [.Call (.Name z _) [e, e'] [] _] [] _ => Γ.cm && glB Γ.sc y && glB Γ.sc z && decide (y = ("list" : Str)) && decide (y ∈ T.bn) && decide (z = ("range" : Str)) && decide (z ∈ T.bn) && noStar e && noStar e' && chE T Γ a e && chE T Γ b e'
  | _ => false
 | Γ, .lrg a, x => match x with
  | .Call (.Name y _) [.Call (.Name z _) [e] [] _] [] _ => Γ.cm && glB Γ.sc y && glB Γ.sc z && decide (y = ("list" : Str)) && decide (y ∈ T.bn) && decide (z = ("range" : Str)) && decide (z ∈ T.bn) && noStar e && chE T Γ a e
  | _ => false
 | Γ, .dpo a k, x => match x with
  | .Call (.Attribute o y p) [e] [] q => decide (y = ("pop" : Str)) && okBase o && (p.endLine == q.line) && noStar e && chE T Γ a o && chE T Γ k e
  | _ => false
 | Γ, .cmn e g s t own, x => match x with
  | .ListComp el [⟨tg, it, ifs, 0⟩] scope _ => Γ.cm && (!srT s || isTupE tg) && chS T Γ s it && noSetT it && blkB Γ.N Γ.sc scope own && (slotsT g).all (fun i => decide (i ∈ own.map (·.2))) && chG (Γ.blk scope) g tg && chQ T (Γ.blk scope) t ifs && chE T (Γ.blk scope) e el
  | _ => false
 | Γ, .cod e w g a t own, x => match x with
  | .ListComp el [⟨tg, it, ifs, 0⟩] scope _ => Γ.cm && (!decide (w = .its) || isTupE tg) && (match dwI w it with
   | some o => chE T Γ a o
   | none => false) && noSetT it && blkB Γ.N Γ.sc scope own && (slotsT g).all (fun i => decide (i ∈ own.map (·.2))) && chG (Γ.blk scope) g tg && chQ T (Γ.blk scope) t ifs && chE T (Γ.blk scope) e el
  | _ => false
 | Γ, .com e g s t own, x => match x with
  | .ListComp el [⟨tg, it, ifs, 0⟩] scope _ => Γ.cm && (!srT s || isTupE tg) && chS T Γ s it && noSetT it && blkB Γ.N Γ.sc scope own && (slotsT g).all (fun i => decide (i ∈ own.map (·.2))) && chG (Γ.blk scope) g tg && chQ T (Γ.blk scope) t ifs && chE T (Γ.blk scope) e el
  | _ => false
def chT (T : Tb) : Sc → Tx → Expr → Bool
 | Γ, .val a, x => plainT x && chE T Γ a x
 | Γ, .ink a b, x => match x with
  | .Compare e [.In] [f] _ => noSet f && chE T Γ a e && chE T Γ b f
  | _ => false
 | Γ, .nink a b, x => match x with
  | .Compare e [.NotIn] [f] _ => noSet f && chE T Γ a e && chE T Γ b f
  | _ => false
 | Γ, .cmp o a b, x => match x with
  | .Compare p [q] [r] _ => decide (q = o) && noSet r && chE T Γ a p && chE T Γ b r
  | _ => false
 | Γ, .chn o o' a b c, x => match x with
  | .Compare p [q, q'] [r, s] _ => decide (q = o) && decide (q' = o') && noSet s && chE T Γ a p && chE T Γ b r && chE T Γ c s
  | _ => false
 | Γ, .and a b, x => match x with
  | .BoolOp .And (p :: q :: r) ps => chT T Γ a p && (match r with
   | [] => chT T Γ b q
   | _ => chT T Γ b (.BoolOp .And (q :: r) ps))
  | _ => false
 | Γ, .or a b, x => match x with
  | .BoolOp .Or (p :: q :: r) ps => chT T Γ a p && (match r with
   | [] => chT T Γ b q
   | _ => chT T Γ b (.BoolOp .Or (q :: r) ps))
  | _ => false
 | Γ, .not a, x => match x with
  | .UnaryOp .Not p _ => chT T Γ a p
  | _ => false
def chL (T : Tb) : Sc → Exs → List Expr → Bool
 | _, .nil, es => match es with
  | [] => true
  | _ => false
 | Γ, .cons a l, es => match es with
  | e :: es => noStar e && chE T Γ a e && chL T Γ l es
  | [] => false
def chP (T : Tb) : Sc → Prs → List (Option Expr) → List Expr → Bool
 | _, .nil, ks, vs => match ks, vs with
  | [], [] => true
  | _, _ => false
 | Γ, .cons k v l, ks, vs => match ks, vs with
  | some a :: ks, b :: vs => chE T Γ k a && chE T Γ v b && chP T Γ l ks vs
  | _, _ => false
def chO (T : Tb) : Sc → Oe → Option Expr → Bool
 | _, .no, x => match x with
  | none => true
  | _ => false
 | Γ, .so a, x => match x with
  | some e => chE T Γ a e
  | none => false
def chQ (T : Tb) : Sc → Ot → List Expr → Bool
 | _, .no, es => match es with
  | [] => true
  | _ => false
 | Γ, .so a, es => match es with
  | [e] => chT T Γ a e
  | _ => false
def chS (T : Tb) : Sc → Sr → Expr → Bool
 | Γ, .seq a, x => chE T Γ a x
 | Γ, .txt a, x => chE T Γ a x
 | Γ, .rg1 a, x => match x with
  | .Call (.Name y _) [e] [] _ => glB Γ.sc y && decide (y = ("range" : Str)) && decide (y ∈ T.bn) && noStar e && chE T Γ a e
  | _ => false
 | Γ, .rg2 a b, x => match x with
  | .Call (.Name y _) [e, e'] [] _ => glB Γ.sc y && decide (y = ("range" : Str)) && decide (y ∈ T.bn) && noStar e && noStar e' && chE T Γ a e && chE T Γ b e'
  | _ => false
 | Γ, .enu a, x => match x with
  | .Call (.Name y _) [e] [] _ => glB Γ.sc y && decide (y = ("enumerate" : Str)) && decide (y ∈ T.bn) && noStar e && chE T Γ a e
  | _ => false
 | Γ, .zip a b, x => match x with
  | .Call (.Name y _) [e, e'] [] _ => glB Γ.sc y && decide (y = ("zip" : Str)) && decide (y ∈ T.bn) && noStar e && noStar e' && chE T Γ a e && chE T Γ b e'
  | _ => false
end
def swB (Γ : Sc) (tg v : Expr) : Bool := match tg, v with
 | .Name y py, .ListComp _ _ scope pos => (isLocal Γ.sc y && (py.line == pos.line) && !(scope.names.any fun (n, k) => n == y && (k == .local || k == .cell))) || decide (Γ.sc.names.lookup y = some .cell)
 | _, _ => false
mutual
def chSt (T : Tb) : Sc → St → Stmt → Bool
 | _, .pass, x => match x with
  | .Pass _ => true
  | _ => false
 | _, .brk, x => match x with
  | .Break _ => true
  | _ => false
 | _, .cnt, x => match x with
  | .Continue _ => true
  | _ => false
 | _, .never, _ => true
 | Γ, .asg g e, x => match x with
  | .Assign [tg] v _ => chE T Γ e v && chG Γ g tg && (noTup tg || noTup v) && noStar tg && (noComp v || swB Γ tg v) && notCod e
  | _ => false
 | Γ, .drop e, x => match x with
  | .Expr v _ => chE T Γ e v && noComp v
  | _ => false
 | Γ, .ret e, x => match x with
  | .Return (some v) _ => chE T Γ e v
  | _ => false
 | _, .retN, x => match x with
  | .Return none _ => true
  | _ => false
 | Γ, .ite t a b, x => match x with
  | .If c p q _ => chT T Γ t c && chB T Γ a p && chB T Γ b q
  | _ => false
 | Γ, .whl _ t b, x => match x with
  | .While c p [] _ => Γ.cm && chT T Γ t c && chB T Γ b p
  | _ => false
 | Γ, .for s g b, x => match x with
  | .For tg it p [] _ => Γ.cm && (!srT s || isTupE tg) && chS T Γ s it && noSetT it && chG Γ g tg && chB T Γ b p
  | _ => false
 | Γ, .fod w a g b, x => match x with
  | .For tg it p [] _ => Γ.cm && (!decide (w = .its) || isTupE tg) && (match dwI w it with
   | some o => chE T Γ a o
   | none => false) && noSetT it && chG Γ g tg && chB T Γ b p
  | _ => false
 | Γ, .fld a f v, x => match x with
  | .Assign [.Attribute o g _] e _ => decide (g = f) && chE T Γ a o && chE T Γ v e
  | _ => false
 | Γ, .sub o i v, x => match x with
  | .Assign [.Subscript p q _] e _ => noComp e && noSlice q && chE T Γ o p && chE T Γ i q && chE T Γ v e
  | _ => false
 | Γ, .sbk o i, x => match x with
  | .Assign [.Subscript p q _] (.Constant (.bool true) _ _) _ => noSlice q && chE T Γ o p && chE T Γ i q
  | _ => false
 | Γ, .rai c, x => match x with
  | .Raise (some (.Call (.Name y _) [.Constant (.str _) _ _] [] _)) none _ => Γ.cm && glB Γ.sc y && nmOk y && decide ((c, y) ∈ T.ex)
  | _ => false
 | Γ, .try b l, x => match x with
  | .Try p (h :: hs) [] [] _ => Γ.cm && Γ.df && chB T Γ b p && chC T Γ l (h :: hs)
  | _ => false
def chB (T : Tb) : Sc → Bk → List Stmt → Bool
 | _, .nil, x => match x with
  | [] => true
  | _ => false
 | Γ, .cons s b, x => match x with
  | y :: l => chSt T Γ s y && chB T Γ b l
  | [] => false
 | Γ, .wip _ b, x => chB T Γ b x
def chC (T : Tb) : Sc → Hcs → List ExceptHandler → Bool
 | _, .nil, x => match x with
  | [] => true
  | _ => false
 | Γ, .cons i t b l, x => match x with
  | .ExceptHandler (some (.Name y _)) nm (b0 :: rest) _ :: hs => glB Γ.sc y && nmOk y && decide (y ∈ T.xn) && (match nm, i with
   | none, none => true
   | some n, some i => decide (Γ.N[i]? = some n) && isLocal Γ.sc n
   | _, _ => false) && t.all (fun q => decide ((q.1, y, q.2) ∈ T.xm)) && chB T ⟨Γ.N, Γ.sc, Γ.fn, false, false⟩ b (b0 :: rest) && chC T Γ l hs
  | _ => false
end
end Sb
namespace Sb
open L2 PySem PySem.Spec PyProof.Rows
theorem vis_of {sc : Scope} {x : Str} (h : visB sc x = true) : Vis sc x := by
 unfold visB at h
 split at h
 ·rename_i e; exact .inl e
 ·rename_i e; exact .inr (.inl e)
 ·rename_i e; exact .inr (.inr e)
 ·cases h
theorem loc_of {sc : Scope} {x : Str} (h : locB sc x = true) : Loc sc x := by
 unfold locB at h
 split at h
 ·rename_i e; exact .inl e
 ·rename_i e; exact .inr e
 ·cases h
theorem gl_of {sc : Scope} {x : Str} (h : glB sc x = true) : sc.names.lookup x = some .globalImplicit := by
 unfold glB at h
 split at h
 ·rename_i e; exact e
 ·cases h
theorem isl_of {sc : Scope} {x : Str} (h : isLocal sc x = true) : sc.names.lookup x = some .local := by
 unfold isLocal at h
 split at h
 ·rename_i e; exact e
 ·cases h
theorem nm1 {x : Str} (h : nmOk x = true) : (x == ("__debug__" : Str)) = false := by
 unfold nmOk at h
 have z := (Bool.and_eq_true_iff.mp h).1
 simpa using z
theorem nm2 {x : Str} (h : nmOk x = true) : (x == ("__classdict__" : Str)) = false := by
 unfold nmOk at h
 have z := (Bool.and_eq_true_iff.mp h).2
 simpa using z
theorem plain_true {x : Expr} (h : plainT x = true) (env : Env) : ∀ whole, isTrue x env whole = (do let v ← whole; standAt x.pos; holding [v] (truthy v)) := by
 intro whole
 cases x with
 | UnaryOp op a p => cases op <;> first | rfl | cases h
 | BoolOp _ _ _ => cases h
 | IfExp _ _ _ _ => cases h
 | Compare _ _ _ _ => cases h
 | _ => rfl
theorem pw_of {X : Cx} {op : BoolOp} {l : List Expr} {pos : Pos} {t : TT} (h : PT X (.BoolOp op l pos) t) : PW X (.BoolOp op l pos) t := ⟨fun whole pins s σ H Q I q => h.run pins s σ H Q I q⟩
theorem w0 {X : Cx} : Takes X W0 := fun _ _ x => by
 obtain ⟨_, _, _, _, _, _, _, _, _, _, _, _, _, _, _, _, z⟩ := x
 exact z.elim
theorem tk_mem {α : Type} {l : List (Nat × α)} {c : Nat} {q : α} (h : l.lookup c = some q) : (c, q) ∈ l := by
 induction l with
 | nil => cases h
 | cons p r ih =>
  obtain ⟨a, b⟩ := p
  rw [List.lookup_cons] at h
  cases e : c == a with
  | true =>
   rw [e] at h
   cases h
   have := eq_of_beq e
   subst this
   exact List.mem_cons_self
  | false =>
   rw [e] at h
   exact List.mem_cons_of_mem _ (ih h)
section
variable {T : Tb} {m : Sm} {k : Nat} {Γ : Sc} {cu : Cu} {X : Cx} {G : Cf} {W : WX}
theorem Ok.gl (o : Ok T m k Γ cu X G W) {x : Str} (h : glB Γ.sc x = true) : Gl X x := by
 show X.env.scope.names.lookup x = _
 rw [o.sc]; exact gl_of h
theorem Ok.blk (o : Ok T m k Γ cu X G W) (hc : Γ.cm = true) {scope : Scope} (hk : scope.kind = .function) (s : Shared) (H : Hp) (C : Addr) (cl : List (Str × Addr)) (fp : List Addr) : Ok T m k (Γ.blk scope) cu (X.blk s H scope (compEnvC scope cl C X.env) fp) G W0 where
 hK := o.hK
 hW := o.hW
 t := o.t
 hN := o.hN
 nd := o.nd
 un := o.un
 kd := hk
 sc := by show relS scope X.env.scope = relS scope Γ.sc; rw [o.sc]
 fn := rfl
 cm := fun _ => ⟨(o.cm hc).1, (o.cm hc).2.1, w0, PassesOwn.never, (o.cm hc).2.2.2.2⟩
 df := fun z => by cases z
 c0 := o.c0
 c1 := fun i c z => by rw [(o.cm hc).2.2.2.2] at z; cases z
 c2 := o.c2
theorem Ok.tr (o : Ok T m k Γ cu X G W) (hc : Γ.cm = true) {W' : WX} {pn : List (Addr × Obj)} {xe : Value → Shared → Prop} (tk : Takes (X.tr pn xe) W') (ps : PassesOwn (model X.prog X.w) X.A X.env xe) : Ok T m k Γ cu (X.tr pn xe) G W' where
 hK := o.hK
 hW := o.hW
 t := o.t
 hN := o.hN
 nd := o.nd
 un := o.un
 kd := o.kd
 sc := o.sc
 fn := o.fn
 cm := fun _ => ⟨(o.cm hc).1, (o.cm hc).2.1, tk, ps, (o.cm hc).2.2.2.2⟩
 df := o.df
 c0 := o.c0
 c1 := fun i c z => by rw [(o.cm hc).2.2.2.2] at z; cases z
 c2 := o.c2
theorem Ok.suite (o : Ok T m k Γ cu X G W) {i : Option Nat} {c : Nat} {a : Addr} {ob : Obj} {pn : List (Addr × Obj)} (hz : Zc (.ref (G.cad c)) none ob) (hd : ∃ z, ob.data = .fields z) :
  Ok T m k ⟨Γ.N, Γ.sc, Γ.fn, false, false⟩ (i.map fun i => (i, c)) (X.suite a ((a, ob) :: pn)) (G.hand i c a) W0 where
 hK := o.hK
 hW := o.hW
 t := o.t
 hN := o.hN
 nd := o.nd
 un := o.un
 kd := o.kd
 sc := o.sc
 fn := o.fn
 cm := fun z => by cases z
 df := fun z => by cases z
 c0 := fun z => by
  cases i with
  | none => rfl
  | some j => cases z
 c1 := fun j c' z => by
  cases i with
  | none => cases z
  | some j' =>
   cases z
   exact ⟨a, rfl, fun C => call_isE C hz hd⟩
 c2 := fun j c' a' z => by
  cases i with
  | none => cases z
  | some j' => cases z; rfl
end
mutual
theorem sG {T : Tb} {m : Sm} {k : Nat} : ∀ (g : Tg) {Γ : Sc} {cu : Cu} {X : Cx} {G : Cf} {W : WX} {x : Expr}, Ok T m k Γ cu X G W → (∀ i c, cu = some (i, c) → i ∉ slotsT g) → chG Γ g x = true → PG X x (gT G g)
 | .nm i, Γ, cu, X, G, W, x, o, hn, h => by
  unfold chG at h
  split at h
  rotate_left
  ·cases h
  simp only [Bool.and_eq_true, Bool.or_eq_true, decide_eq_true_eq] at h
  obtain ⟨⟨h1, h2⟩, h3⟩ := h
  refine g_nm o.nd (by rw [o.hN]; exact h1) (by rw [o.sc]; exact loc_of h2) ?_ (fun c a z => hn i c (o.c2 i c a z) (by unfold slotsT; exact List.mem_singleton.mpr rfl))
  rw [o.fn, o.sc]
  exact h3.imp (fun z => z) isl_of
 | .tp l, Γ, cu, X, G, W, x, o, hn, h => by
  unfold chG at h
  split at h
  rotate_left
  ·cases h
  simp only [Bool.and_eq_true, decide_eq_true_eq] at h
  obtain ⟨⟨⟨h1, h2⟩, h3⟩, h4⟩ := h
  exact g_tp o.hK (o.cm h1).1 (sGs l o (fun i c z => by have := hn i c z; unfold slotsT at this; exact this) h2) h3 h4
theorem sGs {T : Tb} {m : Sm} {k : Nat} : ∀ (g : List Tg) {Γ : Sc} {cu : Cu} {X : Cx} {G : Cf} {W : WX} {x : List Expr}, Ok T m k Γ cu X G W → (∀ i c, cu = some (i, c) → i ∉ slotsTs g) → chGs Γ g x = true → PGs X x (gTs G g)
 | [], Γ, cu, X, G, W, x, o, hn, h => by
  unfold chGs at h
  split at h
  ·exact gs_nil
  ·cases h
 | t :: l, Γ, cu, X, G, W, x, o, hn, h => by
  unfold chGs at h
  split at h
  rotate_left
  ·cases h
  simp only [Bool.and_eq_true] at h
  obtain ⟨⟨h1, h2⟩, h3⟩ := h
  have hh : ∀ i c, cu = some (i, c) → i ∉ slotsT t ∧ i ∉ slotsTs l := fun i c z => by
   have := hn i c z
   unfold slotsTs at this
   rw [List.mem_append, not_or] at this
   exact this
  exact gs_cons (sG t o (fun i c z => (hh i c z).1) h1) (sGs l o (fun i c z => (hh i c z).2) h3) h2
end
section
variable {T : Tb} {m : Sm} {k : Nat} {Γ : Sc} {cu : Cu} {X : Cx} {G : Cf} {W : WX}
theorem s_bif (o : Ok T m k Γ cu X G W) (b : BF) {r : F (List D)} {e : Expr} {es : List Expr} {p pos : Pos} (hc : Γ.cm = true) (hg : glB Γ.sc (Str.ofString b.nm) = true) (hb : Str.ofString b.nm ∈ T.bn) (hs : (e :: es).all noStar = true) (ha : PA X (e :: es) (tA G W r)) :
  PE X (.Call (.Name (Str.ofString b.nm) p) (e :: es) [] pos) (tE G W (dBi r b.op)) := by
 have hcm := (o.cm hc).1
 have hm := o.t.bn _ hb
 cases b with
 | len => exact e_callB (cr_len o.hK) (o.gl hg) hm (by decide +kernel) ha hs (by decide +kernel) (by decide +kernel)
 | sum => exact e_callB (cr_sumD o.hK hcm) (o.gl hg) hm (by decide +kernel) ha hs (by decide +kernel) (by decide +kernel)
 | all => exact e_callB (cr_allD o.hK hcm) (o.gl hg) hm (by decide +kernel) ha hs (by decide +kernel) (by decide +kernel)
 | any => exact e_callB (cr_anyD o.hK hcm) (o.gl hg) hm (by decide +kernel) ha hs (by decide +kernel) (by decide +kernel)
 | max => exact e_callB (cr_maxD o.hK hcm) (o.gl hg) hm (by decide +kernel) ha hs (by decide +kernel) (by decide +kernel)
 | min => exact e_callB (cr_minD o.hK hcm) (o.gl hg) hm (by decide +kernel) ha hs (by decide +kernel) (by decide +kernel)
 | int => exact e_callTy cr_intD (o.gl hg) hm (by decide +kernel) ha hs (by decide +kernel) (by decide +kernel)
 | list => exact e_callTy (cr_listD o.hK hcm) (o.gl hg) hm (by decide +kernel) ha hs (by decide +kernel) (by decide +kernel)
 | tuple => exact e_callTy (cr_tupleD o.hK) (o.gl hg) hm (by decide +kernel) ha hs (by decide +kernel) (by decide +kernel)
 | sorted => exact e_callB (cr_sortedD o.hK hcm) (o.gl hg) hm (by decide +kernel) ha hs (by decide +kernel) (by decide +kernel)
 | dict => exact e_callTy cr_dictD (o.gl hg) hm (by decide +kernel) ha hs (by decide +kernel) (by decide +kernel)
 | str => exact e_callTy cr_strD (o.gl hg) hm (by decide +kernel) ha hs (by decide +kernel) (by decide +kernel)
theorem s_bnw (o : Ok T m k Γ cu X G W) (b : BN) {r : F (List D)} {e : Expr} {es : List Expr} {p pos : Pos} (hc : Γ.cm = true) (hg : glB Γ.sc (Str.ofString b.nm) = true) (hb : Str.ofString b.nm ∈ T.bn) (hs : (e :: es).all noStar = true) (ha : PA X (e :: es) (tA G W r)) :
  PE X (.Call (.Name (Str.ofString b.nm) p) (e :: es) [] pos) (tE G W (dBn r b.op)) := by
 have hm := o.t.bn _ hb
 cases b with
 | list => exact e_callTyN (cr_listN o.hK) (o.gl hg) hm (by decide +kernel) ha hs (by decide +kernel) (by decide +kernel)
 | dict => exact e_callTyN cr_dictN (o.gl hg) hm (by decide +kernel) ha hs (by decide +kernel) (by decide +kernel)
 | sorted => exact e_callBN (cr_sortedN o.hK (o.cm hc).1) (o.gl hg) hm (by decide +kernel) ha hs (by decide +kernel) (by decide +kernel)
theorem s_bi0 (o : Ok T m k Γ cu X G W) (b : BM) {f : F D} {q : Expr} {p pos : Pos} (hq : PE X q (tE G W f)) (hb : okBase q = true) (hl : (p.endLine == pos.line) = true) :
  PE X (.Call (.Attribute q (Str.ofString b.nm) p) [] [] pos) (tE G W (dM f b.c dNil b.op)) := by
 cases b with
 | append => exact e_bm0 PySem.F.plainAttrs_list PySem.F.slot_list_append PySem.F.type_list_append mt_appendD (ty_lst o.hK) hq hb hl
 | count => exact e_bm0 PySem.F.plainAttrs_list PySem.F.slot_list_count PySem.F.type_list_count (mt_countD o.hK) (ty_lst o.hK) hq hb hl
 | index => exact e_bm0 PySem.F.plainAttrs_list PySem.F.slot_list_index PySem.F.type_list_index (mt_indexF o.hK) (ty_lst o.hK) hq hb hl
 | clear => exact e_bm0 PySem.F.plainAttrs_list PySem.F.slot_list_clear PySem.F.type_list_clear mt_clearD (ty_lst o.hK) hq hb hl
 | extend => exact e_bm0 PySem.F.plainAttrs_list PySem.F.slot_list_extend PySem.F.type_list_extend mt_extendD (ty_lst o.hK) hq hb hl
 | pop => exact e_bm0 PySem.F.plainAttrs_list PySem.F.slot_list_pop PySem.F.type_list_pop mt_popD (ty_lst o.hK) hq hb hl
 | cntb => exact e_bm0 PySem.F.plainAttrs_list PySem.F.slot_list_count PySem.F.type_list_count (mt_countF o.hK) (ty_lst o.hK) hq hb hl
 | join => exact e_bm0 PySem.F.plainAttrs_str PySem.F.slot_str_join PySem.F.type_str_join (mt_joinD o.hK) ty_str hq hb hl
 | split => exact e_bm0 PySem.F.plainAttrs_str PySem.F.slot_str_split PySem.F.type_str_split mt_splitD ty_str hq hb hl
theorem s_isc (o : Ok T m k Γ cu X G W) {t : List (Nat × Bool)} {a : Expr} {f : F D} {z : Str} {p p2 pos : Pos} (hg : glB Γ.sc ("isinstance" : Str) = true) (hb : ("isinstance" : Str) ∈ T.bn) (hgz : glB Γ.sc z = true) (hz : nmOk z = true) (hn : z ∈ T.xn) (ht : ∀ q ∈ t, (q.1, z, q.2) ∈ T.ic) (hs : noStar a = true) (hne : t.isEmpty = false)
  (ha : PE X a (tE G W f)) : PE X (.Call (.Name "isinstance" p) [a, .Name z p2] [] pos) (tE G W (dU f (iscD t))) := by
 have key : ∀ q ∈ t, _ := fun q hq => o.t.ic _ (ht q hq)
 cases t with
 | nil => cases hne
 | cons q0 t0 =>
  obtain ⟨_, v, cv, rv, _⟩ := key q0 List.mem_cons_self
  have hval : PE X (.Name z p2) (tC v) := by
   rcases o.t.xn z hn with e | ⟨e1, e2, e3⟩
   ·exact pe_glob (o.gl hgz) e rv (nm1 hz)
   ·exact pe_bltn (o.gl hgz) e1 e2 rv e3 (nm1 hz)
  refine e_isc o.hK (o.gl hg) (o.t.bn _ hb) ha hs hval rfl cv fun c r hl => ?_
  obtain ⟨i1, _, _, _, k1⟩ := key _ (tk_mem hl)
  rw [o.hK] at i1 k1
  exact ⟨i1, k1⟩
theorem s_bim (o : Ok T m k Γ cu X G W) (b : BM) {f : F D} {r : F (List D)} {q e : Expr} {es : List Expr} {p pos : Pos} (hq : PE X q (tE G W f)) (ha : PA X (e :: es) (tA G W r)) (hb : okBase q = true) (hl : (p.endLine == pos.line) = true) (hs : (e :: es).all noStar = true) (hn : es.length < 20) :
  PE X (.Call (.Attribute q (Str.ofString b.nm) p) (e :: es) [] pos) (tE G W (dM f b.c r b.op)) := by
 cases b with
 | append => exact e_bm PySem.F.plainAttrs_list PySem.F.slot_list_append PySem.F.type_list_append mt_appendD (ty_lst o.hK) hq ha hb hl hs hn
 | count => exact e_bm PySem.F.plainAttrs_list PySem.F.slot_list_count PySem.F.type_list_count (mt_countD o.hK) (ty_lst o.hK) hq ha hb hl hs hn
 | index => exact e_bm PySem.F.plainAttrs_list PySem.F.slot_list_index PySem.F.type_list_index (mt_indexF o.hK) (ty_lst o.hK) hq ha hb hl hs hn
 | clear => exact e_bm PySem.F.plainAttrs_list PySem.F.slot_list_clear PySem.F.type_list_clear mt_clearD (ty_lst o.hK) hq ha hb hl hs hn
 | extend => exact e_bm PySem.F.plainAttrs_list PySem.F.slot_list_extend PySem.F.type_list_extend mt_extendD (ty_lst o.hK) hq ha hb hl hs hn
 | pop => exact e_bm PySem.F.plainAttrs_list PySem.F.slot_list_pop PySem.F.type_list_pop mt_popD (ty_lst o.hK) hq ha hb hl hs hn
 | cntb => exact e_bm PySem.F.plainAttrs_list PySem.F.slot_list_count PySem.F.type_list_count (mt_countF o.hK) (ty_lst o.hK) hq ha hb hl hs hn
 | join => exact e_bm PySem.F.plainAttrs_str PySem.F.slot_str_join PySem.F.type_str_join (mt_joinD o.hK) ty_str hq ha hb hl hs hn
 | split => exact e_bm PySem.F.plainAttrs_str PySem.F.slot_str_split PySem.F.type_str_split mt_splitD ty_str hq ha hb hl hs hn
theorem s_isx (o : Ok T m k Γ cu X G W) {i : Nat} {t : List (Nat × Bool)} {x z : Str} {p p1 p2 pos : Pos} (hg : glB Γ.sc ("isinstance" : Str) = true) (hb : ("isinstance" : Str) ∈ T.bn) (hi : Γ.N[i]? = some x) (hv : visB Γ.sc x = true) (hx : nmOk x = true) (hgz : glB Γ.sc z = true) (hz : nmOk z = true) (hn : z ∈ T.xn)
  (ht : ∀ q ∈ t, (q.1, z, q.2) ∈ T.xi) : PE X (.Call (.Name "isinstance" p) [.Name x p1, .Name z p2] [] pos) (tE G W (dIsx cu i t)) := by
 cases cu with
 | none => exact e_never
 | some jc =>
  obtain ⟨j, c⟩ := jc
  by_cases hj : i = j
  rotate_left
  ·exact PE.imp (e_never (G := G) (W := W)) fun σ H Q ⟨S, h, e, R, E, P⟩ => by
    unfold dIsx at P
    simp only at P
    rw [if_neg hj] at P
    exact P.elim
  subst hj
  cases hl : t.lookup c with
  | none =>
   exact PE.imp (e_never (G := G) (W := W)) fun σ H Q ⟨S, h, e, R, E, P⟩ => by
    unfold dIsx at P
    simp only [hl, if_true] at P
    exact P.elim
  | some b =>
   obtain ⟨xc, v, rv, uv, kv⟩ := o.t.xi _ (ht _ (tk_mem hl))
   obtain ⟨a, ec, hcall⟩ := o.c1 i c rfl
   have xc2 : L2.ExcC X.K (G.cad c) := by rw [← o.hK]; exact xc
   rw [o.hK] at kv
   have hval : PE X (.Name z p2) (tC v) := by
    rcases o.t.xn z hn with e | ⟨e1, e2, e3⟩
    ·exact pe_glob (o.gl hgz) e rv (nm1 hz)
    ·exact pe_bltn (o.gl hgz) e1 e2 rv e3 (nm1 hz)
   refine PE.imp (pe_callB (id := "isinstance") (hcall xc2) (o.gl hg) (o.t.bn _ hb) (by decide +kernel) (pa_cons (pe_var (i := i) (by rw [o.hN]; exact hi) (by rw [o.sc]; exact vis_of hv) (nm1 hx) (nm2 hx)) (pa_cons hval pa_nil (star_of rfl _ _)) (star_of rfl _ _)) (by decide) (by decide) (star_of rfl _ _) (stars_of rfl)) fun σ H Q ⟨S, h, e, R, E, P⟩ => ?_
   unfold dIsx at P
   simp only [hl, if_true] at P
   exact ⟨.ref a, (E.cur i c a ec).1, v, _, b, rfl, uv, kv, P.here R (.bl b)⟩
end
theorem srT_of {s : Sr} {tg : Expr} (h : srT s = false ∨ isTupE tg = true) : srT s = true → isTupE tg = true := fun z => by
 rcases h with h | h
 ·rw [h] at z; cases z
 ·exact h
theorem dwI_ok {X : Cx} {w : Dw} {tg it o : Expr} (h : dwI w it = some o) (ht : (!decide (w = .its) || isTupE tg) = true) : IterOk X w tg o it := by
 unfold dwI at h
 cases w with
 | ks => cases h; exact it_ks
 | km =>
  simp only at h
  split at h
  ·split at h
   ·rename_i c
    cases h
    simp only [Bool.and_eq_true, decide_eq_true_eq] at c
    obtain ⟨⟨c1, c2⟩, c3⟩ := c
    subst c1
    exact it_km c2 c3
   ·cases h
  ·cases h
 | vs =>
  simp only at h
  split at h
  ·split at h
   ·rename_i c
    cases h
    simp only [Bool.and_eq_true, decide_eq_true_eq] at c
    obtain ⟨⟨c1, c2⟩, c3⟩ := c
    subst c1
    exact it_vs c2 c3
   ·cases h
  ·cases h
 | its =>
  have ht2 : isTupE tg = true := by simpa using ht
  simp only at h
  split at h
  ·split at h
   ·rename_i c
    cases h
    simp only [Bool.and_eq_true, decide_eq_true_eq] at c
    obtain ⟨⟨c1, c2⟩, c3⟩ := c
    subst c1
    cases tg with
    | Tuple _ _ _ => exact it_its c2 c3
    | _ => cases ht2
   ·cases h
  ·cases h
mutual
theorem sE {T : Tb} {m : Sm} {k : Nat} : ∀ (e : Ex) {Γ : Sc} {cu : Cu} {X : Cx} {G : Cf} {W : WX} {x : Expr}, Ok T m k Γ cu X G W → chE T Γ e x = true → PE X x (tE G W (evE m cu e))
 | .var i, Γ, cu, X, G, W, x, o, h => by
  unfold chE at h
  split at h
  rotate_left
  ·cases h
  simp only [Bool.and_eq_true, decide_eq_true_eq] at h
  obtain ⟨⟨h1, h2⟩, h3⟩ := h
  exact PE.imp (pe_var (i := i) (by rw [o.hN]; exact h1) (by rw [o.sc]; exact vis_of h2) (nm1 h3) (nm2 h3)) fun _ _ _ z => tE_var z
 | .cst c, Γ, cu, X, G, W, x, o, h => by
  unfold chE at h
  split at h
  rotate_left
  ·cases h
  rename_i kk _ _
  cases c with
  | non => cases kk <;> first | exact PE.imp pe_non fun _ _ _ z => tE_c (fun _ _ => .non) z | cases h
  | bl b =>
   cases kk <;> first | cases h | skip
   have := eq_of_beq (show (_ == _) = true from h)
   subst this
   exact PE.imp pe_bl fun _ _ _ z => tE_c (fun _ _ => .bl b) z
  | int i =>
   cases kk <;> first | cases h | skip
   have := of_decide_eq_true (show decide _ = true from h)
   subst this
   exact PE.imp pe_int fun _ _ _ z => tE_c (fun _ _ => .int i) z
  | str i =>
   cases kk <;> first | cases h | skip
   have := of_decide_eq_true (show decide _ = true from h)
   subst this
   exact PE.imp pe_str fun _ _ _ z => tE_c (fun _ _ => .str i) z
 | .glb c, Γ, cu, X, G, W, x, o, h => by
  unfold chE at h
  split at h
  rotate_left
  ·cases h
  simp only [Bool.and_eq_true, decide_eq_true_eq] at h
  obtain ⟨⟨h1, h2⟩, h3⟩ := h
  obtain ⟨u, e1, r⟩ := o.t.gl _ h2
  exact PE.imp (pe_glob (o.gl h1) e1 r (nm1 h3)) fun _ _ _ z => tE_c (fun _ _ => c.vd) z
 | .bin q a b, Γ, cu, X, G, W, x, o, h => by
  unfold chE at h
  split at h
  rotate_left
  ·cases h
  simp only [Bool.and_eq_true, decide_eq_true_eq] at h
  obtain ⟨⟨⟨h1, h2⟩, h3⟩, h4⟩ := h
  subst h1
  obtain ⟨op, e⟩ := Option.isSome_iff_exists.mp h2
  have e2 : ∀ {w}, binD w = some op → binF w = op := fun e => by unfold binF; rw [e]; rfl
  unfold evE
  rw [e2 e]
  exact e_op (or_bin o.hK e) (sE a o h3) (sE b o h4)
 | .neg a, Γ, cu, X, G, W, x, o, h => by
  unfold chE at h
  split at h
  rotate_left
  ·cases h
  exact e_un ur_neg (sE a o h)
 | .cmp q a b, Γ, cu, X, G, W, x, o, h => by
  unfold chE at h
  split at h
  rotate_left
  ·cases h
  simp only [Bool.and_eq_true, decide_eq_true_eq] at h
  obtain ⟨⟨⟨h1, h2⟩, h3⟩, h4⟩ := h
  subst h1
  exact e_cmp (or_cmp o.hK o.un _) (sE a o h3) (sE b o h4) (marks_of h2 _)
 | .chn q q' a b c, Γ, cu, X, G, W, x, o, h => by
  unfold chE at h
  split at h
  rotate_left
  ·cases h
  simp only [Bool.and_eq_true, decide_eq_true_eq] at h
  obtain ⟨⟨⟨⟨⟨h1, h2⟩, h3⟩, h4⟩, h5⟩, h6⟩ := h
  subst h1
  subst h2
  exact e_ch (or_cmp o.hK o.un _) (or_cmp o.hK o.un _) (sE a o h4) (sE b o h5) (sE c o h6) h3
 | .and a b, Γ, cu, X, G, W, x, o, h => by
  unfold chE at h
  split at h
  rotate_left
  ·cases h
  simp only [Bool.and_eq_true] at h
  obtain ⟨h1, h2⟩ := h
  split at h2
  ·exact e_and (sE a o h1) (pe_one (sE b o h2))
  ·exact e_and (sE a o h1) (sE b o h2)
 | .or a b, Γ, cu, X, G, W, x, o, h => by
  unfold chE at h
  split at h
  rotate_left
  ·cases h
  simp only [Bool.and_eq_true] at h
  obtain ⟨h1, h2⟩ := h
  split at h2
  ·exact e_or (sE a o h1) (pe_one (sE b o h2))
  ·exact e_or (sE a o h1) (sE b o h2)
 | .not a, Γ, cu, X, G, W, x, o, h => by
  unfold chE at h
  split at h
  rotate_left
  ·cases h
  exact e_not (sE a o h)
 | .ite t a b, Γ, cu, X, G, W, x, o, h => by
  unfold chE at h
  split at h
  rotate_left
  ·cases h
  simp only [Bool.and_eq_true] at h
  obtain ⟨⟨h1, h2⟩, h3⟩ := h
  exact e_if (sT t o h1) (sE a o h2) (sE b o h3)
 | .tup l, Γ, cu, X, G, W, x, o, h => by
  unfold chE at h
  split at h
  rotate_left
  ·cases h
  exact e_tup (sL l o h)
 | .lst l, Γ, cu, X, G, W, x, o, h => by
  unfold chE at h
  split at h
  rotate_left
  ·cases h
  exact e_lst (sL l o h)
 | .new l, Γ, cu, X, G, W, x, o, h => by
  unfold chE at h
  split at h
  rotate_left
  ·cases h
  exact e_new (sL l o h)
 | .idx a b, Γ, cu, X, G, W, x, o, h => by
  unfold chE at h
  split at h
  rotate_left
  ·cases h
  simp only [Bool.and_eq_true] at h
  obtain ⟨⟨h1, h2⟩, h3⟩ := h
  exact e_idx o.hK (by have := o.un; omega) (sE a o h2) (sE b o h3) h1
 | .slc a lo hi, Γ, cu, X, G, W, x, o, h => by
  unfold chE at h
  split at h
  rotate_left
  ·cases h
  simp only [Bool.and_eq_true] at h
  obtain ⟨⟨h1, h2⟩, h3⟩ := h
  exact e_slice o.hK (sE a o h1) (sO lo o h2) (sO hi o h3)
 | .fld a f, Γ, cu, X, G, W, x, o, h => by
  unfold chE at h
  split at h
  rotate_left
  ·cases h
  simp only [Bool.and_eq_true, decide_eq_true_eq] at h
  obtain ⟨⟨h1, h2⟩, h3⟩ := h
  subst h1
  exact e_fld o.hK (by rw [o.t.ft]; exact o.t.fok) (sE a o h3) h2
 | .cal pu i dd l, Γ, cu, X, G, W, x, o, h => by
  unfold chE at h
  split at h
  rotate_left
  ·cases h
  rename_i y p1 es p2
  simp only [Bool.and_eq_true] at h
  obtain ⟨⟨⟨⟨⟨h1, h2⟩, h3⟩, h4⟩, h5⟩, h6⟩ := h
  unfold Tb.okF at h4
  split at h4
  rotate_left
  ·cases h4
  rename_i t et
  simp only [Bool.and_eq_true, decide_eq_true_eq] at h4
  obtain ⟨h7, h8⟩ := h4
  subst h7
  obtain ⟨fa, e1, e2⟩ := o.t.fn i t et (fun z => by rw [z] at h8; cases h8)
  have C0 := e2 _ _ h8
  have hr := (o.cm h1).2.1.mono (Nat.le_succ _)
  have tk := (o.cm h1).2.2.1
  have C : Cal G.toCg X.prog X.w X.mg X.base (2 * k) fa es.length (dd.map Cst.d) (m.f pu i) := by
   unfold Sm.f
   cases pu with
   | true => exact C0.pure
   | false => exact C0
  cases es with
  | nil =>
   cases l with
   | nil => exact e_call0 o.hK C hr (o.gl h2) e1 tk (nm1 h3)
   | cons _ _ => unfold chL at h6; cases h6
  | cons e es => exact e_call o.hK C hr (o.gl h2) e1 tk (sL l o h6) (nm1 h3) h5
 | .met pu a x t l, Γ, cu, X, G, W, x', o, h => by
  unfold chE at h
  split at h
  rotate_left
  ·cases h
  rename_i ob y p1 es p2
  simp only [Bool.and_eq_true, decide_eq_true_eq, List.all_eq_true] at h
  obtain ⟨⟨⟨⟨⟨⟨⟨⟨h1, h2⟩, h3⟩, h4⟩, h5⟩, h6⟩, h7⟩, h8⟩, h9⟩ := h
  subst h2
  have hr := (o.cm h1).2.1.mono (Nat.le_succ _)
  have tk := (o.cm h1).2.2.1
  have hM : ∀ n, n = es.length + 1 → MOk X G.toCg (2 * k) _ n (m.me pu t) := fun n en c f dd q => by
   unfold Sm.me at q
   split at q
   ·rename_i z ez
    cases q
    obtain ⟨fa, k1, k2, k3⟩ := o.t.me _ _ _ _ _ (h7 _ (tk_mem ez))
    refine ⟨fa, k1, k2, ?_⟩
    subst en
    unfold Sm.f
    cases pu with
    | true => exact k3.pure
    | false => exact k3
   ·cases q
  cases es with
  | nil =>
   cases l with
   | nil => exact e_me0 o.hK (hM _ rfl) hr tk (sE a o h8) h3 h4
   | cons _ _ => unfold chL at h9; cases h9
  | cons e es => exact e_me o.hK (hM _ rfl) hr tk (sE a o h8) (sL l o h9) h3 h4 (by rw [List.all_eq_true]; exact h5) (by simp only [List.length_cons] at h6; omega)
 | .mak pu c i dd l, Γ, cu, X, G, W, x, o, h => by
  unfold chE at h
  split at h
  rotate_left
  ·cases h
  rename_i y p1 es p2
  simp only [Bool.and_eq_true, decide_eq_true_eq] at h
  obtain ⟨⟨⟨⟨⟨h1, h2⟩, h3⟩, h4⟩, h5⟩, h6⟩ := h
  obtain ⟨fi, e1, e2, e3⟩ := o.t.mks _ _ _ _ _ h4
  have hr := (o.cm h1).2.1
  have tk := (o.cm h1).2.2.1
  have M := e2
  rw [o.hK] at M
  show PE X _ (tE G W (dCl (evL m cu l) (if pu = true then mkP c (m.M i) (dd.map Cst.d) else mkC c (m.M i) (dd.map Cst.d)) []))
  cases pu with
  | true =>
   rw [if_pos rfl]
   cases es with
   | nil =>
    cases l with
    | nil => exact e_mk0 o.hK (kp := M.kp) (fun I R rv v P => run_mkp o.hK M e3 hr tk I R rv v P) (o.gl h2) e1 (nm1 h3)
    | cons _ _ => unfold chL at h6; cases h6
   | cons e es => exact e_mk o.hK (kp := M.kp) (fun I R rv v P => run_mkp o.hK M e3 hr tk I R rv v P) (o.gl h2) e1 (sL l o h6) (nm1 h3) h5
  | false =>
   rw [if_neg (by simp)]
   cases es with
   | nil =>
    cases l with
    | nil => exact e_mk0 o.hK (kp := M.kp) (fun I R rv v P => run_mk o.hK M e3 hr tk I R rv v P) (o.gl h2) e1 (nm1 h3)
    | cons _ _ => unfold chL at h6; cases h6
   | cons e es => exact e_mk o.hK (kp := M.kp) (fun I R rv v P => run_mk o.hK M e3 hr tk I R rv v P) (o.gl h2) e1 (sL l o h6) (nm1 h3) h5
 | .bif b l, Γ, cu, X, G, W, x, o, h => by
  unfold chE at h
  split at h
  rotate_left
  ·cases h
  simp only [Bool.and_eq_true, decide_eq_true_eq] at h
  obtain ⟨⟨⟨⟨⟨h1, h2⟩, h3⟩, h4⟩, h5⟩, h6⟩ := h
  subst h3
  exact s_bif o b h1 h2 h4 h5 (sL l o h6)
 | .bim b a l, Γ, cu, X, G, W, x, o, h => by
  unfold chE at h
  split at h
  rotate_left
  ·cases h
  simp only [Bool.and_eq_true, decide_eq_true_eq] at h
  obtain ⟨⟨⟨⟨⟨⟨h1, h2⟩, h3⟩, h4⟩, h5⟩, h6⟩, h7⟩ := h
  subst h1
  exact s_bim o b (sE a o h6) (sL l o h7) h2 h3 h4 h5
 | .isi t a, Γ, cu, X, G, W, x, o, h => by
  unfold chE at h
  split at h
  rotate_left
  ·cases h
  simp only [Bool.and_eq_true, decide_eq_true_eq] at h
  obtain ⟨⟨⟨⟨⟨⟨⟨⟨h1, h2⟩, h3⟩, h4⟩, h5⟩, h6⟩, h7⟩, h9⟩, h8⟩ := h
  subst h3
  subst h5
  exact e_isi t o.hK (o.gl h1) (o.t.bn _ h4) (o.gl h2) (o.t.bn _ h6) (by cases t <;> first | exact absurd rfl h9 | decide +kernel) (by cases t <;> decide +kernel) (by cases t <;> decide +kernel) (sE a o h8) h7
 | .dcr a, Γ, cu, X, G, W, x, o, h => by
  unfold chE at h
  split at h
  rotate_left
  ·cases h
  simp only [Bool.and_eq_true, decide_eq_true_eq] at h
  obtain ⟨⟨⟨h1, h2⟩, h3⟩, h4⟩ := h
  subst h1
  exact e_dclear (sE a o h4) h2 h3
 | .dis l, Γ, cu, X, G, W, x, o, h => by
  unfold chE at h
  split at h
  rotate_left
  ·cases h
  simp only [Bool.and_eq_true, decide_eq_true_eq] at h
  obtain ⟨⟨h1, h2⟩, h3⟩ := h
  obtain ⟨q1, q2, q3, q4⟩ := sP l o h3
  exact e_dis (q1 _) q2 q3 h1 h2 q4
 | .dcl t, Γ, cu, X, G, W, x, o, h => by
  unfold chE at h
  split at h
  rotate_left
  ·cases h
  simp only [Bool.and_eq_true, decide_eq_true_eq] at h
  obtain ⟨⟨⟨h1, h2⟩, h3⟩, h4⟩ := h
  exact e_dcl h1 h2 h3 h4
 | .lr2 a b, Γ, cu, X, G, W, x, o, h => by
  unfold chE at h
  split at h
  rotate_left
  ·cases h
  simp only [Bool.and_eq_true, decide_eq_true_eq] at h
  obtain ⟨⟨⟨⟨⟨⟨⟨⟨⟨⟨h1, h2⟩, h3⟩, h4⟩, h5⟩, h6⟩, h7⟩, h8⟩, h10⟩, h9⟩, h11⟩ := h
  subst h4
  subst h6
  exact e_lr2 o.hK (o.cm h1).1 (o.gl h2) (o.t.bn _ h5) (o.gl h3) (o.t.bn _ h7) (sE a o h9) (sE b o h11) h8 h10
 | .lrg a, Γ, cu, X, G, W, x, o, h => by
  unfold chE at h
  split at h
  rotate_left
  ·cases h
  simp only [Bool.and_eq_true, decide_eq_true_eq] at h
  obtain ⟨⟨⟨⟨⟨⟨⟨⟨h1, h2⟩, h3⟩, h4⟩, h5⟩, h6⟩, h7⟩, h8⟩, h9⟩ := h
  subst h4
  subst h6
  exact e_lrg o.hK (o.cm h1).1 (o.gl h2) (o.t.bn _ h5) (o.gl h3) (o.t.bn _ h7) (sE a o h9) h8
 | .ink a b, Γ, cu, X, G, W, x, o, h => by
  unfold chE at h
  split at h
  rotate_left
  ·cases h
  simp only [Bool.and_eq_true] at h
  obtain ⟨⟨h1, h2⟩, h3⟩ := h
  exact e_cmp (or_ink o.hK o.hW (by have := o.un; omega)) (sE a o h2) (sE b o h3) (marks_of h1 _)
 | .nink a b, Γ, cu, X, G, W, x, o, h => by
  unfold chE at h
  split at h
  rotate_left
  ·cases h
  simp only [Bool.and_eq_true] at h
  obtain ⟨⟨h1, h2⟩, h3⟩ := h
  exact e_cmp (or_nink o.hK o.hW (by have := o.un; omega)) (sE a o h2) (sE b o h3) (marks_of h1 _)
 | .sst a, Γ, cu, X, G, W, x, o, h => by
  unfold chE at h
  split at h
  rotate_left
  ·cases h
  simp only [Bool.and_eq_true, decide_eq_true_eq] at h
  obtain ⟨⟨⟨⟨⟨⟨⟨⟨h1, h2⟩, h3⟩, h4⟩, h5⟩, h6⟩, h7⟩, h8⟩, h9⟩ := h
  subst h4
  subst h6
  exact e_sst o.hK (o.cm h1).1 (o.gl h2) (o.t.bn _ h5) (o.gl h3) (o.t.bn _ h7) (sE a o h9) h8
 | .sky a, Γ, cu, X, G, W, x, o, h => by
  unfold chE at h
  split at h
  rotate_left
  ·cases h
  simp only [Bool.and_eq_true, decide_eq_true_eq] at h
  obtain ⟨⟨⟨⟨⟨⟨⟨h1, h2⟩, h3⟩, h4⟩, h5⟩, h6⟩, h7⟩, h8⟩ := h
  subst h3
  subst h5
  exact e_sky (o.cm h1).1 (o.gl h2) (o.t.bn _ h4) (sE a o h8) (base_of h6 _ _ _) h7
 | .lky a, Γ, cu, X, G, W, x, o, h => by
  unfold chE at h
  split at h
  rotate_left
  ·cases h
  simp only [Bool.and_eq_true, decide_eq_true_eq] at h
  obtain ⟨⟨⟨⟨⟨⟨⟨h1, h2⟩, h3⟩, h4⟩, h5⟩, h6⟩, h7⟩, h8⟩ := h
  subst h3
  subst h5
  exact e_lky (o.cm h1).1 (o.gl h2) (o.t.bn _ h4) (sE a o h8) (base_of h6 _ _ _) h7
 | .dg1 a k, Γ, cu, X, G, W, x, o, h => by
  unfold chE at h
  split at h
  rotate_left
  ·cases h
  simp only [Bool.and_eq_true, decide_eq_true_eq] at h
  obtain ⟨⟨⟨⟨⟨h1, h2⟩, h3⟩, h4⟩, h5⟩, h6⟩ := h
  subst h1
  exact e_dget1 (by have := o.un; omega) (sE a o h5) (sE k o h6) h2 h3 h4
 | .lset a, Γ, cu, X, G, W, x, o, h => by
  unfold chE at h
  split at h
  rotate_left
  ·cases h
  simp only [Bool.and_eq_true, decide_eq_true_eq] at h
  obtain ⟨⟨⟨⟨⟨⟨⟨⟨h1, h2⟩, h3⟩, h4⟩, h5⟩, h6⟩, h7⟩, h8⟩, h9⟩ := h
  subst h4
  subst h6
  exact e_lset o.hK (o.cm h1).1 (o.gl h2) (o.t.bn _ h5) (o.gl h3) (o.t.bn _ h7) (sE a o h9) h8
 | .dfr, Γ, cu, X, G, W, x, o, h => by
  unfold chE at h
  split at h
  ·exact e_dfr
  ·cases h
 | .dnw, Γ, cu, X, G, W, x, o, h => by
  unfold chE at h
  split at h
  ·exact e_dnw
  ·cases h
 | .isx i t, Γ, cu, X, G, W, x, o, h => by
  unfold chE at h
  split at h
  rotate_left
  ·cases h
  simp only [Bool.and_eq_true, decide_eq_true_eq, List.all_eq_true] at h
  obtain ⟨⟨⟨⟨⟨⟨⟨⟨⟨h1, h2⟩, h3⟩, h4⟩, h5⟩, h6⟩, h7⟩, h8⟩, h9⟩, h10⟩ := h
  subst h3
  exact s_isx o h1 h4 h5 h6 h7 h2 h8 h9 h10
 | .isc t a, Γ, cu, X, G, W, x, o, h => by
  unfold chE at h
  split at h
  rotate_left
  ·cases h
  simp only [Bool.and_eq_true, decide_eq_true_eq, List.all_eq_true, Bool.not_eq_true'] at h
  obtain ⟨⟨⟨⟨⟨⟨⟨⟨⟨h1, h2⟩, h3⟩, h4⟩, h5⟩, h6⟩, h7⟩, h8⟩, h9⟩, h10⟩ := h
  subst h3
  exact s_isc o h1 h4 h2 h5 h6 h7 h8 h9 (sE a o h10)
 | .bi0 b a, Γ, cu, X, G, W, x, o, h => by
  unfold chE at h
  split at h
  rotate_left
  ·cases h
  simp only [Bool.and_eq_true, decide_eq_true_eq] at h
  obtain ⟨⟨⟨h1, h2⟩, h3⟩, h4⟩ := h
  subst h1
  exact s_bi0 o b (sE a o h4) h2 h3
 | .bnw b l, Γ, cu, X, G, W, x, o, h => by
  unfold chE at h
  split at h
  rotate_left
  ·cases h
  simp only [Bool.and_eq_true, decide_eq_true_eq] at h
  obtain ⟨⟨⟨⟨⟨h1, h2⟩, h3⟩, h4⟩, h5⟩, h6⟩ := h
  subst h3
  exact s_bnw o b h1 h2 h4 h5 (sL l o h6)
 | .kge t a d, Γ, cu, X, G, W, x, o, h => by
  unfold chE at h
  split at h
  rotate_left
  ·cases h
  simp only [Bool.and_eq_true, decide_eq_true_eq] at h
  obtain ⟨⟨⟨⟨⟨⟨⟨⟨h1, h2⟩, h3⟩, h4⟩, h5⟩, h6⟩, h7⟩, h8⟩, h9⟩ := h
  subst h1
  obtain ⟨b, k1, k2⟩ := o.t.tab _ h4
  exact e_kget (o.gl h2) k1 (nm1 h3) k2 (fun S H => Cst.vdf t) (sE a o h8) (sE d o h9) h5 h6 h7
 | .ban a b, Γ, cu, X, G, W, x, o, h => by
  unfold chE at h
  split at h
  rotate_left
  ·cases h
  simp only [Bool.and_eq_true] at h
  exact e_ban (sE a o h.1) (sE b o h.2)
 | .dge a k d, Γ, cu, X, G, W, x, o, h => by
  unfold chE at h
  split at h
  rotate_left
  ·cases h
  simp only [Bool.and_eq_true, decide_eq_true_eq] at h
  obtain ⟨⟨⟨⟨⟨⟨⟨h1, h2⟩, h3⟩, h4⟩, h5⟩, h6⟩, h7⟩, h8⟩ := h
  subst h1
  exact e_dget (by have := o.un; omega) (sE a o h6) (sE k o h7) (sE d o h8) h2 h3 h4 h5
 | .dse a k d, Γ, cu, X, G, W, x, o, h => by
  unfold chE at h
  split at h
  rotate_left
  ·cases h
  simp only [Bool.and_eq_true, decide_eq_true_eq] at h
  obtain ⟨⟨⟨⟨⟨⟨⟨h1, h2⟩, h3⟩, h4⟩, h5⟩, h6⟩, h7⟩, h8⟩ := h
  subst h1
  exact e_dsetd (sE a o h6) (sE k o h7) (sE d o h8) h2 h3 h4 h5
 | .dpo a k, Γ, cu, X, G, W, x, o, h => by
  unfold chE at h
  split at h
  rotate_left
  ·cases h
  simp only [Bool.and_eq_true, decide_eq_true_eq] at h
  obtain ⟨⟨⟨⟨⟨h1, h2⟩, h3⟩, h4⟩, h6⟩, h7⟩ := h
  subst h1
  exact e_dpop (sE a o h6) (sE k o h7) h2 h3 h4
 | .cmn e g s t own, Γ, cu, X, G, W, x, o, h => by
  unfold chE at h
  split at h
  rotate_left
  ·cases h
  simp only [Bool.and_eq_true, Bool.or_eq_true, Bool.not_eq_true', decide_eq_true_eq, List.all_eq_true] at h
  obtain ⟨⟨⟨⟨⟨⟨⟨⟨h1, h0⟩, h2⟩, h3⟩, h4⟩, h5⟩, h6⟩, h7⟩, h8⟩ := h
  have B := blk_ok h4
  have cn := (o.cm h1).2.2.2.2
  have nc : ∀ i c, cu = some (i, c) → i ∉ slotsT g := fun i c z => by rw [cn] at z; cases z
  exact e_lcN (o.cm h1).1 o.nd (o.c0 cn) (sS s o (srT_of h0) h2) (by rw [o.hN, o.sc]; exact B) h5 (fun s H C cl fp => sG g (o.blk h1 B.kind s H C cl fp) nc h6) (fun s H C cl fp => sQ t (o.blk h1 B.kind s H C cl fp) h7) (fun s H C cl fp => sE e (o.blk h1 B.kind s H C cl fp) h8) h3
 | .cod e w g a t own, Γ, cu, X, G, W, x, o, h => by
  unfold chE at h
  split at h
  rotate_left
  ·cases h
  simp only [Bool.and_eq_true, List.all_eq_true, decide_eq_true_eq] at h
  obtain ⟨⟨⟨⟨⟨⟨⟨⟨h1, h0⟩, h2⟩, h3⟩, h4⟩, h5⟩, h6⟩, h7⟩, h8⟩ := h
  have B := blk_ok h4
  have cn := (o.cm h1).2.2.2.2
  have nc : ∀ i c, cu = some (i, c) → i ∉ slotsT g := fun i c z => by rw [cn] at z; cases z
  split at h2
  rotate_left
  ·cases h2
  rename_i oe ed
  exact e_lcD (o.cm h1).1 o.nd (o.c0 cn) (sE a o h2) (dwI_ok ed h0) (by rw [o.hN, o.sc]; exact B) h5 (fun s H C cl fp => sG g (o.blk h1 B.kind s H C cl fp) nc h6) (fun s H C cl fp => sQ t (o.blk h1 B.kind s H C cl fp) h7) (fun s H C cl fp => sE e (o.blk h1 B.kind s H C cl fp) h8) h3
 | .com e g s t own, Γ, cu, X, G, W, x, o, h => by
  unfold chE at h
  split at h
  rotate_left
  ·cases h
  simp only [Bool.and_eq_true, Bool.or_eq_true, Bool.not_eq_true', decide_eq_true_eq, List.all_eq_true] at h
  obtain ⟨⟨⟨⟨⟨⟨⟨⟨h1, h0⟩, h2⟩, h3⟩, h4⟩, h5⟩, h6⟩, h7⟩, h8⟩ := h
  have B := blk_ok h4
  have cn := (o.cm h1).2.2.2.2
  have nc : ∀ i c, cu = some (i, c) → i ∉ slotsT g := fun i c z => by rw [cn] at z; cases z
  exact e_lc (o.cm h1).1 o.nd (o.c0 cn) (sS s o (srT_of h0) h2) (by rw [o.hN, o.sc]; exact B) h5 (fun s H C cl fp => sG g (o.blk h1 B.kind s H C cl fp) nc h6) (fun s H C cl fp => sQ t (o.blk h1 B.kind s H C cl fp) h7) (fun s H C cl fp => sE e (o.blk h1 B.kind s H C cl fp) h8) h3
theorem sT {T : Tb} {m : Sm} {k : Nat} : ∀ (e : Tx) {Γ : Sc} {cu : Cu} {X : Cx} {G : Cf} {W : WX} {x : Expr}, Ok T m k Γ cu X G W → chT T Γ e x = true → PT X x (tT G W (evT m cu e))
 | .val a, Γ, cu, X, G, W, x, o, h => by
  unfold chT at h
  obtain ⟨h1, h2⟩ := Bool.and_eq_true_iff.mp h
  exact t_val (sE a o h2) (plain_true h1 _)
 | .ink a b, Γ, cu, X, G, W, x, o, h => by
  unfold chT at h
  split at h
  rotate_left
  ·cases h
  simp only [Bool.and_eq_true] at h
  obtain ⟨⟨h1, h2⟩, h3⟩ := h
  exact t_cmp (or_ink o.hK o.hW (by have := o.un; omega)) (sE a o h2) (sE b o h3) (marks_of h1 _)
 | .nink a b, Γ, cu, X, G, W, x, o, h => by
  unfold chT at h
  split at h
  rotate_left
  ·cases h
  simp only [Bool.and_eq_true] at h
  obtain ⟨⟨h1, h2⟩, h3⟩ := h
  exact t_cmp (or_nink o.hK o.hW (by have := o.un; omega)) (sE a o h2) (sE b o h3) (marks_of h1 _)
 | .cmp q a b, Γ, cu, X, G, W, x, o, h => by
  unfold chT at h
  split at h
  rotate_left
  ·cases h
  simp only [Bool.and_eq_true, decide_eq_true_eq] at h
  obtain ⟨⟨⟨h1, h2⟩, h3⟩, h4⟩ := h
  subst h1
  exact t_cmp (or_cmp o.hK o.un _) (sE a o h3) (sE b o h4) (marks_of h2 _)
 | .chn q q' a b c, Γ, cu, X, G, W, x, o, h => by
  unfold chT at h
  split at h
  rotate_left
  ·cases h
  simp only [Bool.and_eq_true, decide_eq_true_eq] at h
  obtain ⟨⟨⟨⟨⟨h1, h2⟩, h3⟩, h4⟩, h5⟩, h6⟩ := h
  subst h1
  subst h2
  exact t_ch (or_cmp o.hK o.un _) (or_cmp o.hK o.un _) (sE a o h4) (sE b o h5) (sE c o h6) h3
 | .and a b, Γ, cu, X, G, W, x, o, h => by
  unfold chT at h
  split at h
  rotate_left
  ·cases h
  simp only [Bool.and_eq_true] at h
  obtain ⟨h1, h2⟩ := h
  split at h2
  ·exact (t_and (sT a o h1) (pw_and1 (sT b o h2))).pt
  ·exact (t_and (sT a o h1) (pw_of (sT b o h2))).pt
 | .or a b, Γ, cu, X, G, W, x, o, h => by
  unfold chT at h
  split at h
  rotate_left
  ·cases h
  simp only [Bool.and_eq_true] at h
  obtain ⟨h1, h2⟩ := h
  split at h2
  ·exact (t_or (sT a o h1) (pw_or1 (sT b o h2))).pt
  ·exact (t_or (sT a o h1) (pw_of (sT b o h2))).pt
 | .not a, Γ, cu, X, G, W, x, o, h => by
  unfold chT at h
  split at h
  rotate_left
  ·cases h
  exact t_not (sT a o h)
theorem sL {T : Tb} {m : Sm} {k : Nat} : ∀ (e : Exs) {Γ : Sc} {cu : Cu} {X : Cx} {G : Cf} {W : WX} {x : List Expr}, Ok T m k Γ cu X G W → chL T Γ e x = true → PA X x (tA G W (evL m cu e))
 | .nil, Γ, cu, X, G, W, x, o, h => by
  unfold chL at h
  split at h
  ·exact a_nil
  ·cases h
 | .cons a l, Γ, cu, X, G, W, x, o, h => by
  unfold chL at h
  split at h
  rotate_left
  ·cases h
  simp only [Bool.and_eq_true] at h
  obtain ⟨⟨h1, h2⟩, h3⟩ := h
  exact a_cons (sE a o h2) (sL l o h3) h1
theorem sP {T : Tb} {m : Sm} {k : Nat} : ∀ (e : Prs) {Γ : Sc} {cu : Cu} {X : Cx} {G : Cf} {W : WX} {ks : List (Option Expr)} {vs : List Expr}, Ok T m k Γ cu X G W → chP T Γ e ks vs = true →
  (∀ pos, PPs X pos ks vs ((evP m cu e).map fun p => (tE G W p.1, tE G W p.2))) ∧ ks.all (·.isSome) = true ∧ ks.length = vs.length ∧ (evP m cu e).length = ks.length
 | .nil, Γ, cu, X, G, W, ks, vs, o, h => by
  unfold chP at h
  split at h
  ·exact ⟨fun _ => pps_nil, rfl, rfl, rfl⟩
  ·cases h
 | .cons k v l, Γ, cu, X, G, W, ks, vs, o, h => by
  unfold chP at h
  split at h
  rotate_left
  ·cases h
  simp only [Bool.and_eq_true] at h
  obtain ⟨⟨h1, h2⟩, h3⟩ := h
  obtain ⟨q1, q2, q3, q4⟩ := sP l o h3
  exact ⟨fun pos => pps_cons (sE k o h1) (sE v o h2) (q1 pos), by simpa using q2, by simp [q3], by show ((evE m cu k, evE m cu v) :: evP m cu l).length = _; simp [q4]⟩
theorem sO {T : Tb} {m : Sm} {k : Nat} : ∀ (e : Oe) {Γ : Sc} {cu : Cu} {X : Cx} {G : Cf} {W : WX} {x : Option Expr}, Ok T m k Γ cu X G W → chO T Γ e x = true → PO X x (tO G W (evO m cu e))
 | .no, Γ, cu, X, G, W, x, o, h => by
  unfold chO at h
  split at h
  ·exact o_none
  ·cases h
 | .so a, Γ, cu, X, G, W, x, o, h => by
  unfold chO at h
  split at h
  ·exact o_some (sE a o h)
  ·cases h
theorem sQ {T : Tb} {m : Sm} {k : Nat} : ∀ (e : Ot) {Γ : Sc} {cu : Cu} {X : Cx} {G : Cf} {W : WX} {x : List Expr}, Ok T m k Γ cu X G W → chQ T Γ e x = true → PTs X x (tT G W (evQ m cu e))
 | .no, Γ, cu, X, G, W, x, o, h => by
  unfold chQ at h
  split at h
  ·exact ts_nil
  ·cases h
 | .so a, Γ, cu, X, G, W, x, o, h => by
  unfold chQ at h
  split at h
  ·exact pts_one (sT a o h)
  ·cases h
theorem sS {T : Tb} {m : Sm} {k : Nat} : ∀ (e : Sr) {Γ : Sc} {cu : Cu} {X : Cx} {G : Cf} {W : WX} {tg x : Expr}, Ok T m k Γ cu X G W → (srT e = true → isTupE tg = true) → chS T Γ e x = true → PI X tg x (tI G W (evS m cu e))
 | .seq a, Γ, cu, X, G, W, tg, x, o, _, h => by
  unfold chS at h
  exact i_seq o.hK (sE a o h)
 | .rg1 a, Γ, cu, X, G, W, tg, x, o, _, h => by
  unfold chS at h
  split at h
  rotate_left
  ·cases h
  simp only [Bool.and_eq_true, decide_eq_true_eq] at h
  obtain ⟨⟨⟨⟨h1, h2⟩, h3⟩, h4⟩, h5⟩ := h
  subst h2
  exact i_rng1 (o.gl h1) (o.t.bn _ h3) (sE a o h5) h4
 | .rg2 a b, Γ, cu, X, G, W, tg, x, o, _, h => by
  unfold chS at h
  split at h
  rotate_left
  ·cases h
  simp only [Bool.and_eq_true, decide_eq_true_eq] at h
  obtain ⟨⟨⟨⟨⟨⟨h1, h2⟩, h3⟩, h4⟩, h5⟩, h6⟩, h7⟩ := h
  subst h2
  exact i_rng2 (o.gl h1) (o.t.bn _ h3) (sE a o h6) (sE b o h7) h4 h5
 | .txt a, Γ, cu, X, G, W, tg, x, o, _, h => by
  unfold chS at h
  exact i_txt (sE a o h)
 | .enu a, Γ, cu, X, G, W, tg, x, o, ht, h => by
  unfold chS at h
  split at h
  rotate_left
  ·cases h
  simp only [Bool.and_eq_true, decide_eq_true_eq] at h
  obtain ⟨⟨⟨⟨h1, h2⟩, h3⟩, h4⟩, h5⟩ := h
  subst h2
  have q := ht rfl
  cases tg with
  | Tuple _ _ _ => exact i_enu o.hK (o.gl h1) (o.t.bn _ h3) (sE a o h5) h4
  | _ => cases q
 | .zip a b, Γ, cu, X, G, W, tg, x, o, ht, h => by
  unfold chS at h
  split at h
  rotate_left
  ·cases h
  simp only [Bool.and_eq_true, decide_eq_true_eq] at h
  obtain ⟨⟨⟨⟨⟨⟨h1, h2⟩, h3⟩, h4⟩, h5⟩, h6⟩, h7⟩ := h
  subst h2
  have q := ht rfl
  cases tg with
  | Tuple _ _ _ => exact i_zip o.hK (o.gl h1) (o.t.bn _ h3) (sE a o h6) (sE b o h7) h4 h5
  | _ => cases q
end
end Sb
namespace Sb
open L2 PySem PySem.Spec PyProof.Rows
theorem s_asgC {X : Cx} {G : Cf} {W : WX} {tg e : Expr} {g : Tg} {f : F D} {pos : Pos} (he : PE X e (tE G W f)) (hg : PG X tg (gT G g)) (hc : swapsWith e (some tg) pos.line X.env = pure false) (ht : (noTup tg || noTup e) = true) (hs : noStar tg = true) : PS X (.Assign [tg] e pos) (tS G W (sAsg f g)) :=
 PS.imp (ps_asg he hg (by unfold swapsWithSole; exact hc) (stores_of ht _) (by rw [each_of hs]; rfl)) fun Z σ H ⟨S, h, e, R, E, P⟩ =>
  ⟨S, h, e, R, E, P.st R E fun d h1 S1 H1 v _ N1 R1 v1 P1 => by
   cases q : bindT g d e with
   | none => rw [q] at P1; exact P1.elim
   | some e' =>
    rw [q] at P1
    exact ⟨S1, h1, e, d, e', R1, E.mono N1 R.bad, v1, q, fun σ' E' _ => P1.next R1 E'⟩⟩
theorem sw_cell {elt : Expr} {gs : List Comprehension} {scope : Scope} {pos py : Pos} {y : Str} {l : Nat} {env : Env} (hy : env.scope.names.lookup y = some .cell) : swapsWith (.ListComp elt gs scope pos) (some (.Name y py)) l env = pure false := by
 have ky : env.kindOf y = some .cell := hy
 unfold swapsWith
 simp only [ky]
 cases (env.blockKind == ScopeKind.function) <;> rfl
def noCuG (cu : Cu) (g : Tg) : Prop := ∀ i c, cu = some (i, c) → i ∉ slotsT g
mutual
def tgSt : St → List Nat
 | .asg g _ => slotsT g
 | .ite _ a b => tgB a ++ tgB b
 | .whl _ _ b => tgB b
 | .for _ g b => slotsT g ++ tgB b
 | .fod _ _ g b => slotsT g ++ tgB b
 | .try b l => tgB b ++ tgC l
 | _ => []
def tgB : Bk → List Nat
 | .nil => []
 | .cons s b => tgSt s ++ tgB b
 | .wip _ b => tgB b
def tgC : Hcs → List Nat
 | .nil => []
 | .cons _ _ b l => tgB b ++ tgC l
end
mutual
def okSt : St → Bool
 | .ite _ a b => okB a && okB b
 | .whl _ _ b => okB b
 | .for _ _ b => okB b
 | .fod _ _ _ b => okB b
 | .try b l => okB b && okC l
 | _ => true
def okB : Bk → Bool
 | .nil => true
 | .cons s b => okSt s && okB b
 | .wip _ b => okB b
def okC : Hcs → Bool
 | .nil => true
 | .cons i _ b l => (match i with
  | some i => !decide (i ∈ tgB b)
  | none => true) && okB b && okC l
end
section
variable {T : Tb} {m : Sm} {k : Nat} {Γ : Sc} {cu : Cu} {X : Cx} {G : Cf} {W : WX}
theorem s_comp (o : Ok T m k Γ cu X G W) {e : Ex} {g : Tg} {tg v : Expr} {pos : Pos} (h : chE T Γ e v = true) (hg : chG Γ g tg = true) (hn : noCuG cu g) (hw : swB Γ tg v = true) (hnc : notCod e = true) : PS X (.Assign [tg] v pos) (tS G W (sAsg (evE m cu e) g)) := by
 unfold swB at hw
 split at hw
 rotate_left
 ·cases hw
 rename_i y py el gs scope ps
 simp only [Bool.or_eq_true, Bool.and_eq_true, decide_eq_true_eq, Bool.not_eq_true'] at hw
 rcases hw with ⟨⟨h1, h2⟩, h3⟩ | h1
 ·
  have hl := isl_of h1
  cases e with
  | com e0 g0 s0 t0 own =>
   cases g with
   | tp l => unfold chG at hg; cases hg
   | nm i =>
    unfold chG at hg
    simp only [Bool.and_eq_true, Bool.or_eq_true, decide_eq_true_eq] at hg
    obtain ⟨⟨g1, _⟩, _⟩ := hg
    unfold chE at h
    split at h
    rotate_left
    ·cases h
    rename_i heq
    cases heq
    simp only [Bool.and_eq_true, Bool.or_eq_true, Bool.not_eq_true', decide_eq_true_eq, List.all_eq_true] at h
    obtain ⟨⟨⟨⟨⟨⟨⟨⟨c1, c0⟩, c2⟩, c3⟩, c4⟩, c5⟩, c6⟩, c7⟩, c8⟩ := h
    have B := blk_ok c4
    have cn := (o.cm c1).2.2.2.2
    have nc : ∀ i c, cu = some (i, c) → i ∉ slotsT g0 := fun i c z => by rw [cn] at z; cases z
    exact s_setLc (o.cm c1).1 o.nd (o.c0 cn) (by rw [o.hN]; exact g1) (by rw [o.sc]; exact hl) (sw_true o.kd (by rw [o.sc]; exact hl) h2 h3) (sS s0 o (srT_of c0) c2) (by rw [o.hN, o.sc]; exact B) c5
     (fun s H C cl fp => sG g0 (o.blk c1 B.kind s H C cl fp) nc c6) (fun s H C cl fp => sQ t0 (o.blk c1 B.kind s H C cl fp) c7) (fun s H C cl fp => sE e0 (o.blk c1 B.kind s H C cl fp) c8) c3
  | cmn e0 g0 s0 t0 own =>
   cases g with
   | tp l => unfold chG at hg; cases hg
   | nm i =>
    unfold chG at hg
    simp only [Bool.and_eq_true, Bool.or_eq_true, decide_eq_true_eq] at hg
    obtain ⟨⟨g1, _⟩, _⟩ := hg
    unfold chE at h
    split at h
    rotate_left
    ·cases h
    rename_i heq
    cases heq
    simp only [Bool.and_eq_true, Bool.or_eq_true, Bool.not_eq_true', decide_eq_true_eq, List.all_eq_true] at h
    obtain ⟨⟨⟨⟨⟨⟨⟨⟨c1, c0⟩, c2⟩, c3⟩, c4⟩, c5⟩, c6⟩, c7⟩, c8⟩ := h
    have B := blk_ok c4
    have cn := (o.cm c1).2.2.2.2
    have nc : ∀ i c, cu = some (i, c) → i ∉ slotsT g0 := fun i c z => by rw [cn] at z; cases z
    exact s_setLcN (o.cm c1).1 o.nd (o.c0 cn) (by rw [o.hN]; exact g1) (by rw [o.sc]; exact hl) (sw_true o.kd (by rw [o.sc]; exact hl) h2 h3) (sS s0 o (srT_of c0) c2) (by rw [o.hN, o.sc]; exact B) c5
     (fun s H C cl fp => sG g0 (o.blk c1 B.kind s H C cl fp) nc c6) (fun s H C cl fp => sQ t0 (o.blk c1 B.kind s H C cl fp) c7) (fun s H C cl fp => sE e0 (o.blk c1 B.kind s H C cl fp) c8) c3
  | cod _ _ _ _ _ _ => cases hnc
  | _ => unfold chE at h; cases h
 ·exact s_asgC (sE e o h) (sG g o hn hg) (sw_cell (by rw [o.sc]; exact h1)) rfl rfl
end
def tgOk (cu : Cu) (l : List Nat) : Prop := ∀ i c, cu = some (i, c) → i ∉ l
theorem tgOk.l {cu : Cu} {a b : List Nat} (h : tgOk cu (a ++ b)) : tgOk cu a := fun i c z q => h i c z (List.mem_append_left _ q)
theorem tgOk.r {cu : Cu} {a b : List Nat} (h : tgOk cu (a ++ b)) : tgOk cu b := fun i c z q => h i c z (List.mem_append_right _ q)
mutual
theorem sSt {T : Tb} {m : Sm} {k : Nat} : ∀ (e : St) {Γ : Sc} {cu : Cu} {X : Cx} {G : Cf} {W : WX} {x : Stmt}, Ok T m k Γ cu X G W → tgOk cu (tgSt e) → okSt e = true → chSt T Γ e x = true → PS X x (tS G W (evSt m cu e))
 | .pass, Γ, cu, X, G, W, x, o, ht, hk, h => by
  unfold chSt at h
  split at h
  ·exact s_pass
  ·cases h
 | .brk, Γ, cu, X, G, W, x, o, ht, hk, h => by
  unfold chSt at h
  split at h
  ·exact s_brk
  ·cases h
 | .cnt, Γ, cu, X, G, W, x, o, ht, hk, h => by
  unfold chSt at h
  split at h
  ·exact s_cnt
  ·cases h
 | .never, Γ, cu, X, G, W, x, o, ht, hk, h => s_never
 | .asg g e, Γ, cu, X, G, W, x, o, ht, hk, h => by
  unfold chSt at h
  split at h
  rotate_left
  ·cases h
  simp only [Bool.and_eq_true] at h
  obtain ⟨⟨⟨⟨⟨h1, h2⟩, h3⟩, h4⟩, h5⟩, h6⟩ := h
  have ht2 : noCuG cu g := fun i c z => by have := ht i c z; unfold tgSt at this; exact this
  rcases Bool.or_eq_true_iff.mp h5 with h5 | h5
  ·exact s_asg (sE e o h1) (sG g o ht2 h2) h5 h3 h4
  ·exact s_comp o h1 h2 ht2 h5 h6
 | .drop e, Γ, cu, X, G, W, x, o, ht, hk, h => by
  unfold chSt at h
  split at h
  rotate_left
  ·cases h
  simp only [Bool.and_eq_true] at h
  exact s_drop (sE e o h.1) h.2
 | .ret e, Γ, cu, X, G, W, x, o, ht, hk, h => by
  unfold chSt at h
  split at h
  rotate_left
  ·cases h
  exact s_ret (sE e o h)
 | .retN, Γ, cu, X, G, W, x, o, ht, hk, h => by
  unfold chSt at h
  split at h
  ·exact s_retN
  ·cases h
 | .ite t a b, Γ, cu, X, G, W, x, o, ht, hk, h => by
  unfold chSt at h
  split at h
  rotate_left
  ·cases h
  simp only [Bool.and_eq_true] at h
  obtain ⟨⟨h1, h2⟩, h3⟩ := h
  unfold okSt at hk
  obtain ⟨k1, k2⟩ := Bool.and_eq_true_iff.mp hk
  unfold tgSt at ht
  exact s_if (sT t o h1) (sB a o ht.l k1 h2) (sB b o ht.r k2 h3)
 | .whl n t b, Γ, cu, X, G, W, x, o, ht, hk, h => by
  unfold chSt at h
  split at h
  rotate_left
  ·cases h
  simp only [Bool.and_eq_true] at h
  obtain ⟨⟨h1, h2⟩, h3⟩ := h
  unfold okSt at hk
  unfold tgSt at ht
  exact s_while (o.cm h1).2.2.2.1 (sT t o h2) (sB b o ht hk h3)
 | .for s g b, Γ, cu, X, G, W, x, o, ht, hk, h => by
  unfold chSt at h
  split at h
  rotate_left
  ·cases h
  simp only [Bool.and_eq_true, Bool.or_eq_true, Bool.not_eq_true'] at h
  obtain ⟨⟨⟨⟨⟨h1, h0⟩, h2⟩, h3⟩, h4⟩, h5⟩ := h
  unfold okSt at hk
  unfold tgSt at ht
  exact s_for (o.cm h1).1 (o.cm h1).2.2.2.1 (sS s o (srT_of h0) h2) (sG g o ht.l h4) (sB b o ht.r hk h5) h3
 | .fod w a g b, Γ, cu, X, G, W, x, o, ht, hk, h => by
  unfold chSt at h
  split at h
  rotate_left
  ·cases h
  simp only [Bool.and_eq_true] at h
  obtain ⟨⟨⟨⟨⟨h1, h0⟩, h2⟩, h3⟩, h4⟩, h5⟩ := h
  unfold okSt at hk
  unfold tgSt at ht
  split at h2
  rotate_left
  ·cases h2
  rename_i oe ed
  exact s_forD (o.cm h1).1 (o.cm h1).2.2.2.1 (sE a o h2) (dwI_ok ed h0) (sG g o ht.l h4) (sB b o ht.r hk h5) h3
 | .fld a f v, Γ, cu, X, G, W, x, o, ht, hk, h => by
  unfold chSt at h
  split at h
  rotate_left
  ·cases h
  simp only [Bool.and_eq_true, decide_eq_true_eq] at h
  obtain ⟨⟨h1, h3⟩, h4⟩ := h
  subst h1
  exact s_fld o.hK (by rw [o.t.ft]; exact o.t.fok) (sE a o h3) (sE v o h4)
 | .sub q i v, Γ, cu, X, G, W, x, o, ht, hk, h => by
  unfold chSt at h
  split at h
  rotate_left
  ·cases h
  simp only [Bool.and_eq_true] at h
  obtain ⟨⟨⟨⟨h1, h2⟩, h3⟩, h4⟩, h5⟩ := h
  exact s_sub (by have := o.un; omega) (sE q o h3) (sE i o h4) (sE v o h5) h1 h2
 | .sbk q i, Γ, cu, X, G, W, x, o, ht, hk, h => by
  unfold chSt at h
  split at h
  rotate_left
  ·cases h
  simp only [Bool.and_eq_true] at h
  obtain ⟨⟨h2, h3⟩, h4⟩ := h
  exact s_sbk o.hK o.hW (by have := o.un; omega) (sE q o h3) (sE i o h4) h2
 | .rai c, Γ, cu, X, G, W, x, o, ht, hk, h => by
  unfold chSt at h
  split at h
  rotate_left
  ·cases h
  simp only [Bool.and_eq_true, decide_eq_true_eq] at h
  obtain ⟨⟨⟨h1, h2⟩, h3⟩, h4⟩ := h
  obtain ⟨e1, e2⟩ := o.t.ex _ h4
  exact s_raise o.hK (o.cm h1).1 (o.cm h1).2.2.1 e2 (o.gl h2) e1 (nm1 h3)
 | .try b l, Γ, cu, X, G, W, x, o, ht, hk, h => by
  unfold chSt at h
  split at h
  rotate_left
  ·cases h
  simp only [Bool.and_eq_true] at h
  obtain ⟨⟨⟨h1, h2⟩, h3⟩, h4⟩ := h
  unfold okSt at hk
  obtain ⟨k1, k2⟩ := Bool.and_eq_true_iff.mp hk
  unfold tgSt at ht
  have cn := (o.cm h1).2.2.2.2
  obtain ⟨l', hl⟩ := sC l o k2 h4
  exact s_tryN (o.c0 cn) (o.df h2).1 (o.df h2).2 o.nd (o.cm h1).2.2.1 hl fun W' pn xe tk ps => sB b (o.tr h1 tk ps) ht.l k1 h3
theorem sB {T : Tb} {m : Sm} {k : Nat} : ∀ (e : Bk) {Γ : Sc} {cu : Cu} {X : Cx} {G : Cf} {W : WX} {x : List Stmt}, Ok T m k Γ cu X G W → tgOk cu (tgB e) → okB e = true → chB T Γ e x = true → PSs X x (tS G W (evB m cu e))
 | .nil, Γ, cu, X, G, W, x, o, ht, hk, h => by
  unfold chB at h
  split at h
  ·exact b_nil
  ·cases h
 | .cons s b, Γ, cu, X, G, W, x, o, ht, hk, h => by
  unfold chB at h
  split at h
  rotate_left
  ·cases h
  obtain ⟨h1, h2⟩ := Bool.and_eq_true_iff.mp h
  unfold okB at hk
  obtain ⟨k1, k2⟩ := Bool.and_eq_true_iff.mp hk
  unfold tgB at ht
  exact b_cons (sSt s o ht.l k1 h1) (sB b o ht.r k2 h2)
 | .wip l b, Γ, cu, X, G, W, x, o, ht, hk, h => by
  unfold chB at h
  unfold okB at hk
  unfold tgB at ht
  exact b_wip l (sB b o ht hk h)
theorem sC {T : Tb} {m : Sm} {k : Nat} : ∀ (e : Hcs) {Γ : Sc} {cu : Cu} {X : Cx} {G : Cf} {W : WX} {x : List ExceptHandler}, Ok T m k Γ cu X G W → okC e = true → chC T Γ e x = true → ∃ l', DClOk X G x (evC m e) l'
 | .nil, Γ, cu, X, G, W, x, o, hk, h => by
  unfold chC at h
  split at h
  ·exact ⟨_, .nil⟩
  ·cases h
 | .cons i t b l, Γ, cu, X, G, W, x, o, hk, h => by
  unfold chC at h
  split at h
  rotate_left
  ·cases h
  rename_i y py nm b0 rest p' hs
  simp only [Bool.and_eq_true, decide_eq_true_eq, List.all_eq_true] at h
  obtain ⟨⟨⟨⟨⟨⟨h1, h2⟩, h3⟩, h4⟩, h5⟩, h6⟩, h7⟩ := h
  unfold okC at hk
  simp only [Bool.and_eq_true] at hk
  obtain ⟨⟨k1, k2⟩, k3⟩ := hk
  obtain ⟨l', hl⟩ := sC l o k3 h7
  refine ⟨_, .cons (cH := chOf X.mg y) ⟨o.gl h1, nm1 h2, o.t.xn y h3⟩ ?_ (fun c s es => ?_) (fun c es => ?_) hl⟩
  ·cases nm with
   | none =>
    cases i with
    | none => trivial
    | some j => cases h4
   | some n =>
    cases i with
    | none => cases h4
    | some j =>
     simp only [Bool.and_eq_true, decide_eq_true_eq] at h4
     refine ⟨by rw [o.hN]; exact h4.1, ?_, ?_⟩
     ·show X.env.scope.names.lookup n = _
      rw [o.sc]; exact isl_of h4.2
     ·rw [o.hN]; exact (List.getElem?_eq_some_iff.mp h4.1).1
  ·have es2 : (match t.lookup c with | some true => some (some (evB m (i.map fun i => (i, c)) b)) | some false => some none | none => none) = some (some s) := es
   split at es2
   ·rename_i e
    cases es2
    have xm := o.t.xm _ (h5 _ (tk_mem e))
    rw [o.hK] at xm
    refine ⟨xm, fun a ob pn hz hd => sB b (o.suite hz hd) (fun j c' z => ?_) k2 h6⟩
    cases i with
    | none => cases z
    | some j' =>
     cases z
     simp only [Bool.not_eq_true', decide_eq_false_iff_not] at k1
     exact k1
   ·cases es2
   ·cases es2
  ·have es2 : (match t.lookup c with | some true => some (some (evB m (i.map fun i => (i, c)) b)) | some false => some none | none => none) = some none := es
   split at es2
   ·cases es2
   ·rename_i e
    have xm := o.t.xm _ (h5 _ (tk_mem e))
    rw [o.hK] at xm
    exact xm
   ·cases es2
end
structure FnD where
 N : List Str
 np : Nat
 b : Bk
def semN (fns : List FnD) (ft : FT) : Nat → Nat → FC
 | 0, _ => fun _ _ => .fail
 | k + 1, i => match fns[i]? with
  | some f => bodyF f.N.length f.np (evB ⟨semN fns ft k, ft⟩ none f.b)
  | none => fun _ _ => .fail
def chFn (T : Tb) (f : FnD) (d : He.DefD) : Bool := chB T ⟨f.N, d.scope, fun _ => true, true, true⟩ f.b d.body && okB f.b && decide f.N.Nodup && decide (d.scope.kind = .function) && !d.scope.isCoroutine && !d.scope.isGenerator && decide (f.np ≤ f.N.length) &&
 (f.N.take f.np).all (fun x => locB d.scope x) && d.scope.names.all (fun y => decide (y.2 ≠ .free))
theorem fn_level {T : Tb} {f : FnD} {d : He.DefD} {m : Sm} {k : Nat} {P : Program} {w : World} {K : PySem.W.Frag} {mg : Str → Option Value} {base : Heap} {G : Cg} (hK : G.K = K) (hW : G.w = w) (h : chFn T f d = true) (t : TOk T m k P w K mg base G) {dvs : List V} {kws : List (Str × V)} {fa : Addr} {fd : FuncData}
  (F0 : FunD K d.name d.qual d.params d.body d.scope dvs kws fa fd) : FnOk P w K mg base (L2.CX P w) (2 * (k + 1)) fa fd (f.N.take f.np) (spD G (bodyF f.N.length f.np (evB m none f.b))) := by
 unfold chFn at h
 simp only [Bool.and_eq_true, decide_eq_true_eq, Bool.not_eq_true', List.all_eq_true] at h
 obtain ⟨⟨⟨⟨⟨⟨⟨⟨h1, h2⟩, h3⟩, h4⟩, h5⟩, h6⟩, h7⟩, h8⟩, h9⟩ := h
 have hl : (f.N.take f.np).length = f.np := by rw [List.length_take]; omega
 have S0 : FnScope f.N (f.N.take f.np) d.scope := ⟨h4, h5, h6, h3, by rw [hl], fun x hx => loc_of (h8 x hx), fun y hy => h9 y hy⟩
 have z := fn_ok (P := P) (w := w) (mg := mg) (base := base) (G := ⟨G, none⟩) (k := 2 * k + 1) (b := evB m none f.b) rfl F0 S0 fun cdv A outer s H E hr => sB f.b (Γ := ⟨f.N, d.scope, fun _ => true, true, true⟩) (T := T) (k := k)
  { hK := hK, hW := hW, t := t, hN := rfl, nd := h3, un := by have := hr.un; show (A.deeper (envOfC d.qual d.scope s.heap.objs.size fa cdv)).units + 65 < cLine; omega, kd := h4, sc := rfl, fn := rfl, cm := fun _ => ⟨rfl, hr, takes_of rfl rfl rfl rfl, passes_of rfl, rfl⟩, df := fun _ => ⟨rfl, rfl⟩, c0 := fun _ => rfl, c1 := fun i c z => (by cases z), c2 := fun i c a z => (by cases z) } (fun i c z => by cases z) h2 h1
 rw [hl] at z
 exact z
theorem fn_zero {P : Program} {w : World} {K : PySem.W.Frag} {mg : Str → Option Value} {base : Heap} {G : Cg} {j : Nat} {fa : Addr} {fd : FuncData} {ps : List Str} : FnOk P w K mg base (L2.CX P w) j fa fd ps (spD G fun _ _ => .fail) :=
 ⟨fun vs H Q E ⟨_, _, _, _, _, p⟩ => p.elim, fun A outer s H args us vs Q E _ _ _ _ ⟨_, _, _, _, _, p⟩ => p.elim⟩
end Sb
namespace Sb
open L2 PySem PySem.Spec PyProof.Rows
def chFns (T : Tb) : List FnD → List He.DefD → Bool
 | [], [] => true
 | f :: l, d :: r => chFn T f d && chFns T l r
 | _, _ => false
theorem chFns_at {T : Tb} : ∀ {l : List FnD} {r : List He.DefD} {i : Nat} {f : FnD}, chFns T l r = true → l[i]? = some f → ∃ d, r[i]? = some d ∧ chFn T f d = true
 | [], _, i, f, _, e => by simp at e
 | _ :: _, [], _, _, h, _ => by unfold chFns at h; cases h
 | f :: l, d :: r, 0, f', h, e => by
  unfold chFns at h
  have z : f = f' := by simpa using e
  subst z
  exact ⟨d, rfl, (Bool.and_eq_true_iff.mp h).1⟩
 | f :: l, d :: r, i + 1, f', h, e => by
  unfold chFns at h
  obtain ⟨d', h1, h2⟩ := chFns_at (l := l) (r := r) (i := i) (Bool.and_eq_true_iff.mp h).2 (by simpa using e)
  exact ⟨d', by simpa using h1, h2⟩
def BindV (fns : List FnD) (ds : List He.DefD) (q : Nat × Nat × List Cst) : Prop := ∃ f d, fns[q.1]? = some f ∧ ds[q.1]? = some d ∧
 ((q.2.2 = [] ∧ d.dfl = [] ∧ q.2.1 = (f.N.take f.np).length ∧ ∀ (kV doc pm : Value) (an : Option Addr) (cdv ct : Value) (us : List Value), us.length = (f.N.take f.np).length → bindArgs (PySem.W.fnOf d.name d.qual d.params d.body d.scope .none kV doc pm an cdv ct) ⟨us, []⟩ = pure ((f.N.take f.np).zip us)) ∨
 (d.dfl ≠ [] ∧ ∃ j, q.2.2.map Cst.w = d.dfl.drop j ∧ q.2.1 + (d.dfl.length - j) = (f.N.take f.np).length ∧ ∀ (T : Addr) (kV doc pm : Value) (an : Option Addr) (cdv ct : Value) (us its : List Value), us.length = q.2.1 → its.length = d.dfl.length →
   ∃ k, bindArgs (PySem.W.fnOf d.name d.qual d.params d.body d.scope (.ref T) kV doc pm an cdv ct) ⟨us, []⟩ = seqItems? (.ref T) >>= k ∧ k (some its.toArray) = pure ((f.N.take f.np).zip (us ++ its.drop j))))
def AllV (fns : List FnD) (ds : List He.DefD) : List (Nat × Nat × List Cst) → Prop
 | [] => True
 | q :: l => BindV fns ds q ∧ AllV fns ds l
theorem AllV.at_ {fns : List FnD} {ds : List He.DefD} : ∀ {l : List (Nat × Nat × List Cst)} {q : Nat × Nat × List Cst}, AllV fns ds l → q ∈ l → BindV fns ds q
 | [], _, _, h => by cases h
 | p :: l, q, a, h => by
  rcases List.mem_cons.mp h with e | h
  ·rw [e]; exact a.1
  ·exact AllV.at_ a.2 h
def fnsB (vs : List (Nat × Nat × List Cst)) (ds : List He.DefD) : Nat → List FnT → Bool
 | _, [] => true
 | i, t :: l => t.dd.all (fun p => decide ((i, p.1, p.2) ∈ vs) && decide ((ds[i]?.map (·.at_)) = some (t.nm, none))) && fnsB vs ds (i + 1) l
theorem fnsB_at {vs : List (Nat × Nat × List Cst)} {ds : List He.DefD} : ∀ {l : List FnT} {j i : Nat} {t : FnT}, fnsB vs ds j l = true → l[i]? = some t → ∀ p ∈ t.dd, (j + i, p.1, p.2) ∈ vs ∧ (ds[j + i]?.map (·.at_)) = some (t.nm, none)
 | [], _, _, _, _, e => by simp at e
 | t :: l, j, 0, t', h, e => by
  unfold fnsB at h
  have z : t = t' := by simpa using e
  subst z
  have h1 := (Bool.and_eq_true_iff.mp h).1
  simp only [List.all_eq_true, Bool.and_eq_true, decide_eq_true_eq] at h1
  exact fun p hp => h1 p hp
 | t :: l, j, i + 1, t', h, e => by
  unfold fnsB at h
  have z := fnsB_at (l := l) (j := j + 1) (i := i) (Bool.and_eq_true_iff.mp h).2 (by simpa using e)
  have e2 : j + 1 + i = j + (i + 1) := by omega
  rw [e2] at z
  exact z
def meAt (T : Tb) (ds : List He.DefD) (i c : Nat) (x : Str) : Bool := match ds[i]?.map (·.at_) with
 | some (b, some y) => decide (y = x) && (decide (b = T.cn c) || decide ((c, x, b) ∈ T.inh))
 | _ => false
theorem meAt_ok {T : Tb} {ds : List He.DefD} {i c : Nat} {x : Str} {K : PySem.W.Frag} (h : meAt T ds i c x = true) (hi : ∀ q ∈ T.inh, He.ma K (T.ad K q.1) q.2.1 = He.fAd K (q.2.2, some q.2.1)) :
  ∃ a, (ds[i]?.map (·.at_)) = some a ∧ He.fAd K a = He.ma K (T.ad K c) x := by
 unfold meAt at h
 split at h
 ·rename_i b y q
  simp only [Bool.and_eq_true, Bool.or_eq_true, decide_eq_true_eq] at h
  obtain ⟨h1, h2⟩ := h
  subst h1
  refine ⟨_, q, ?_⟩
  rcases h2 with h2 | h2
  ·rw [h2]; rfl
  ·exact (hi _ h2).symm
 ·cases h
def chAll (T : Tb) (fns : List FnD) (ds : List He.DefD) (vs : List (Nat × Nat × List Cst)) : Bool := chFns T fns ds && fnsB vs ds 0 T.fn &&
 T.me.all (fun q => decide ((q.2.2.2.1, q.2.2.1, q.2.2.2.2) ∈ vs) && meAt T ds q.2.2.2.1 q.1 q.2.1) &&
 T.mks.all (fun q => decide ((q.2.2.2.1, q.2.2.1, q.2.2.2.2) ∈ vs) && decide (T.cn q.1 = q.2.1) && meAt T ds q.2.2.2.1 q.1 ("__init__" : Str)) &&
 T.ex.all (fun q => decide (T.cn q.1 = q.2))
section
variable {T : Tb} {fns : List FnD} {ds : List He.DefD} {vs : List (Nat × Nat × List Cst)} {P : Program} {w : World} {K : PySem.W.Frag} {h base : Heap} {mg : Str → Option Value}
abbrev Tb.G (T : Tb) (K : PySem.W.Frag) (w : World) : Cg := ⟨K, T.ad K, w⟩
theorem fn_at (c : He.SaysD [] ds K) (hs : chFns T fns ds = true) {k : Nat} (t : TOk T ⟨semN fns T.f k, T.f⟩ k P w K mg base (T.G K w)) {i : Nat} {f : FnD} (e : fns[i]? = some f) {d : He.DefD} (ed : ds[i]? = some d) {fd : FuncData} (F0 : FunD K d.name d.qual d.params d.body d.scope (d.dvs K) (d.kws K) (He.fAd K d.at_) fd) :
  FnOk P w K mg base (L2.CX P w) (2 * (k + 1)) (He.fAd K d.at_) fd (f.N.take f.np) (spD (T.G K w) (semN fns T.f (k + 1) i)) := by
 obtain ⟨d', ed', hc⟩ := chFns_at hs e
 rw [ed] at ed'
 cases ed'
 have es : semN fns T.f (k + 1) i = bodyF f.N.length f.np (evB ⟨semN fns T.f k, T.f⟩ none f.b) := by
  show (match fns[i]? with | some f => bodyF f.N.length f.np (evB ⟨semN fns T.f k, T.f⟩ none f.b) | none => fun _ _ => .fail) = _
  rw [e]
 rw [es]
 exact fn_level (K := K) (G := T.G K w) rfl rfl hc t F0
theorem cal_at (c : He.SaysD [] ds K) (hs : chFns T fns ds = true) (hb : AllV fns ds vs) {k : Nat} (t : ∀ j, k = j + 1 → TOk T ⟨semN fns T.f j, T.f⟩ j P w K mg base (T.G K w)) {i n : Nat} {dd : List Cst} (hv : (i, n, dd) ∈ vs) {a : Str × Option Str} (ha : (ds[i]?.map (·.at_)) = some a) :
  Cal (T.G K w) P w mg base (2 * k) (He.fAd K a) n (dd.map Cst.d) (semN fns T.f k i) := by
 obtain ⟨f, d, ef, ed, hd⟩ := hb.at_ hv
 have ed : ds[i]? = some d := ed
 have ef : fns[i]? = some f := ef
 rw [ed] at ha
 have ea : d.at_ = a := by simpa using ha
 obtain ⟨fd, F0⟩ := c.def_ i ed
 rw [ea] at F0
 have FN : FnOk P w K mg base (L2.CX P w) (2 * k) (He.fAd K a) fd (f.N.take f.np) (spD (T.G K w) (semN fns T.f k i)) := by
  cases k with
  | zero => exact fn_zero
  | succ j =>
   have z := fn_at c hs (t j rfl) ef ed (by rw [ea]; exact F0)
   rw [ea] at z
   exact z
 refine ⟨?_, F0.kp⟩
 rcases hd with ⟨e1, e2, e3, hbn⟩ | ⟨e1, j, e2, e3, hbn⟩
 ·have e1 : dd = [] := e1
  subst e1
  have ev : d.dvs K = [] := by unfold He.DefD.dvs; rw [e2]; rfl
  rw [ev] at F0
  exact ⟨fd, _, [], [], FN, F0.bindsN hbn, .nil, fun _ _ => .nil, e3⟩
 ·have ne : d.dvs K ≠ [] := by unfold He.DefD.dvs; simpa using e1
  have hl : (d.dvs K).length = d.dfl.length := by unfold He.DefD.dvs; exact List.length_map ..
  obtain ⟨dss, hv2, hB⟩ := F0.binds1 (ps := f.N.take f.np) n j ne (by rw [hl]; exact e3) (by rw [hl]; exact hbn)
  have e2 : dd.map Cst.w = d.dfl.drop j := e2
  have ed2 : (d.dvs K).drop j = dd.map Cst.v := by
   unfold He.DefD.dvs
   rw [← List.map_drop, ← e2, List.map_map]
   exact List.map_congr_left fun c _ => c.wv K
  rw [ed2] at hv2
  refine ⟨fd, _, dss, dd.map Cst.v, FN, hB, hv2, fun S H => Cst.vds dd, ?_⟩
  have l1 : dd.length = d.dfl.length - j := by
   have z := congrArg List.length e2
   rw [List.length_map, List.length_drop] at z
   exact z
  have e3 : n + (d.dfl.length - j) = (f.N.take f.np).length := e3
  rw [List.length_map, l1]
  exact e3
theorem nsK_some (X : K.In h) (Gm : h.Ns mainGlobals mg) {x : Str} {v : Value} (e : PySem.W.nsIn K mainGlobals x = some (some v)) : mg x = some v := PySem.W.mg_of X Gm e
theorem ch_eq (X : K.In h) (Gm : h.Ns mainGlobals mg) {x : Str} (e : xnB K x = true) : chOf mg x = chK K x ∧ (mg x = some (chOf mg x) ∨ (mg x = none ∧ bootBuiltins x = some (chOf mg x) ∧ x ≠ "__name__")) ∧ RelV (vOf (chK K x)) (chK K x) ∧ ∀ u, RelV (vOf (chK K x)) u → u = chK K x := by
 unfold xnB at e
 split at e
 ·rename_i a q
  have m := nsK_some X Gm q
  have ek : chK K x = .ref a := by unfold chK; rw [q]
  have eo : chOf mg x = .ref a := by unfold chOf; rw [m]
  rw [ek, eo]
  exact ⟨rfl, .inl m, rfl, fun u r => r⟩
 ·rename_i q
  have m : mg x = none := PySem.W.mg_none_of X Gm q
  split at e
  ·rename_i t qb
   have ek : chK K x = .type t := by unfold chK; rw [q]; simp [qb]
   have eo : chOf mg x = .type t := by unfold chOf; rw [m]; simp [qb]
   rw [ek, eo]
   refine ⟨rfl, .inr ⟨m, qb, by simpa using e⟩, rfl, fun u r => r⟩
  ·cases e
 ·cases e
theorem ch_cls {x : Str} (e : xnB K x = true) : ClsV (vOf (chK K x)) (chK K x) := by
 unfold xnB at e
 split at e
 ·rename_i a q
  have ek : chK K x = .ref a := by unfold chK; rw [q]
  rw [ek]
  exact .own a
 ·rename_i q
  split at e
  ·rename_i t qb
   have ek : chK K x = .type t := by unfold chK; rw [q]; simp [qb]
   rw [ek]
   exact .ty t
  ·cases e
 ·cases e
theorem tok_ok (X : K.In h) (Gm : h.Ns mainGlobals mg) (c : He.SaysD [] ds K) (hK : T.okK K = true) (hS : T.seen K = T.keys w.params) (hs : chAll T fns ds vs = true) (hb : AllV fns ds vs) : ∀ k, TOk T ⟨semN fns T.f k, T.f⟩ k P w K mg base (T.G K w) := by
 unfold Tb.okK at hK
 simp only [Bool.and_eq_true, List.all_eq_true, decide_eq_true_eq] at hK
 obtain ⟨⟨⟨⟨⟨⟨⟨⟨⟨⟨⟨⟨k1, k2⟩, k3⟩, k4⟩, k5⟩, k6⟩, k7⟩, k8⟩, k9⟩, k10⟩, k11⟩, k12⟩, k13⟩ := hK
 unfold chAll at hs
 simp only [Bool.and_eq_true, List.all_eq_true, decide_eq_true_eq] at hs
 obtain ⟨⟨⟨⟨s1, s2⟩, s3⟩, s4⟩, s5⟩ := hs
 have main : ∀ k, (∀ j, k = j + 1 → TOk T ⟨semN fns T.f j, T.f⟩ j P w K mg base (T.G K w)) → TOk T ⟨semN fns T.f k, T.f⟩ k P w K mg base (T.G K w) := fun k prev =>
  {
   ft := rfl
   fok := fun cc f q => by
    unfold Tb.f at q
    obtain ⟨z1, z2⟩ := k4 (cc, f) (of_decide_eq_true q)
    exact ⟨He.cls_ok z1, He.noat_ok z2⟩
   bn := fun x hx => He.free_ok X Gm (k1 x hx)
   gl := fun p hp => by
    have z := k2 p hp
    unfold glB0 at z
    split at z
    ·rename_i u q
     exact ⟨u, nsK_some X Gm q, He.relB_ok z⟩
    ·cases z
   fn := fun i t et he => by
    have z := k3 t (List.mem_of_getElem? et)
    have g := He.glo_ok X Gm (show (He.Fa.glo t.nm).ok K = true by
     rcases Bool.or_eq_true_iff.mp z with z | z
     ·exact absurd (List.isEmpty_iff.mp z) he
     ·exact z)
    refine ⟨_, g, fun n dd hm => ?_⟩
    obtain ⟨z1, z2⟩ := fnsB_at s2 et _ hm
    rw [Nat.zero_add] at z1 z2
    exact cal_at c s1 hb prev z1 z2
   me := fun cc x n i dd hm => by
    obtain ⟨z1, z2⟩ := k5 _ hm
    obtain ⟨z3, z4⟩ := s3 _ hm
    obtain ⟨a, z5, z6⟩ := meAt_ok (K := K) z4 k11
    have z7 := cal_at c s1 hb prev z3 z5
    rw [z6] at z7
    exact ⟨_, He.cls_ok z1, He.meth_ok z2, z7⟩
   mks := fun cc x n i dd hm => by
    obtain ⟨z1, z2⟩ := k6 _ hm
    obtain ⟨⟨z3, z5⟩, z4⟩ := s4 _ hm
    have z5 : T.cn cc = x := z5
    have ea : T.ad K cc = He.ga K x := by unfold Tb.ad; rw [z5]
    show ∃ fi, mg x = some (.ref (T.ad K cc)) ∧ Mk K (T.ad K cc) fi ∧ _
    obtain ⟨a, z6, z7⟩ := meAt_ok (K := K) z4 k11
    have z8 := cal_at c s1 hb prev z3 z6
    rw [z7, ea] at z8
    rw [ea]
    exact ⟨_, He.glo_ok X Gm z1, He.mkr_ok z2, z8⟩
   ex := fun q hm => by
    obtain ⟨z1, z2⟩ := k7 _ hm
    have z5 : T.cn q.1 = q.2 := s5 _ hm
    have ea : T.ad K q.1 = He.ga K q.2 := by unfold Tb.ad; rw [z5]
    obtain ⟨e1, e2, e3, e4⟩ := He.exc_ok z2
    show mg q.2 = some (.ref (T.ad K q.1)) ∧ ExC ⟨K, T.ad K, w⟩ q.1
    refine ⟨by rw [ea]; exact He.glo_ok X Gm z1, ?_⟩
    exact ⟨by show PySem.W.excIn K (T.ad K q.1) _ _ = true; rw [ea]; exact e1, by show PySem.W.keepIn K (.ref (T.ad K q.1)) = true; rw [ea]; exact e2, by show PySem.W.subIn K (.ref (T.ad K q.1)) _ = some true; rw [ea]; exact e3, by show PySem.W.typeIn K (.ref (T.ad K q.1)) = _; rw [ea]; exact e4⟩
   xn := fun x hx => (ch_eq X Gm (k8 x hx)).2.1
   xm := fun q hm => by
    obtain ⟨z1, z3⟩ := k9 _ hm
    rw [(ch_eq X Gm z1).1]
    exact z3
   xi := fun q hm => by
    obtain ⟨⟨z1, z2⟩, z3⟩ := k10 _ hm
    obtain ⟨c1, c2, c3, c4⟩ := ch_eq X Gm z1
    refine ⟨?_, vOf (chK K q.2.1), by rw [c1]; exact c3, by rw [c1]; exact c4, by rw [c1]; exact z3⟩
    unfold excB at z2
    simp only [Bool.and_eq_true, decide_eq_true_eq] at z2
    obtain ⟨⟨⟨⟨⟨⟨⟨x1, x2⟩, x3⟩, x4⟩, x5⟩, x6⟩, x7⟩, x8⟩ := z2
    exact ⟨x1, x2, x3, x4, x5, x6, x7, x8⟩
   ic := fun q hm => by
    obtain ⟨⟨⟨z1, z2⟩, z3⟩, z4⟩ := k12 _ hm
    obtain ⟨c1, c2, c3, c4⟩ := ch_eq X Gm z1
    refine ⟨?_, vOf (chK K q.2.1), by rw [c1]; exact ch_cls z1, by rw [c1]; exact c3, by rw [c1]; exact z4⟩
    unfold insB at z3
    simp only [Bool.and_eq_true, decide_eq_true_eq] at z3
    obtain ⟨⟨⟨x1, x2⟩, x3⟩, x4⟩ := z3
    exact ⟨He.cls_ok z2, x1, x2, x3, x4⟩
   tab := fun q hm => by
    obtain ⟨z1, z2⟩ := k13 _ hm
    refine ⟨_, He.glo_ok X Gm z1, ?_⟩
    have e : He.dicW K (He.ga K q.1) = some (He.keysIn w.params (q.2.map (·.1))) := by
     have all : ∀ (l : List (Str × List (Str × Cst))), (l.map fun q => He.dicW K (He.ga K q.1)) = (l.map fun q => some (He.keysIn w.params (q.2.map (·.1)))) → ∀ q ∈ l, He.dicW K (He.ga K q.1) = some (He.keysIn w.params (q.2.map (·.1))) := by
      intro l
      induction l with
      | nil => intro _ q hq; cases hq
      | cons p l ih =>
       intro h q hq
       rw [List.map_cons, List.map_cons] at h
       injection h with h1 h2
       rcases List.mem_cons.mp hq with e | hq
       ·rw [e]; exact h1
       ·exact ih h2 q hq
     exact all T.tab hS q hm
    have e2 : (q.2.map fun p => (p.1, p.2.w)).map (·.1) = q.2.map (·.1) := by rw [List.map_map]; rfl
    have z := ktab_ok (K := K) (w := w) (t := q.2.map fun p => (p.1, p.2.w)) (by rw [e2]; exact e) z2
    rw [List.map_map] at z
    have e3 : (q.2.map ((fun p => (p.1, p.2.v K)) ∘ fun p => (p.1, p.2.w))) = q.2.map fun p => (p.1, p.2.v) := List.map_congr_left fun p _ => by
     show (p.1, p.2.w.v K) = (p.1, p.2.v)
     rw [Cst.wv]
    rw [e3] at z
    exact z }
 intro k
 induction k with
 | zero => exact main 0 fun j e => by cases e
 | succ k ih => exact main (k + 1) fun j e => by cases e; exact ih
theorem walk_S {l : PySem.W.OpenLaw} {n k : Nat} {q : Program} {loose : List Str} {XP : (Str → Option Value) → Heap → Prop} {YP : World → Heap → Prop} {d : DefRec} {x : Str}
  (hn : l.most = some n) (hn2 : n ≤ sizeLine) (hdf : d.params.defaults = []) (hr : Room k callerA)
  (F : ∀ (w : World) (mg : Str → Option Value) (fa : Addr) (h : Heap), YP w h → h.Ns mainGlobals mg → mg d.name = some (.ref fa) →
   ∃ (K : PySem.W.Frag) (fd : FuncData) (sp : Sp), K.In h ∧ (∀ (s : Shared) (u : Value), BindsTo s fd ⟨[u], []⟩ [(x, u)]) ∧
    (∀ (H : Hp) (a : Addr) (ns : List Int), ns.length ≤ n → Only H → SqL K H a (ns.map V.int) → sp [.ref a] H (fun v _ => v = .bl true) fun _ _ _ => False) ∧
    ∀ base : Heap, K.In base → base.Ns mainGlobals mg → FnOk l.prog w K mg base (L2.CX l.prog w) k fa fd [x] sp) :
  PySem.W.WalkO q loose XP YP l.row.toRowW d [] (fun f vs => PySem.call f vs) := by
 refine Att.attach_call hn hdf fun w s0 s1 mg mb fa ob pm cd doc a vs ns Gr Y ho hd hcd hmg hobj hints hlen hg => ?_
 obtain ⟨K, fd, sp, KX, hb, hsp, hF⟩ := F w mg fa _ Y Gr.T.g hmg
 exact law_call KX Gr.T.g Gr.T.b Gr.T.builtins Gr.T.nolimit hg hobj hints (Nat.le_trans hlen hn2) hr hF hb (fun H hO hS => hsp H a ns hlen hO hS) fun H e s' z => by
  obtain ⟨_, _, _, _, _, _, _, _, _, _, _, _, z⟩ := z
  exact z
theorem law_sp {G : Cg} {f : FC} {H : Hp} {a : Addr} {ns : List Int} (hO : Only H) (hS : SqL G.K H a (ns.map V.int)) (hf : ∃ h, f [.scr ns] [] = .ok (.bl true) h) : spD G f [.ref a] H (fun v _ => v = .bl true) fun _ _ _ => False := by
 obtain ⟨h, e⟩ := hf
 refine ⟨⟨fun _ => 0, 0, fun _ => False⟩, [], [.scr ns], ⟨rfl, fun i z => absurd z (Nat.not_lt_zero _), fun i j z => absurd z (Nat.not_lt_zero _), fun b z => z.elim, fun i o z => by simp at z⟩, .cons (.scr (sqF_of hS hO)) .nil, ?_⟩
 rw [e]
 intro S' H' v _ _ x
 cases x
 rfl
theorem law_F {T : Tb} {fns : List FnD} {ds : List He.DefD} {vs : List (Nat × Nat × List Cst)} {P : Program} {w : World} {mg : Str → Option Value} {h : Heap} {x y : Str} {i n j : Nat} {d : He.DefD} {f : FnD} {fa : Addr} (c : (hookS n T ds).says w h) (Gm : h.Ns mainGlobals mg) (hmg : mg y = some (.ref fa)) (hs : chAll T fns ds vs = true) (hb : AllV fns ds vs)
  (hT : ∃ t, T.fn[i]? = some t ∧ t.nm = y ∧ (1, []) ∈ t.dd) (hv : (i, 1, []) ∈ vs) (hf : fns[i]? = some f) (hd : ds[i]? = some d) (hN : f.N.take f.np = [x]) (hdf : d.dfl = []) (law : ∀ ns : List Int, ns.length ≤ n' → ∃ h, semN fns T.f (j + 1) i [.scr ns] [] = .ok (.bl true) h) :
  ∃ (K : PySem.W.Frag) (fd : FuncData) (sp : Sp), K.In h ∧ (∀ (s : Shared) (u : Value), BindsTo s fd ⟨[u], []⟩ [(x, u)]) ∧
    (∀ (H : Hp) (a : Addr) (ns : List Int), ns.length ≤ n' → Only H → SqL K H a (ns.map V.int) → sp [.ref a] H (fun v _ => v = .bl true) fun _ _ _ => False) ∧
    ∀ base : Heap, K.In base → base.Ns mainGlobals mg → FnOk P w K mg base (L2.CX P w) (2 * (j + 1)) fa fd [x] sp := by
 obtain ⟨K, KX, c1, c2, c3⟩ := c
 obtain ⟨t, et, en, em⟩ := hT
 have hs0 := hs
 unfold chAll at hs
 simp only [Bool.and_eq_true] at hs
 obtain ⟨⟨⟨⟨s1, s2⟩, _⟩, _⟩, _⟩ := hs
 obtain ⟨_, ea⟩ := fnsB_at s2 et _ em
 rw [Nat.zero_add, hd] at ea
 have ea2 : d.at_ = (t.nm, none) := by simpa using ea
 obtain ⟨fd, F0⟩ := c1.def_ i hd
 have ef : He.fAd K d.at_ = fa := by
  have TT : TOk T ⟨semN fns T.f 0, T.f⟩ 0 P w K mg h (T.G K w) := tok_ok KX Gm c1 c2 c3 hs0 hb 0
  unfold Tb.okK at c2
  simp only [Bool.and_eq_true, List.all_eq_true, decide_eq_true_eq] at c2
  obtain ⟨⟨⟨⟨⟨⟨⟨⟨⟨⟨⟨⟨_, _⟩, k3⟩, _⟩, _⟩, _⟩, _⟩, _⟩, _⟩, _⟩, _⟩, _⟩, _⟩ := c2
  have z := k3 t (List.mem_of_getElem? et)
  have g := He.glo_ok KX Gm (show (He.Fa.glo t.nm).ok K = true by
   rcases Bool.or_eq_true_iff.mp z with z | z
   ·rw [List.isEmpty_iff.mp z] at em; cases em
   ·exact z)
  rw [en, hmg] at g
  rw [ea2, en]
  exact (Value.ref.inj (Option.some.inj g)).symm
 have ev : d.dvs K = [] := by unfold He.DefD.dvs; rw [hdf]; rfl
 have F1 := F0
 rw [ev] at F1
 obtain ⟨f', d', q1, q2, q3⟩ := hb.at_ hv
 have q1 : fns[i]? = some f' := q1
 have q2 : ds[i]? = some d' := q2
 rw [hf] at q1
 cases q1
 rw [hd] at q2
 cases q2
 refine ⟨K, fd, spD (T.G K w) (semN fns T.f (j + 1) i), KX, ?_, fun H a ns hl hO hS => law_sp hO hS (law ns hl), fun base kb nb => ?_⟩
 ·rcases q3 with ⟨_, _, _, b⟩ | ⟨ne, _⟩
  ·have z := F1.bindsA b
   rw [hN] at z
   exact fun s u => z s [u] rfl
  ·exact absurd hdf ne
 ·have z := fn_at (P := P) (w := w) (mg := mg) (base := base) c1 s1 (tok_ok kb nb c1 c2 c3 hs0 hb j) hf hd F0
  rw [ef, hN] at z
  exact z
end
end Sb
namespace Sb
open L2 PySem PySem.Spec PyProof.Rows
theorem rb_ok {α β : Type} (a : α) (h : Hh) (k : α → Hh → R β) : (R.ok a h).bind k = k a h := rfl
theorem rb_exc {α β : Type} (c : Nat) (fs : List (Str × D)) (h : Hh) (k : α → Hh → R β) : (R.exc c fs h : R α).bind k = .exc c fs h := rfl
theorem rst_ok {α : Type} (a : α) (h : Hh) (e : En) (k : α → Hh → RS) : (R.ok a h).st e k = k a h := rfl
theorem rst_exc {α : Type} (c : Nat) (fs : List (Str × D)) (h : Hh) (e : En) (k : α → Hh → RS) : (R.exc c fs h : R α).st e k = .exc c fs e h := rfl
theorem opt_some {α : Type} (h : Hh) (a : α) : opt h (some a) = .ok a h := rfl
def thenS : RS → FS → RS
 | .nx e h, b => b e h
 | r, _ => r
theorem seq_then (a b : FS) (e : En) (h : Hh) : sSeq a b e h = thenS (a e h) b := by
 unfold sSeq thenS
 cases a e h <;> rfl
theorem then_nx (e : En) (h : Hh) (b : FS) : thenS (.nx e h) b = b e h := rfl
theorem then_rt (d : D) (h : Hh) (b : FS) : thenS (.rt d h) b = .rt d h := rfl
theorem then_bk (d : En) (h : Hh) (b : FS) : thenS (.bk d h) b = .bk d h := rfl
theorem then_ct (d : En) (h : Hh) (b : FS) : thenS (.ct d h) b = .ct d h := rfl
theorem then_exc (c : Nat) (fs : List (Str × D)) (e : En) (h : Hh) (b : FS) : thenS (.exc c fs e h) b = .exc c fs e h := rfl
theorem then_if (c : Prop) [Decidable c] (x y : RS) (b : FS) : thenS (if c then x else y) b = if c then thenS x b else thenS y b := by split <;> rfl
def outB : RS → R D
 | .nx _ h' => .ok .non h'
 | .rt d h' => .ok d h'
 | .exc c fs _ h' => .exc c fs h'
 | _ => .fail
theorem body_out {n np : Nat} {b : FS} {ds : List D} {h : Hh} (hl : ds.length = np) : bodyF n np b ds h = outB (b (startE n ds) h) := by
 unfold bodyF outB
 rw [if_pos hl]
 first | done | (cases b (startE n ds) h <;> rfl)
theorem out_rt (d : D) (h : Hh) : outB (.rt d h) = .ok d h := rfl
theorem out_nx (e : En) (h : Hh) : outB (.nx e h) = .ok .non h := rfl
theorem out_exc (c : Nat) (fs : List (Str × D)) (e : En) (h : Hh) : outB (.exc c fs e h) = .exc c fs h := rfl
theorem out_if (c : Prop) [Decidable c] (x y : RS) : outB (if c then x else y) = if c then outB x else outB y := by split <;> rfl
theorem fits_T {n : Nat} (c : n ≤ 16777216) : (fits n = true) = True := eq_true (decide_eq_true c)
theorem i_add (h : Hh) (i j : Int) : opAdd h (.int i) (.int j) = some (.int (i + j)) := rfl
theorem i_sub (h : Hh) (i j : Int) : opSub h (.int i) (.int j) = some (.int (i - j)) := rfl
theorem i_and (h : Hh) (i j : Int) : opAnd h (.int i) (.int j) = some (.int (Builtin.bitAnd i j)) := rfl
theorem i_neg (h : Hh) (i : Int) : opNeg h (.int i) = some (.int (-i)) := rfl
theorem i_mul {h : Hh} {i j : Int} (c : i.natAbs < 2 ^ 64 ∨ j.natAbs < 2 ^ 64) : opMul h (.int i) (.int j) = some (.int (i * j)) := by
 have e : mulOk i j = true := by
  unfold mulOk
  simp only [Bool.or_eq_true, decide_eq_true_eq]
  exact .inl c
 show (if mulOk i j = true then some (D.int (i * j)) else none) = _
 rw [if_pos e]
theorem i_mod {h : Hh} {i j : Int} (c : 0 < j) : opMod h (.int i) (.int j) = some (.int (i % j)) := by
 show (if 0 < j then some (D.int (i % j)) else none) = _
 rw [if_pos c]
theorem i_div {h : Hh} {i j : Int} (c : 0 < j ∧ j.natAbs < 2 ^ 64) : opDiv h (.int i) (.int j) = some (.int (i / j)) := by
 have e : 0 < j ∧ j.natAbs.log2 < 9000 := by
  refine ⟨c.1, ?_⟩
  have z : j.natAbs ≠ 0 := by omega
  have : j.natAbs.log2 < 64 := (Nat.log2_lt z).mpr c.2
  omega
 show (if 0 < j ∧ j.natAbs.log2 < 9000 then some (D.int (i / j)) else none) = _
 rw [if_pos e]
theorem i_pow {h : Hh} {i j : Int} (c : 0 ≤ j ∧ j ≤ 1000000 ∧ i.natAbs < 2 ^ 64) : opPow h (.int i) (.int j) = some (.int (i ^ j.toNat)) := by
 show (if 0 ≤ j ∧ j ≤ 1000000 ∧ i.natAbs < 2 ^ 64 then some (D.int (i ^ j.toNat)) else none) = _
 rw [if_pos c]
theorem i_shr {h : Hh} {i j : Int} (c : 0 ≤ j) : opShr h (.int i) (.int j) = some (.int (i / 2 ^ j.toNat)) := by
 show (if 0 ≤ j then some (D.int (i / 2 ^ j.toNat)) else none) = _
 rw [if_pos c]
theorem i_lt (h : Hh) (i j : Int) : cmpD .Lt h (.int i) (.int j) = some (.bl (decide (i < j))) := rfl
theorem i_le (h : Hh) (i j : Int) : cmpD .LtE h (.int i) (.int j) = some (.bl (decide (i ≤ j))) := rfl
theorem i_gt (h : Hh) (i j : Int) : cmpD .Gt h (.int i) (.int j) = some (.bl (decide (j < i))) := rfl
theorem i_ge (h : Hh) (i j : Int) : cmpD .GtE h (.int i) (.int j) = some (.bl (decide (j ≤ i))) := rfl
mutual
def pln : Nat → D → Bool
 | _, .non => true
 | _, .bl _ => true
 | _, .int _ => true
 | _, .str x => PyData.strOk x
 | n, .tup l => match n with
  | 0 => false
  | n + 1 => plns n l
 | n, .lst l => match n with
  | 0 => false
  | n + 1 => plns n l
 | _, _ => false
def plns : Nat → List D → Bool
 | _, [] => true
 | n, d :: l => pln n d && plns n l
end
mutual
def eqB : D → D → Bool
 | .non, .non => true
 | .bl a, .bl b => a == b
 | .bl a, .int j => (if a then 1 else 0) == j
 | .int i, .bl b => i == (if b then 1 else 0)
 | .int i, .int j => decide (i = j)
 | .str x, .str y => decide (x = y)
 | .lst xs, .lst ys => eqBs xs ys
 | .tup xs, .tup ys => eqBs xs ys
 | _, _ => false
def eqBs : List D → List D → Bool
 | [], [] => true
 | x :: xs, y :: ys => eqB x y && eqBs xs ys
 | _, _ => false
end
mutual
theorem pln_py : ∀ {n : Nat} {d : D}, pln n d = true → ∃ p, toPy d = some p ∧ p.canLay0 = true ∧ p.depth ≤ n
 | n, .non, _ => ⟨.none, rfl, by simp [PyData.canLay0], by simp [PyData.depth]⟩
 | n, .bl b, _ => ⟨.bool b, rfl, by simp [PyData.canLay0], by simp [PyData.depth]⟩
 | n, .int i, _ => ⟨.int i, rfl, by simp [PyData.canLay0], by simp [PyData.depth]⟩
 | n, .str x, h => ⟨.str x, rfl, by simp only [PyData.canLay0]; unfold pln at h; exact h, by simp [PyData.depth]⟩
 | n, .tup l, h => by
  unfold pln at h
  cases n with
  | zero => cases h
  | succ n =>
   obtain ⟨ps, e1, e2, e3⟩ := plns_py (n := n) h
   refine ⟨.tuple ps, by show (toPys l).map PyData.tuple = _; rw [e1]; rfl, by simp only [PyData.canLay0]; exact e2, by simp only [PyData.depth]; omega⟩
 | n, .lst l, h => by
  unfold pln at h
  cases n with
  | zero => cases h
  | succ n =>
   obtain ⟨ps, e1, e2, e3⟩ := plns_py (n := n) h
   refine ⟨.list ps, by show (toPys l).map PyData.list = _; rw [e1]; rfl, by simp only [PyData.canLay0]; exact e2, by simp only [PyData.depth]; omega⟩
 | n, .dct _, h => by unfold pln at h; cases h
 | n, .ins _ _, h => by unfold pln at h; cases h
 | n, .ref _, h => by unfold pln at h; cases h
 | n, .scr _, h => by unfold pln at h; cases h
theorem plns_py : ∀ {n : Nat} {d : List D}, plns n d = true → ∃ p, toPys d = some p ∧ PyData.canLayAll0 p = true ∧ PyData.depthAll p ≤ n
 | n, [], _ => ⟨[], rfl, by simp [PyData.canLayAll0], by simp [PyData.depthAll]⟩
 | n, d :: l, h => by
  unfold plns at h
  obtain ⟨h1, h2⟩ := Bool.and_eq_true_iff.mp h
  obtain ⟨p, a1, a2, a3⟩ := pln_py h1
  obtain ⟨ps, b1, b2, b3⟩ := plns_py h2
  refine ⟨p :: ps, by show (match toPy d, toPys l with | some x, some xs => some (x :: xs) | _, _ => none) = _; rw [a1, b1], by simp only [PyData.canLayAll0, a2, b2]; rfl, by simp only [PyData.depthAll]; omega⟩
end
mutual
theorem eqB_py : ∀ {d e : D} {p q : PyData}, toPy d = some p → toPy e = some q → PyData.eqv p q = eqB d e
 | .non, e, p, q, a, b => by
  cases a
  cases e <;> first | (cases b; done) | (obtain ⟨ps, _, rfl⟩ := Option.map_eq_some_iff.mp b; simp [PyData.eqv, eqB]; done) | (cases b; simp [PyData.eqv, eqB]; done) | (cases b; simp [PyData.eqv, eqB]; rfl)
 | .bl x, e, p, q, a, b => by
  cases a
  cases e <;> first | (cases b; done) | (obtain ⟨ps, _, rfl⟩ := Option.map_eq_some_iff.mp b; simp [PyData.eqv, eqB]; done) | (cases b; simp [PyData.eqv, eqB]; done) | (cases b; simp [PyData.eqv, eqB]; rfl)
 | .int i, e, p, q, a, b => by
  cases a
  cases e <;> first | (cases b; done) | (obtain ⟨ps, _, rfl⟩ := Option.map_eq_some_iff.mp b; simp [PyData.eqv, eqB]; done) | (cases b; simp [PyData.eqv, eqB]; done) | (cases b; simp [PyData.eqv, eqB]; rfl)
 | .str x, e, p, q, a, b => by
  cases a
  cases e <;> first | (cases b; done) | (obtain ⟨ps, _, rfl⟩ := Option.map_eq_some_iff.mp b; simp [PyData.eqv, eqB]; done) | (cases b; simp [PyData.eqv, eqB]; done) | (cases b; simp [PyData.eqv, eqB]; rfl)
 | .tup l, e, p, q, a, b => by
  obtain ⟨ps, e1, rfl⟩ := Option.map_eq_some_iff.mp (show (toPys l).map PyData.tuple = some p from a)
  cases e with
  | tup l' =>
   obtain ⟨qs, e2, rfl⟩ := Option.map_eq_some_iff.mp (show (toPys l').map PyData.tuple = some q from b)
   simp only [PyData.eqv, eqB]
   exact eqBs_py e1 e2
  | lst l' =>
   obtain ⟨qs, e2, rfl⟩ := Option.map_eq_some_iff.mp (show (toPys l').map PyData.list = some q from b)
   simp [PyData.eqv, eqB]
  | _ => first | (cases b; done) | (cases b; simp [PyData.eqv, eqB])
 | .lst l, e, p, q, a, b => by
  obtain ⟨ps, e1, rfl⟩ := Option.map_eq_some_iff.mp (show (toPys l).map PyData.list = some p from a)
  cases e with
  | lst l' =>
   obtain ⟨qs, e2, rfl⟩ := Option.map_eq_some_iff.mp (show (toPys l').map PyData.list = some q from b)
   simp only [PyData.eqv, eqB]
   exact eqBs_py e1 e2
  | tup l' =>
   obtain ⟨qs, e2, rfl⟩ := Option.map_eq_some_iff.mp (show (toPys l').map PyData.tuple = some q from b)
   simp [PyData.eqv, eqB]
  | _ => first | (cases b; done) | (cases b; simp [PyData.eqv, eqB])
 | .dct _, _, _, _, a, _ => by cases a
 | .ins _ _, _, _, _, a, _ => by cases a
 | .ref _, _, _, _, a, _ => by cases a
 | .scr _, _, _, _, a, _ => by cases a
theorem eqBs_py : ∀ {d e : List D} {p q : List PyData}, toPys d = some p → toPys e = some q → PyData.eqvAll p q = eqBs d e
 | [], [], p, q, a, b => by cases a; cases b; simp [PyData.eqvAll, eqBs]
 | [], y :: l', p, q, a, b => by
  cases a
  have e2 : (match toPy y, toPys l' with | some x, some xs => some (x :: xs) | _, _ => none) = some q := b
  split at e2
  ·cases e2; simp [PyData.eqvAll, eqBs]
  ·cases e2
 | x :: l, [], p, q, a, b => by
  cases b
  have e2 : (match toPy x, toPys l with | some x, some xs => some (x :: xs) | _, _ => none) = some p := a
  split at e2
  ·cases e2; simp [PyData.eqvAll, eqBs]
  ·cases e2
 | x :: l, y :: l', p, q, a, b => by
  have e1 : (match toPy x, toPys l with | some x, some xs => some (x :: xs) | _, _ => none) = some p := a
  have e2 : (match toPy y, toPys l' with | some x, some xs => some (x :: xs) | _, _ => none) = some q := b
  split at e1
  ·rename_i a1 a2 q1 q2
   split at e2
   ·rename_i b1 b2 q3 q4
    cases e1
    cases e2
    simp only [PyData.eqvAll, eqBs]
    rw [eqB_py q1 q3, eqBs_py q2 q4]
   ·cases e2
  ·cases e1
end
theorem pln_deref {n : Nat} {h : Hh} {d : D} (c : pln n d = true) : deref h d = d := by
 cases d <;> first | rfl | (unfold pln at c; cases c)
theorem eqD_pln {h : Hh} {x y : D} (hx : pln 64 (deref h x) = true) (hy : pln 64 (deref h y) = true) : eqD h x y = some (eqB (deref h x) (deref h y)) := by
 obtain ⟨p, a1, a2, a3⟩ := pln_py hx
 obtain ⟨q, b1, b2, b3⟩ := pln_py hy
 unfold eqD
 rw [a1, b1]
 have s1 : SeqAt.shaped p = true := by unfold SeqAt.shaped; rw [a2, decide_eq_true a3]; rfl
 have s2 : SeqAt.shaped q = true := by unfold SeqAt.shaped; rw [b2, decide_eq_true b3]; rfl
 simp only [s1, s2, and_self, if_true]
 rw [eqB_py a1 b1]
theorem eq_pln {h : Hh} {x y : D} (hx : pln 64 x = true) (hy : pln 64 y = true) : cmpD .Eq h x y = some (.bl (eqB x y)) := by
 show (match eqD h x y with | some b => some (D.bl b) | none => (eqDK h x y).map fun b => D.bl b) = _
 have ex := pln_deref (h := h) hx
 have ey := pln_deref (h := h) hy
 rw [eqD_pln (by rw [ex]; exact hx) (by rw [ey]; exact hy), ex, ey]
theorem ne_pln {h : Hh} {x y : D} (hx : pln 64 x = true) (hy : pln 64 y = true) : cmpD .NotEq h x y = some (.bl (!eqB x y)) := by
 show (match eqD h x y with | some b => some (D.bl (!b)) | none => (eqDK h x y).map fun b => D.bl (!b)) = _
 have ex := pln_deref (h := h) hx
 have ey := pln_deref (h := h) hy
 rw [eqD_pln (by rw [ex]; exact hx) (by rw [ey]; exact hy), ex, ey]
theorem i_eq (h : Hh) (i j : Int) : cmpD .Eq h (.int i) (.int j) = some (.bl (decide (i = j))) := eq_pln rfl rfl
theorem i_ne (h : Hh) (i j : Int) : cmpD .NotEq h (.int i) (.int j) = some (.bl (!decide (i = j))) := ne_pln rfl rfl
mutual
theorem eqB_refl : ∀ {n : Nat} {d : D}, pln n d = true → eqB d d = true
 | n, .non, _ => by simp [eqB]
 | n, .bl b, _ => by simp [eqB]
 | n, .int i, _ => by simp [eqB]
 | n, .str x, h => by simp [eqB]
 | n, .tup l, h => by
  unfold pln at h
  cases n with
  | zero => cases h
  | succ n => simp only [eqB]; exact eqBs_refl (n := n) h
 | n, .lst l, h => by
  unfold pln at h
  cases n with
  | zero => cases h
  | succ n => simp only [eqB]; exact eqBs_refl (n := n) h
 | n, .dct _, h => by unfold pln at h; cases h
 | n, .ins _ _, h => by unfold pln at h; cases h
 | n, .ref _, h => by unfold pln at h; cases h
 | n, .scr _, h => by unfold pln at h; cases h
theorem eqBs_refl : ∀ {n : Nat} {d : List D}, plns n d = true → eqBs d d = true
 | n, [], _ => by simp [eqBs]
 | n, d :: l, h => by
  unfold plns at h
  obtain ⟨h1, h2⟩ := Bool.and_eq_true_iff.mp h
  simp only [eqBs]
  rw [eqB_refl h1, eqBs_refl h2]; rfl
end
theorem pln_tup (n : Nat) (l : List D) : pln (n + 1) (.tup l) = plns n l := rfl
mutual
theorem pln_mono : ∀ {n m : Nat} {d : D}, n ≤ m → pln n d = true → pln m d = true
 | _, _, .non, _, _ => rfl
 | _, _, .bl _, _, _ => rfl
 | _, _, .int _, _, _ => rfl
 | _, _, .str _, _, h => h
 | n, m, .tup l, le, h => by
  unfold pln at h ⊢
  cases n with
  | zero => cases h
  | succ n =>
   cases m with
   | zero => omega
   | succ m => exact plns_mono (by omega) h
 | n, m, .lst l, le, h => by
  unfold pln at h ⊢
  cases n with
  | zero => cases h
  | succ n =>
   cases m with
   | zero => omega
   | succ m => exact plns_mono (by omega) h
 | _, _, .dct _, _, h => by unfold pln at h; cases h
 | _, _, .ins _ _, _, h => by unfold pln at h; cases h
 | _, _, .ref _, _, h => by unfold pln at h; cases h
 | _, _, .scr _, _, h => by unfold pln at h; cases h
theorem plns_mono : ∀ {n m : Nat} {d : List D}, n ≤ m → plns n d = true → plns m d = true
 | _, _, [], _, _ => rfl
 | n, m, d :: l, le, h => by
  unfold plns at h ⊢
  obtain ⟨h1, h2⟩ := Bool.and_eq_true_iff.mp h
  rw [pln_mono le h1, plns_mono le h2]; rfl
end
theorem plns_all {n : Nat} {l : List D} : plns n l = true ↔ ∀ d ∈ l, pln n d = true := by
 induction l with
 | nil => simp [plns]
 | cons d l ih => simp [plns, ih]
theorem in_lst {h : Hh} {x : D} {l : List D} (hx : pln 64 x = true) (hl : plns 63 l = true) : cmpD .In h x (.lst l) = some (.bl (l.any fun z => eqB z x)) := by
 obtain ⟨p, a1, a2, a3⟩ := pln_py hx
 obtain ⟨qs, b1, b2, b3⟩ := plns_py hl
 have s1 : SeqAt.shaped p = true := by unfold SeqAt.shaped; rw [a2, decide_eq_true a3]; rfl
 have s2 : SeqAt.shaped (.list qs) = true := by
  unfold SeqAt.shaped
  rw [show (PyData.list qs).canLay0 = true by simp only [PyData.canLay0]; exact b2, decide_eq_true (show (PyData.list qs).depth ≤ 64 by simp only [PyData.depth]; omega)]; rfl
 have key : ∀ {l : List D} {qs : List PyData}, toPys l = some qs → (qs.any fun z => PyData.eqv z p) = l.any fun z => eqB z x := by
  intro l
  induction l with
  | nil => intro qs e; cases e; rfl
  | cons d l ih =>
   intro qs e
   have e1 : (match toPy d, toPys l with | some x, some xs => some (x :: xs) | _, _ => none) = some qs := e
   split at e1
   ·rename_i c1 c2 q1 q2
    cases e1
    rw [List.any_cons, List.any_cons, ih q2, eqB_py q1 a1]
   ·cases e1
 show (inD h x (.lst l)).map D.bl = _
 unfold inD
 show (match asK h (.lst l) with | some l => (match keyD x with | some k => some (Sb.valD l k).isSome | none => none) | none => _).map D.bl = _
 have e2 : toPy (deref h (.lst l)) = some (.list qs) := by show (toPys l).map PyData.list = _; rw [b1]; rfl
 simp only [show asK h (.lst l) = none from rfl, a1, e2, s1, s2, and_self, if_true]
 rw [key b1]; rfl
theorem idx_tup (h : Hh) (l : List D) (i : Int) : opIdx h (.tup l) (.int i) = atI l i := rfl
theorem idx_lst (h : Hh) (l : List D) (i : Int) : opIdx h (.lst l) (.int i) = atI l i := rfl
theorem idx_scr (h : Hh) (l : List Int) (i : Int) : opIdx h (.scr l) (.int i) = atI (l.map D.int) i := rfl
theorem atI_nat {α : Type} {l : List α} {i : Int} (h0 : 0 ≤ i) (h1 : i < l.length) : atI l i = l[i.toNat]? := by
 unfold atI ixN
 have e : (0 ≤ i ∧ i < l.length) := ⟨h0, h1⟩
 split <;> simp_all
theorem len_tup (h : Hh) (l : List D) : bLen h [.tup l] = some (.int l.length) := rfl
theorem len_lst (h : Hh) (l : List D) : bLen h [.lst l] = some (.int l.length) := rfl
theorem len_scr (h : Hh) (l : List Int) : bLen h [.scr l] = some (.int (l.map D.int).length) := rfl
def frzL : D → Option (List D)
 | .tup l => some l
 | .lst l => some l
 | .scr ns => some (ns.map .int)
 | _ => none
theorem seq_frz {d : D} {l : List D} (e : frzL d = some l) (h : Hh) (i : Nat) : seqAt d h i = some l[i]? := by
 cases d <;> first | (cases e; rfl) | cases e
theorem len_frz {d : D} {l : List D} (e : frzL d = some l) (h : Hh) : lenQ h d = l.length := by
 cases d <;> first | (cases e; rfl) | cases e
theorem asQ_frz {d : D} {l : List D} (e : frzL d = some l) (h : Hh) : (asQ h d).isSome = true := by
 cases d <;> first | (cases e; rfl) | cases e
def forL (g : Tg) (b : FS) : List D → FS
 | [], e, h => .nx e h
 | d :: l, e, h => match bindT g d e with
  | some e1 => match b e1 h with
   | .nx e2 h2 => forL g b l e2 h2
   | .ct e2 h2 => forL g b l e2 h2
   | .bk e2 h2 => .nx e2 h2
   | r => r
  | none => .fail
theorem forS_L {a : Hh → Nat → Option (Option D)} {l : List D} (ha : ∀ h i, a h i = some l[i]?) {g : Tg} {b : FS} : ∀ (m i : Nat) (e : En) (h : Hh), i + m = l.length → forS a g b m i e h = forL g b (l.drop i) e h
 | 0, i, e, h, q => by
  have e1 : l[i]? = none := List.getElem?_eq_none (by omega)
  have e2 : l.drop i = [] := List.drop_eq_nil_of_le (by omega)
  unfold forS
  rw [ha, e1, e2]; rfl
 | m + 1, i, e, h, q => by
  have hi : i < l.length := by omega
  have e1 : l[i]? = some l[i] := List.getElem?_eq_getElem hi
  have e2 : l.drop i = l[i] :: l.drop (i + 1) := (List.drop_eq_getElem_cons hi)
  unfold forS
  rw [ha, e1, e2]
  simp only [forL]
  cases bindT g l[i] e with
  | none => rfl
  | some e1 =>
   simp only
   cases b e1 h with
   | nx e2 h2 => exact forS_L ha m (i + 1) e2 h2 (by omega)
   | ct e2 h2 => exact forS_L ha m (i + 1) e2 h2 (by omega)
   | _ => rfl
def rngL (lo : Int) : Nat → List D
 | 0 => []
 | n + 1 => .int lo :: rngL (lo + 1) n
theorem rngL_len (lo : Int) : ∀ n, (rngL lo n).length = n
 | 0 => rfl
 | n + 1 => by unfold rngL; rw [List.length_cons, rngL_len]
theorem rngL_at : ∀ (n i : Nat) (lo : Int), (rngL lo n)[i]? = if i < n then some (.int (lo + i)) else none
 | 0, i, lo => by simp [rngL]
 | n + 1, 0, lo => by simp [rngL]
 | n + 1, i + 1, lo => by
  unfold rngL
  rw [List.getElem?_cons_succ, rngL_at n i (lo + 1)]
  by_cases c : i < n
  ·rw [if_pos c, if_pos (by omega)]
   congr 2
   omega
  ·rw [if_neg c, if_neg (by omega)]
theorem rng_at (lo : Int) (n : Nat) (h : Hh) (i : Nat) : rngAt lo n h i = some (rngL lo n)[i]? := by
 rw [rngL_at]; rfl
theorem for_rng1 {f : F D} {g : Tg} {b : FS} {e : En} {h h1 : Hh} {j : Int} (q : f e h = .ok (.int j) h1) (hj : -(2 ^ 62) ≤ j ∧ j < 2 ^ 62) : sFor (iRange1 f) g b e h = forL g b (rngL 0 j.toNat) e h1 := by
 unfold sFor iRange1
 rw [q, rb_ok]
 simp only
 rw [if_pos hj, rst_ok, forS_L (rng_at 0 j.toNat) j.toNat 0 e h1 (by rw [rngL_len]; omega)]
 rfl
theorem for_rng2 {f f' : F D} {g : Tg} {b : FS} {e : En} {h h1 h2 : Hh} {i j : Int} (q : f e h = .ok (.int i) h1) (q' : f' e h1 = .ok (.int j) h2) (hj : -(2 ^ 62) ≤ i ∧ i < 2 ^ 62 ∧ -(2 ^ 62) ≤ j ∧ j < 2 ^ 62) : sFor (iRange2 f f') g b e h = forL g b (rngL i (j - i).toNat) e h2 := by
 unfold sFor iRange2
 rw [q, rb_ok, q', rb_ok]
 simp only
 rw [if_pos hj, rst_ok, forS_L (rng_at i (j - i).toNat) (j - i).toNat 0 e h2 (by rw [rngL_len]; omega)]
 rfl
def compL (g : Tg) (t : F Bool) (f : F D) : List D → En → Hh → Option (List D × Hh)
 | [], _, h => some ([], h)
 | d :: l, e, h => match bindT g d e with
  | some e1 => match t e1 h with
   | .ok b h1 => if b = true then (match f e1 h1 with
    | .ok y h2 => match compL g t f l e h2 with
     | some (r, h3) => some (y :: r, h3)
     | none => none
    | _ => none) else compL g t f l e h1
   | _ => none
  | none => none
theorem compS_L {a : Hh → Nat → Option (Option D)} {l : List D} (ha : ∀ h i, a h i = some l[i]?) {g : Tg} {t : F Bool} {f : F D} : ∀ (m i : Nat) (e : En) (h : Hh), i + m = l.length → compS a g t f m i e h = compL g t f (l.drop i) e h
 | 0, i, e, h, q => by
  have e1 : l[i]? = none := List.getElem?_eq_none (by omega)
  have e2 : l.drop i = [] := List.drop_eq_nil_of_le (by omega)
  unfold compS
  rw [ha, e1, e2]; rfl
 | m + 1, i, e, h, q => by
  have hi : i < l.length := by omega
  have e1 : l[i]? = some l[i] := List.getElem?_eq_getElem hi
  have e2 : l.drop i = l[i] :: l.drop (i + 1) := (List.drop_eq_getElem_cons hi)
  unfold compS
  rw [ha, e1, e2]
  simp only [compL]
  cases bindT g l[i] e with
  | none => rfl
  | some e1 =>
   simp only
   cases t e1 h with
   | ok b h1 =>
    simp only
    cases b with
    | false => simp only [Bool.false_eq_true, if_false]; exact compS_L ha m (i + 1) e h1 (by omega)
    | true =>
     simp only [if_true]
     cases f e1 h1 with
     | ok y h2 => simp only; rw [compS_L ha m (i + 1) e h2 (by omega)]; first | done | (cases compL g t f (List.drop (i + 1) l) e h2 <;> rfl)
     | exc _ _ _ => rfl
     | fail => rfl
   | exc _ _ _ => rfl
   | fail => rfl
theorem comp_seq {fs f : F D} {g : Tg} {t : F Bool} {vs : List Nat} {e : En} {h h1 h2 : Hh} {d : D} {l r : List D} (q : fs e h = .ok d h1) (hl : frzL d = some l) (hf : fits l.length = true) (hr : compL g t f l (wipeE e vs) h1 = some (r, h2)) : dComp (iSeq fs) g t f vs e h = .ok (.lst r) h2 := by
 unfold dComp iSeq
 rw [q, rb_ok, if_pos (asQ_frz hl h1), rb_ok]
 simp only
 rw [len_frz hl, if_pos hf, compS_L (seq_frz hl) l.length 0 _ h1 (Nat.zero_add _), List.drop_zero, hr]
theorem comp_rng1 {fs f : F D} {g : Tg} {t : F Bool} {vs : List Nat} {e : En} {h h1 h2 : Hh} {j : Int} {r : List D} (q : fs e h = .ok (.int j) h1) (hj : -(2 ^ 62) ≤ j ∧ j ≤ 16777216) (hr : compL g t f (rngL 0 j.toNat) (wipeE e vs) h1 = some (r, h2)) : dComp (iRange1 fs) g t f vs e h = .ok (.lst r) h2 := by
 unfold dComp iRange1
 rw [q, rb_ok]
 simp only
 have hf : fits j.toNat = true := by unfold fits; exact decide_eq_true (by omega)
 rw [if_pos (by omega), rb_ok]
 simp only
 rw [if_pos hf, compS_L (rng_at 0 j.toNat) j.toNat 0 _ h1 (by rw [rngL_len]; omega), List.drop_zero, hr]
theorem compL_map {g : Tg} {t : F Bool} {f : F D} {e : En} {h : Hh} {φ : D → D} : ∀ {l : List D}, (∀ d ∈ l, ∃ e1, bindT g d e = some e1 ∧ t e1 h = .ok true h ∧ f e1 h = .ok (φ d) h) → compL g t f l e h = some (l.map φ, h)
 | [], _ => rfl
 | d :: l, q => by
  obtain ⟨e1, a, b, c⟩ := q d List.mem_cons_self
  unfold compL
  rw [a]
  simp only [b, c, if_true]
  rw [compL_map fun d hd => q d (List.mem_cons_of_mem _ hd)]
  rfl
end Sb
namespace Sb
open L2 PySem PySem.Spec PyProof.Rows
section
variable {h : Hh} {i : Nat} {l : List D}
theorem asL_ref (e : h[i]? = some (.lst l)) : asL h (.ref i) = some l := by
 have z : asM h (.ref i) = some l := by
  show (match h[i]? with | some (.lst l) => some l | some (.lck (.lst l)) => some l | _ => none) = _
  rw [e]
 unfold asL
 exact z
theorem asK_ref (e : h[i]? = some (.lst l)) : asK h (.ref i) = none := by
 show (match h[i]? with | some (.dct l) => some l | some (.lck (.dct l)) => some l | _ => none) = _
 rw [e]
theorem idx_ref (e : h[i]? = some (.lst l)) (j : Int) : opIdx h (.ref i) (.int j) = atI l j := by
 unfold opIdx
 rw [asK_ref e]
 simp only [asL_ref e]
theorem add_lst {h : Hh} {a b : List D} (c : a.length + b.length ≤ 16777216) : opAdd h (.lst a) (.lst b) = some (.lst (a ++ b)) := by
 show (if fits (a.length + b.length) = true then some (D.lst (a ++ b)) else none) = _
 rw [if_pos (show fits _ = true from decide_eq_true c)]
theorem add_tup {h : Hh} {a b : List D} (c : a.length + b.length ≤ 16777216) : opAdd h (.tup a) (.tup b) = some (.tup (a ++ b)) := by
 show (if fits (a.length + b.length) = true then some (D.tup (a ++ b)) else none) = _
 rw [if_pos (show fits _ = true from decide_eq_true c)]
theorem tup_lst (h : Hh) (l : List D) : bTuple h [.lst l] = some (.tup l) := rfl
theorem len_ref (e : h[i]? = some (.lst l)) : bLen h [.ref i] = some (.int l.length) := by
 unfold bLen
 simp only [asL_ref e]
theorem deref_ref (e : h[i]? = some (.lst l)) : deref h (.ref i) = .lst l := by
 unfold deref
 have z : asM h (.ref i) = some l := by
  show (match h[i]? with | some (.lst l) => some l | some (.lck (.lst l)) => some l | _ => none) = _
  rw [e]
 simp only [z]
theorem append_ref (e : h[i]? = some (.lst l)) (hl : l.length < 16777216) (y : D) : mAppend h (.ref i) [y] = some (.non, h.set i (.lst (l ++ [y]))) := by
 unfold mAppend
 simp only [e, if_pos hl]
theorem cLst_ref (e : h[i]? = some (.lst l)) : cLst h (.ref i) = true := by
 unfold cLst
 rw [asL_ref e]; rfl
theorem in_refD {x : D} (e : h[i]? = some (.lst l)) (hx : pln 64 x = true) (hl : plns 63 l = true) : inD h x (.ref i) = some (l.any fun z => eqB z x) := by
 have z := in_lst (h := h) hx hl
 have z2 : (inD h x (.lst l)).map D.bl = some (.bl (l.any fun z => eqB z x)) := z
 have e3 : inD h x (.ref i) = inD h x (.lst l) := by
  unfold inD
  simp only [asK_ref e, show asK h (.lst l) = none from rfl, deref_ref e, show deref h (.lst l) = .lst l from rfl]
 rw [e3]
 cases q : inD h x (.lst l) with
 | none => rw [q] at z2; cases z2
 | some b => rw [q] at z2; simpa using z2
theorem nin_ref {x : D} (e : h[i]? = some (.lst l)) (hx : pln 64 x = true) (hl : plns 63 l = true) : cmpD .NotIn h x (.ref i) = some (.bl (!(l.any fun z => eqB z x))) := by
 show (inD h x (.ref i)).map (fun b => D.bl (!b)) = _
 rw [in_refD e hx hl]; rfl
end
theorem plns_ints (n : Nat) : ∀ l : List Int, plns n (l.map D.int) = true
 | [] => rfl
 | i :: l => by rw [List.map_cons]; unfold plns; rw [plns_ints n l]; rfl
theorem any_int (l : List Int) (x : Int) : ((l.map D.int).any fun z => eqB z (.int x)) = decide (x ∈ l) := by
 induction l with
 | nil => simp
 | cons a l ih =>
  rw [List.map_cons, List.any_cons, ih]
  have : eqB (.int a) (.int x) = decide (a = x) := rfl
  rw [this]
  by_cases e : x = a
  ·subst e; simp
  ·have e2 : ¬ a = x := fun z => e z.symm
   simp [e, e2]
theorem intsD_map : ∀ l : List Int, intsD (l.map D.int) = some l
 | [] => rfl
 | i :: l => by
  show (intsD (l.map D.int)).map (i :: ·) = _
  rw [intsD_map l]; rfl
theorem blsD_map : ∀ l : List Bool, blsD (l.map D.bl) = some l
 | [] => rfl
 | i :: l => by
  show (blsD (l.map D.bl)).map (i :: ·) = _
  rw [blsD_map l]; rfl
theorem count_lst {h : Hh} {l : List Int} (x : Int) : mCount h (.lst (l.map .int)) [.int x] = some (.int (l.count x : Nat), h) := by
 unfold mCount
 simp only [show asL h (.lst (l.map D.int)) = some (l.map D.int) from rfl, Option.bind_some, intsD_map]
theorem all_lst {h : Hh} {l : List Bool} : bAll h [.lst (l.map .bl)] = some (.bl (l.all id)) := by
 show ((asL h (.lst (l.map D.bl))).bind blsD).map _ = _
 rw [show asL h (.lst (l.map D.bl)) = some (l.map D.bl) from rfl, Option.bind_some, blsD_map]; rfl
def pick (l : List Int) (i : Int) : Int := (l[i.toNat]?).getD 0
theorem atI_at {l : List D} {i : Int} {j : Nat} (e : i = (j : Int)) (hj : j < l.length) : atI l i = l[j]? := by
 subst e
 rw [atI_nat (by omega) (by omega)]
 rfl
theorem atI_pick {l : List Int} {i : Int} (h0 : 0 ≤ i) (h1 : i < l.length) : atI (l.map D.int) i = some (.int (pick l i)) := by
 rw [atI_nat h0 (by rw [List.length_map]; exact h1), List.getElem?_map]
 unfold pick
 have hl : i.toNat < l.length := by omega
 rw [List.getElem?_eq_getElem hl]; rfl
theorem pick_mem {l : List Int} {i : Int} (h0 : 0 ≤ i) (h1 : i < l.length) : pick l i ∈ l := by
 unfold pick
 have hl : i.toNat < l.length := by omega
 rw [List.getElem?_eq_getElem hl]
 exact List.getElem_mem hl
theorem pick_all {P : Int → Prop} {l : List Int} {i : Int} (hl : ∀ x ∈ l, P x) (h0 : 0 ≤ i) (h1 : i < l.length) : P (pick l i) := hl _ (pick_mem h0 h1)
theorem at2 {a b : Int} {i : Int} (h : 0 ≤ i ∧ i < 2) : atI [D.int a, .int b] i = some (.int (pick [a, b] i)) := atI_pick (l := [a, b]) h.1 h.2
theorem at3 {a b c : Int} {i : Int} (h : 0 ≤ i ∧ i < 3) : atI [D.int a, .int b, .int c] i = some (.int (pick [a, b, c] i)) := atI_pick (l := [a, b, c]) h.1 h.2
theorem at4 {a b c d : Int} {i : Int} (h : 0 ≤ i ∧ i < 4) : atI [D.int a, .int b, .int c, .int d] i = some (.int (pick [a, b, c, d] i)) := atI_pick (l := [a, b, c, d]) h.1 h.2
theorem at5 {a b c d e : Int} {i : Int} (h : 0 ≤ i ∧ i < 5) : atI [D.int a, .int b, .int c, .int d, .int e] i = some (.int (pick [a, b, c, d, e] i)) := atI_pick (l := [a, b, c, d, e]) h.1 h.2
theorem at6 {a b c d e f : Int} {i : Int} (h : 0 ≤ i ∧ i < 6) : atI [D.int a, .int b, .int c, .int d, .int e, .int f] i = some (.int (pick [a, b, c, d, e, f] i)) := atI_pick (l := [a, b, c, d, e, f]) h.1 h.2
theorem at7 {a b c d e f g : Int} {i : Int} (h : 0 ≤ i ∧ i < 7) : atI [D.int a, .int b, .int c, .int d, .int e, .int f, .int g] i = some (.int (pick [a, b, c, d, e, f, g] i)) := atI_pick (l := [a, b, c, d, e, f, g]) h.1 h.2
theorem at8 {a b c d e f g k : Int} {i : Int} (h : 0 ≤ i ∧ i < 8) : atI [D.int a, .int b, .int c, .int d, .int e, .int f, .int g, .int k] i = some (.int (pick [a, b, c, d, e, f, g, k] i)) := atI_pick (l := [a, b, c, d, e, f, g, k]) h.1 h.2
theorem ix0 {a : D} {l : List D} : atI (a :: l) 0 = some a := (atI_at (l := a :: l) (i := 0) (j := 0) rfl (by simp)).trans rfl
theorem ix1 {a b : D} {l : List D} : atI (a :: b :: l) 1 = some b := (atI_at (l := a :: b :: l) (i := 1) (j := 1) rfl (by simp)).trans rfl
theorem ix2 {a b c : D} {l : List D} : atI (a :: b :: c :: l) 2 = some c := (atI_at (l := a :: b :: c :: l) (i := 2) (j := 2) rfl (by simp)).trans rfl
theorem ix3 {a b c d : D} {l : List D} : atI (a :: b :: c :: d :: l) 3 = some d := (atI_at (l := a :: b :: c :: d :: l) (i := 3) (j := 3) rfl (by simp)).trans rfl
theorem pure_ok {f : FC} {ds : List D} {h h' : Hh} {d d' : D} (n : noRefs ds = true) (e : f ds [] = .ok d h') (z : frz h' d = some d') : pureC f ds h = .ok d' h := by
 unfold pureC
 rw [if_pos n, e]
 simp only [z]
mutual
def still : D → Bool
 | .tup l => stills l
 | .lst l => stills l
 | .ref _ => false
 | .dct _ => false
 | .ins _ _ => false
 | _ => true
def stills : List D → Bool
 | [] => true
 | d :: l => still d && stills l
end
mutual
theorem still_frz {g : Nat → Option D} : ∀ {d : D}, still d = true → frzD g d = some d
 | .non, _ => rfl
 | .bl _, _ => rfl
 | .int _, _ => rfl
 | .str _, _ => rfl
 | .scr _, _ => rfl
 | .tup l, h => by
  show (frzDs g l).map D.tup = _
  rw [stills_frz (show stills l = true from h)]; rfl
 | .lst l, h => by
  show (frzDs g l).map D.lst = _
  rw [stills_frz (show stills l = true from h)]; rfl
 | .ref _, h => by cases h
 | .dct _, h => by cases h
 | .ins _ _, h => by cases h
theorem stills_frz {g : Nat → Option D} : ∀ {l : List D}, stills l = true → frzDs g l = some l
 | [], _ => rfl
 | d :: l, h => by
  obtain ⟨h1, h2⟩ := Bool.and_eq_true_iff.mp (show (still d && stills l) = true from h)
  show (match frzD g d, frzDs g l with | some x, some xs => some (x :: xs) | _, _ => none) = _
  rw [still_frz h1, stills_frz h2]
end
theorem still_no {l : List D} (h : stills l = true) : noRefs l = true := by
 unfold noRefs
 rw [stills_frz h]
mutual
theorem pln_still : ∀ {n : Nat} {d : D}, pln n d = true → still d = true
 | _, .non, _ => rfl
 | _, .bl _, _ => rfl
 | _, .int _, _ => rfl
 | _, .str _, _ => rfl
 | n, .tup l, h => by
  unfold pln at h
  cases n with
  | zero => cases h
  | succ n => exact plns_still (n := n) h
 | n, .lst l, h => by
  unfold pln at h
  cases n with
  | zero => cases h
  | succ n => exact plns_still (n := n) h
 | _, .scr _, _ => rfl
 | _, .ref _, h => by unfold pln at h; cases h
 | _, .dct _, h => by unfold pln at h; cases h
 | _, .ins _ _, h => by unfold pln at h; cases h
theorem plns_still : ∀ {n : Nat} {l : List D}, plns n l = true → stills l = true
 | _, [], _ => rfl
 | n, d :: l, h => by
  unfold plns at h
  obtain ⟨h1, h2⟩ := Bool.and_eq_true_iff.mp h
  show (still d && stills l) = true
  rw [pln_still h1, plns_still h2]; rfl
end
theorem pure_pln {f : FC} {ds : List D} {h h' : Hh} {d : D} {n m : Nat} (c : plns n ds = true) (e : f ds [] = .ok d h') (z : pln m d = true) : pureC f ds h = .ok d h :=
 pure_ok (still_no (plns_still c)) e (still_frz (pln_still z))
theorem compL_ints {g : Tg} {t : F Bool} {f : F D} {e : En} {h : Hh} {α : Type} {φ : α → D} {ψ : α → D} : ∀ {l : List α}, (∀ a ∈ l, ∃ e1, bindT g (φ a) e = some e1 ∧ t e1 h = .ok true h ∧ f e1 h = .ok (ψ a) h) → compL g t f (l.map φ) e h = some (l.map ψ, h)
 | [], _ => rfl
 | a :: l, q => by
  obtain ⟨e1, b, c, d⟩ := q a List.mem_cons_self
  rw [List.map_cons]
  unfold compL
  rw [b]
  simp only [c, d, if_true]
  rw [compL_ints fun x hx => q x (List.mem_cons_of_mem _ hx)]
  rfl
theorem forL_cons {g : Tg} {b : FS} {d : D} {l : List D} {e e1 e2 : En} {h h2 : Hh} (q : bindT g d e = some e1) (r : b e1 h = .nx e2 h2) : forL g b (d :: l) e h = forL g b l e2 h2 := by
 show (match bindT g d e with | some e1 => (match b e1 h with | .nx e2 h2 => forL g b l e2 h2 | .ct e2 h2 => forL g b l e2 h2 | .bk e2 h2 => .nx e2 h2 | r => r) | none => .fail) = _
 rw [q]
 simp only [r]
theorem forL_ind {g : Tg} {b : FS} : ∀ {l : List D} {I : Nat → En → Hh → Prop}, (∀ i d e h, l[i]? = some d → I i e h → ∃ e1, bindT g d e = some e1 ∧ ∃ e2 h2, b e1 h = .nx e2 h2 ∧ I (i + 1) e2 h2) → ∀ {e : En} {h : Hh}, I 0 e h → ∃ e' h', forL g b l e h = .nx e' h' ∧ I l.length e' h'
 | [], I, _, e, h, h0 => ⟨e, h, rfl, h0⟩
 | d :: l, I, st, e, h, h0 => by
  obtain ⟨e1, q, e2, h2, r, h1⟩ := st 0 d e h rfl h0
  obtain ⟨e', h', a, c⟩ := forL_ind (l := l) (I := fun i => I (i + 1)) (fun i d e h z => st (i + 1) d e h (by simpa using z)) h1
  exact ⟨e', h', (forL_cons q r).trans a, c⟩
theorem forL_rng {g : Tg} {b : FS} {lo : Int} {n : Nat} {I : Nat → En → Hh → Prop} (st : ∀ i e h, i < n → I i e h → ∃ e1, bindT g (.int (lo + i)) e = some e1 ∧ ∃ e2 h2, b e1 h = .nx e2 h2 ∧ I (i + 1) e2 h2) {e : En} {h : Hh} (h0 : I 0 e h) :
  ∃ e' h', forL g b (rngL lo n) e h = .nx e' h' ∧ I n e' h' := by
 have z := forL_ind (l := rngL lo n) (I := I) (g := g) (b := b) (fun i d e h hd hi => by
  rw [rngL_at] at hd
  split at hd
  ·rename_i c
   cases hd
   exact st i e h c hi
  ·cases hd) h0
 rw [rngL_len] at z
 exact z
theorem is_bl_non (h : Hh) : isiD .bl h .non = some (.bl false) := rfl
theorem is_bl_bl (h : Hh) (b : Bool) : isiD .bl h (.bl b) = some (.bl true) := rfl
theorem is_bl_int (h : Hh) (i : Int) : isiD .bl h (.int i) = some (.bl false) := rfl
theorem is_bl_str (h : Hh) (x : Str) : isiD .bl h (.str x) = some (.bl false) := rfl
theorem is_bl_tup (h : Hh) (l : List D) : isiD .bl h (.tup l) = some (.bl false) := rfl
theorem is_bl_lst (h : Hh) (l : List D) : isiD .bl h (.lst l) = some (.bl false) := rfl
theorem is_bl_dct (h : Hh) (l : List (Key × D)) : isiD .bl h (.dct l) = some (.bl false) := rfl
theorem is_int_non (h : Hh) : isiD .int h .non = some (.bl false) := rfl
theorem is_int_bl (h : Hh) (b : Bool) : isiD .int h (.bl b) = some (.bl true) := rfl
theorem is_int_int (h : Hh) (i : Int) : isiD .int h (.int i) = some (.bl true) := rfl
theorem is_int_str (h : Hh) (x : Str) : isiD .int h (.str x) = some (.bl false) := rfl
theorem is_int_tup (h : Hh) (l : List D) : isiD .int h (.tup l) = some (.bl false) := rfl
theorem is_int_lst (h : Hh) (l : List D) : isiD .int h (.lst l) = some (.bl false) := rfl
theorem is_int_dct (h : Hh) (l : List (Key × D)) : isiD .int h (.dct l) = some (.bl false) := rfl
theorem is_str_non (h : Hh) : isiD .str h .non = some (.bl false) := rfl
theorem is_str_bl (h : Hh) (b : Bool) : isiD .str h (.bl b) = some (.bl false) := rfl
theorem is_str_int (h : Hh) (i : Int) : isiD .str h (.int i) = some (.bl false) := rfl
theorem is_str_str (h : Hh) (x : Str) : isiD .str h (.str x) = some (.bl true) := rfl
theorem is_str_tup (h : Hh) (l : List D) : isiD .str h (.tup l) = some (.bl false) := rfl
theorem is_str_lst (h : Hh) (l : List D) : isiD .str h (.lst l) = some (.bl false) := rfl
theorem is_str_dct (h : Hh) (l : List (Key × D)) : isiD .str h (.dct l) = some (.bl false) := rfl
theorem is_tup_non (h : Hh) : isiD .tup h .non = some (.bl false) := rfl
theorem is_tup_bl (h : Hh) (b : Bool) : isiD .tup h (.bl b) = some (.bl false) := rfl
theorem is_tup_int (h : Hh) (i : Int) : isiD .tup h (.int i) = some (.bl false) := rfl
theorem is_tup_str (h : Hh) (x : Str) : isiD .tup h (.str x) = some (.bl false) := rfl
theorem is_tup_tup (h : Hh) (l : List D) : isiD .tup h (.tup l) = some (.bl true) := rfl
theorem is_tup_lst (h : Hh) (l : List D) : isiD .tup h (.lst l) = some (.bl false) := rfl
theorem is_tup_dct (h : Hh) (l : List (Key × D)) : isiD .tup h (.dct l) = some (.bl false) := rfl
theorem is_lst_non (h : Hh) : isiD .lst h .non = some (.bl false) := rfl
theorem is_lst_bl (h : Hh) (b : Bool) : isiD .lst h (.bl b) = some (.bl false) := rfl
theorem is_lst_int (h : Hh) (i : Int) : isiD .lst h (.int i) = some (.bl false) := rfl
theorem is_lst_str (h : Hh) (x : Str) : isiD .lst h (.str x) = some (.bl false) := rfl
theorem is_lst_tup (h : Hh) (l : List D) : isiD .lst h (.tup l) = some (.bl false) := rfl
theorem is_lst_lst (h : Hh) (l : List D) : isiD .lst h (.lst l) = some (.bl true) := rfl
theorem is_lst_dct (h : Hh) (l : List (Key × D)) : isiD .lst h (.dct l) = some (.bl false) := rfl
theorem is_dct_non (h : Hh) : isiD .dct h .non = some (.bl false) := rfl
theorem is_dct_bl (h : Hh) (b : Bool) : isiD .dct h (.bl b) = some (.bl false) := rfl
theorem is_dct_int (h : Hh) (i : Int) : isiD .dct h (.int i) = some (.bl false) := rfl
theorem is_dct_str (h : Hh) (x : Str) : isiD .dct h (.str x) = some (.bl false) := rfl
theorem is_dct_tup (h : Hh) (l : List D) : isiD .dct h (.tup l) = some (.bl false) := rfl
theorem is_dct_lst (h : Hh) (l : List D) : isiD .dct h (.lst l) = some (.bl false) := rfl
theorem is_dct_dct (h : Hh) (l : List (Key × D)) : isiD .dct h (.dct l) = some (.bl true) := rfl
theorem bind_if {α β : Type} (c : Prop) [Decidable c] (x y : R α) (k : α → Hh → R β) : (if c then x else y).bind k = if c then x.bind k else y.bind k := by split <;> rfl
theorem st_if {α : Type} (c : Prop) [Decidable c] (x y : R α) (e : En) (k : α → Hh → RS) : (if c then x else y).st e k = if c then x.st e k else y.st e k := by split <;> rfl
def tryR (r : RS) (l : List DCl) : RS := match r with
 | .exc c fs e h => runCl l c fs e h
 | r => r
theorem try_then (b : FS) (l : List DCl) (e : En) (h : Hh) : sTryN b l e h = tryR (b e h) l := by
 unfold sTryN tryR
 cases b e h <;> rfl
theorem try_nx (e : En) (h : Hh) (l : List DCl) : tryR (.nx e h) l = .nx e h := rfl
theorem try_rt (d : D) (h : Hh) (l : List DCl) : tryR (.rt d h) l = .rt d h := rfl
theorem try_exc (c : Nat) (fs : List (Str × D)) (e : En) (h : Hh) (l : List DCl) : tryR (.exc c fs e h) l = runCl l c fs e h := rfl
theorem try_if (c : Prop) [Decidable c] (x y : RS) (l : List DCl) : tryR (if c then x else y) l = if c then tryR x l else tryR y l := by split <;> rfl
def handR (i : Option Nat) (r : RS) : RS := match r with
 | .nx e1 h1 => .nx (fitE i e1) h1
 | .bk e1 h1 => .bk (fitE i e1) h1
 | .ct e1 h1 => .ct (fitE i e1) h1
 | .rt d h1 => .rt d h1
 | _ => .fail
theorem hand_nx (i : Option Nat) (e : En) (h : Hh) : handR i (.nx e h) = .nx (fitE i e) h := rfl
theorem hand_rt (i : Option Nat) (d : D) (h : Hh) : handR i (.rt d h) = .rt d h := rfl
theorem hand_if (c : Prop) [Decidable c] (i : Option Nat) (x y : RS) : handR i (if c then x else y) = if c then handR i x else handR i y := by split <;> rfl
def runQ (q : Option (Option FS)) (i : Option Nat) (l : List DCl) (c : Nat) (e : En) (h : Hh) : RS := match q with
 | some (some s) => handR i (s (fitE i e) h)
 | some none => runCl l c [] e h
 | none => .fail
theorem run_cons (i : Option Nat) (su : Nat → Option (Option FS)) (l : List DCl) (c : Nat) (e : En) (h : Hh) : runCl (⟨i, su⟩ :: l) c [] e h = runQ (su c) i l c e h := by
 show (match su c with | some (some s) => if ([] : List (Str × D)).isEmpty = true then (match calmS s (fitE i e) h with | .nx e1 h1 => RS.nx (fitE i e1) h1 | .bk e1 h1 => .bk (fitE i e1) h1 | .ct e1 h1 => .ct (fitE i e1) h1 | r => r) else .fail | some none => runCl l c [] e h | none => .fail) = _
 unfold runQ handR calmS
 cases su c with
 | none => rfl
 | some o =>
  cases o with
  | none => rfl
  | some s =>
   simp only [List.isEmpty_nil, if_true]
   cases s (fitE i e) h <;> rfl
theorem runQ_yes (s : FS) (i : Option Nat) (l : List DCl) (c : Nat) (e : En) (h : Hh) : runQ (some (some s)) i l c e h = handR i (s (fitE i e) h) := rfl
theorem runQ_no (i : Option Nat) (l : List DCl) (c : Nat) (e : En) (h : Hh) : runQ (some none) i l c e h = runCl l c [] e h := rfl
theorem run_nil (c : Nat) (fs : List (Str × D)) (e : En) (h : Hh) : runCl [] c fs e h = .exc c fs e h := rfl
theorem fit_none (e : En) : fitE none e = e := rfl
theorem fit_some (i : Nat) (e : En) : fitE (some i) e = e.set i none := rfl
theorem i_is (h : Hh) (x : D) : cmpD .Is h x .non = some (.bl (isNon x)) := rfl
theorem i_isnot (h : Hh) (x : D) : cmpD .IsNot h x .non = some (.bl (!isNon x)) := rfl
theorem non_non : isNon .non = true := rfl
theorem non_tup (l : List D) : isNon (.tup l) = false := rfl
theorem non_int (l : Int) : isNon (.int l) = false := rfl
theorem comp_one {f x : F D} {j : Nat} {e : En} {h h1 : Hh} {d : D} {l : List D} {α : Type} {φ : D → D} (q : f e h = .ok d h1) (hd : frzL d = some l) (hl : l.length ≤ 16777216) (hx : ∀ d ∈ l, x ((wipeE e [j]).set j (some d)) h1 = .ok (φ d) h1) :
  dComp (iSeq f) (.nm j) bYes x [j] e h = .ok (.lst (l.map φ)) h1 := comp_seq q hd (decide_eq_true hl) (compL_map fun d hm => ⟨_, rfl, rfl, hx d hm⟩)
theorem comp_map {f x : F D} {j : Nat} {e : En} {h h1 : Hh} {d : D} {α : Type} {l : List α} {φ ψ : α → D} (q : f e h = .ok d h1) (hd : frzL d = some (l.map φ)) (hl : l.length ≤ 16777216) (hx : ∀ a ∈ l, x ((wipeE e [j]).set j (some (φ a))) h1 = .ok (ψ a) h1) :
  dComp (iSeq f) (.nm j) bYes x [j] e h = .ok (.lst (l.map ψ)) h1 := comp_seq q hd (decide_eq_true (by rw [List.length_map]; exact hl)) (compL_ints fun a hm => ⟨_, rfl, rfl, hx a hm⟩)
theorem all_map {h : Hh} {α : Type} {f : α → Bool} {l : List α} : bAll h [.lst (l.map fun a => .bl (f a))] = some (.bl (l.all f)) := by
 have z := all_lst (h := h) (l := l.map f)
 rw [List.map_map] at z
 have e : (l.map f).all id = l.all f := by rw [List.all_map]; rfl
 rw [e] at z
 exact z
def inB (m : Int) : D → Bool
 | .int i => decide (0 ≤ i) && decide (i ≤ m)
 | _ => false
theorem inB_int {m : Int} {d : D} (h : inB m d = true) : ∃ i : Int, d = .int i ∧ 0 ≤ i ∧ i ≤ m := by
 cases d with
 | int i =>
  simp only [inB, Bool.and_eq_true, decide_eq_true_eq] at h
  exact ⟨i, rfl, h.1, h.2⟩
 | _ => cases h
def tieB : D → Bool
 | .tup [p, a, w, d] => inB 1 p && (inB 1000000000000 a && (!inB 0 a && (inB 59 w && inB 1000000 d)))
 | _ => false
def sharesB : D → Bool
 | .tup [a, b] => inB 2000000000000 a && inB 2000000000000 b
 | _ => false
def wordI : D → Int
 | .tup [_, _, .int w, _] => w
 | _ => 0
def tiesB : D → Bool
 | .tup l => decide (l.length ≤ 6) && (l.all tieB && (l.map wordI).all fun w => decide ((l.map wordI).count w = 1))
 | _ => false
def standB : D → Bool
 | .tup [n, s, t] => inB 1000000 n && (sharesB s && tiesB t)
 | _ => false
theorem tieB_at {d : D} (h : tieB d = true) : ∃ p a w y : Int, d = .tup [.int p, .int a, .int w, .int y] ∧ (0 ≤ p ∧ p ≤ 1) ∧ (1 ≤ a ∧ a ≤ 1000000000000) ∧ (0 ≤ w ∧ w ≤ 59) ∧ (0 ≤ y ∧ y ≤ 1000000) := by
 unfold tieB at h
 split at h
 ·simp only [Bool.and_eq_true, Bool.not_eq_true'] at h
  obtain ⟨h1, h2, h3, h4, h5⟩ := h
  obtain ⟨p, rfl, p1, p2⟩ := inB_int h1
  obtain ⟨a, rfl, a1, a2⟩ := inB_int h2
  obtain ⟨w, rfl, w1, w2⟩ := inB_int h4
  obtain ⟨y, rfl, y1, y2⟩ := inB_int h5
  refine ⟨p, a, w, y, rfl, ⟨p1, p2⟩, ⟨?_, a2⟩, ⟨w1, w2⟩, ⟨y1, y2⟩⟩
  simp only [inB, Bool.and_eq_false_iff, decide_eq_false_iff_not] at h3
  omega
 ·cases h
theorem compL_rngx {g : Tg} {t : F Bool} {f : F D} {e : En} {h : Hh} {α : Type} {φ : α → D} : ∀ {n : Nat} {lo : Int} {P : Nat → α → Prop}, (∀ i : Nat, i < n → ∃ e1, bindT g (.int (lo + i)) e = some e1 ∧ t e1 h = .ok true h ∧ ∃ a, f e1 h = .ok (φ a) h ∧ P i a) →
  ∃ as : List α, compL g t f (rngL lo n) e h = some (as.map φ, h) ∧ as.length = n ∧ ∀ (i : Nat) (hi : i < as.length), P i as[i]
 | 0, lo, P, _ => ⟨[], rfl, rfl, fun i hi => by simp at hi⟩
 | n + 1, lo, P, q => by
  obtain ⟨e1, b, c, a, r, p⟩ := q 0 (Nat.succ_pos n)
  obtain ⟨as, e2, e3, e4⟩ := compL_rngx (n := n) (lo := lo + 1) (P := fun i => P (i + 1)) fun i hi => by
   have z := q (i + 1) (by omega)
   rw [show lo + ((i + 1 : Nat) : Int) = lo + 1 + i by omega] at z
   exact z
  have b0 : bindT g (.int lo) e = some e1 := by
   rw [← b]
   congr 2
   omega
  refine ⟨a :: as, ?_, by rw [List.length_cons, e3], fun i hi => ?_⟩
  ·unfold rngL compL
   rw [b0]
   simp only [c, r, if_true]
   rw [e2]
   rfl
  ·cases i with
   | zero => exact p
   | succ i => exact e4 i (by simpa using hi)
end Sb
namespace Sb
open L2 PySem PySem.Spec PyProof.Rows
theorem insAt_ins (h : Hh) (c : Nat) (fs : List (Str × D)) : insAt h (.ins c fs) = some (c, fs) := rfl
theorem min2 (h : Hh) (i j : Int) : bMin h [.int i, .int j] = some (.int (min i j)) := by
 show some (D.int (if j < i then j else i)) = _
 by_cases c : j < i
 ·rw [if_pos c, Int.min_eq_right (Int.le_of_lt c)]
 ·rw [if_neg c, Int.min_eq_left (by omega)]
theorem min3 (h : Hh) (i j k : Int) : bMin h [.int i, .int j, .int k] = some (.int (min (min i j) k)) := by
 have e : ∀ a b : Int, (if b < a then b else a) = min a b := fun a b => by
  by_cases c : b < a
  ·rw [if_pos c, Int.min_eq_right (Int.le_of_lt c)]
  ·rw [if_neg c, Int.min_eq_left (by omega)]
 show some (D.int (if k < (if j < i then j else i) then k else (if j < i then j else i))) = _
 rw [e, e]
theorem max2 (h : Hh) (i j : Int) : bMax h [.int i, .int j] = some (.int (max i j)) := by
 show some (D.int (if j > i then j else i)) = _
 by_cases c : j > i
 ·rw [if_pos c, Int.max_eq_right (Int.le_of_lt c)]
 ·rw [if_neg c, Int.max_eq_left (by omega)]
theorem is_bl (h : Hh) (a b : Bool) : cmpD .Is h (.bl a) (.bl b) = some (.bl (a == b)) := rfl
theorem isnot_bl (h : Hh) (a b : Bool) : cmpD .IsNot h (.bl a) (.bl b) = some (.bl (!(a == b))) := rfl
theorem bl_eq (h : Hh) (a b : Bool) : cmpD .Eq h (.bl a) (.bl b) = some (.bl (a == b)) := eq_pln rfl rfl
theorem bl_ne (h : Hh) (a b : Bool) : cmpD .NotEq h (.bl a) (.bl b) = some (.bl (!(a == b))) := ne_pln rfl rfl
theorem pln_non (n : Nat) : pln n .non = true := by cases n <;> rfl
theorem pln_bl (n : Nat) (b : Bool) : pln n (.bl b) = true := by cases n <;> rfl
theorem pln_int (n : Nat) (b : Int) : pln n (.int b) = true := by cases n <;> rfl
theorem pln_str {n : Nat} {x : Str} (h : PyData.strOk x = true) : pln n (.str x) = true := by cases n <;> exact h
theorem pln_tupp (n : Nat) (l : List D) (h : 0 < n) : pln n (.tup l) = plns (n - 1) l := by cases n with
 | zero => omega
 | succ n => rfl
theorem pln_lstt (n : Nat) (l : List D) (h : 0 < n) : pln n (.lst l) = plns (n - 1) l := by cases n with
 | zero => omega
 | succ n => rfl
theorem plns_nil (n : Nat) : plns n [] = true := by cases n <;> rfl
theorem plns_cons (n : Nat) (d : D) (l : List D) : plns n (d :: l) = (pln n d && plns n l) := by cases n <;> rfl
def stoD (x k y : D) (e : En) (h : Hh) : RS := match x with
 | .ref j => match h[j]? with
  | some (.lst l) => match k with
   | .int n => match ixN l.length n with
    | some m => .nx e (h.set j (.lst (l.set m y)))
    | none => .fail
   | _ => .fail
  | some (.dct l) => match keyD k with
   | some q => if l.length < 16777216 then .nx e (h.set j (.dct (putD l q y))) else .fail
   | none => .fail
  | _ => .fail
 | _ => .fail
theorem sub_E (o i v : F D) (e : En) (h : Hh) : sSub o i v e h = (v e h).st e fun y h1 => (o e h1).st e fun x h2 => (i e h2).st e fun k h3 => stoD x k y e h3 := rfl
def forD (d : D) (g : Tg) (b : FS) (e : En) (h : Hh) : RS := if (asQ h d).isSome = true then forS (seqAt d) g b (lenQ h d) 0 e h else .fail
theorem for_seqE (f : F D) (g : Tg) (b : FS) (e : En) (h : Hh) : sFor (iSeq f) g b e h = (f e h).st e fun d h1 => forD d g b e h1 := by
 unfold sFor iSeq
 cases f e h with
 | ok d h1 =>
  rw [rb_ok, rst_ok]
  unfold forD
  by_cases c : (asQ h1 d).isSome = true
  ·rw [if_pos c, if_pos c, rst_ok]
  ·rw [if_neg c, if_neg c]; rfl
 | exc _ _ _ => rfl
 | fail => rfl
theorem forD_frz {d : D} {l : List D} (hl : frzL d = some l) (g : Tg) (b : FS) (e : En) (h : Hh) : forD d g b e h = forL g b l e h := by
 unfold forD
 rw [if_pos (asQ_frz hl h), len_frz hl, forS_L (seq_frz hl) l.length 0 e h (Nat.zero_add _)]
 rfl
theorem forD_tup (l : List D) (g : Tg) (b : FS) (e : En) (h : Hh) : forD (.tup l) g b e h = forL g b l e h := forD_frz rfl g b e h
theorem forD_lst (l : List D) (g : Tg) (b : FS) (e : En) (h : Hh) : forD (.lst l) g b e h = forL g b l e h := forD_frz rfl g b e h
theorem forD_scr (l : List Int) (g : Tg) (b : FS) (e : En) (h : Hh) : forD (.scr l) g b e h = forL g b (l.map .int) e h := forD_frz rfl g b e h
def forR1 (d : D) (g : Tg) (b : FS) (e : En) (h : Hh) : RS := sFor (iRange1 (dC d)) g b e h
theorem for_r1E (f : F D) (g : Tg) (b : FS) (e : En) (h : Hh) : sFor (iRange1 f) g b e h = (f e h).st e fun d h1 => forR1 d g b e h1 := by
 unfold sFor forR1 sFor iRange1
 cases f e h with
 | ok d h1 => rw [rb_ok, rst_ok]; rfl
 | exc _ _ _ => rfl
 | fail => rfl
theorem forR1_int {j : Int} (hj : -(2 ^ 62) ≤ j ∧ j < 2 ^ 62) (g : Tg) (b : FS) (e : En) (h : Hh) : forR1 (.int j) g b e h = forL g b (rngL 0 j.toNat) e h := for_rng1 rfl hj
def forR2 (d d' : D) (g : Tg) (b : FS) (e : En) (h : Hh) : RS := sFor (iRange2 (dC d) (dC d')) g b e h
theorem for_r2E (f f' : F D) (g : Tg) (b : FS) (e : En) (h : Hh) : sFor (iRange2 f f') g b e h = (f e h).st e fun d h1 => (f' e h1).st e fun d' h2 => forR2 d d' g b e h2 := by
 unfold sFor forR2 sFor iRange2
 cases f e h with
 | ok d h1 =>
  rw [rb_ok, rst_ok]
  cases f' e h1 with
  | ok d' h2 => rw [rb_ok, rst_ok]; rfl
  | exc _ _ _ => rfl
  | fail => rfl
 | exc _ _ _ => rfl
 | fail => rfl
theorem forR2_int {i j : Int} (hj : -(2 ^ 62) ≤ i ∧ i < 2 ^ 62 ∧ -(2 ^ 62) ≤ j ∧ j < 2 ^ 62) (g : Tg) (b : FS) (e : En) (h : Hh) : forR2 (.int i) (.int j) g b e h = forL g b (rngL i (j - i).toNat) e h := for_rng2 rfl rfl hj
def forE (d : D) (g : Tg) (b : FS) (e : En) (h : Hh) : RS := sFor (iEnu (dC d)) g b e h
theorem for_enuE (f : F D) (g : Tg) (b : FS) (e : En) (h : Hh) : sFor (iEnu f) g b e h = (f e h).st e fun d h1 => forE d g b e h1 := by
 unfold sFor forE sFor iEnu
 cases f e h with
 | ok d h1 => rw [rb_ok, rst_ok]; rfl
 | exc _ _ _ => rfl
 | fail => rfl
def enuL (l : List D) : List D := l.mapIdx fun i x => .tup [.int (i : Nat), x]
theorem forE_lst (l : List D) (g : Tg) (b : FS) (e : En) (h : Hh) : forE (.lst l) g b e h = forL g b (enuL l) e h := by
 have z := forS_L (a := enuAt (.lst l)) (l := enuL l) (fun h i => by
  show some (l[i]?.map fun x => D.tup [.int (i : Nat), x]) = some (enuL l)[i]?
  unfold enuL
  rw [List.getElem?_mapIdx]) (g := g) (b := b) (enuL l).length 0 e h (Nat.zero_add _)
 rw [List.drop_zero] at z
 rw [← z]
 unfold forE sFor iEnu
 show forS (enuAt (.lst l)) g b l.length 0 e h = _
 unfold enuL
 rw [List.length_mapIdx]
def zipL (l m : List D) : List D := List.zipWith (fun x y => .tup [x, y]) l m
def forZ (d d' : D) (g : Tg) (b : FS) (e : En) (h : Hh) : RS := sFor (iZip (dC d) (dC d')) g b e h
theorem for_zipE (f f' : F D) (g : Tg) (b : FS) (e : En) (h : Hh) : sFor (iZip f f') g b e h = (f e h).st e fun d h1 => (f' e h1).st e fun d' h2 => forZ d d' g b e h2 := by
 unfold sFor forZ sFor iZip
 cases f e h with
 | ok d h1 =>
  rw [rb_ok, rst_ok]
  cases f' e h1 with
  | ok d' h2 => rw [rb_ok, rst_ok]; rfl
  | exc _ _ _ => rfl
  | fail => rfl
 | exc _ _ _ => rfl
 | fail => rfl
theorem forZ_lst (l m : List D) (g : Tg) (b : FS) (e : En) (h : Hh) : forZ (.lst l) (.lst m) g b e h = forL g b (zipL l m) e h := by
 have z := forS_L (a := zipAt (.lst l) (.lst m)) (l := zipL l m) (fun h i => by
  show (match l[i]?, m[i]? with | some x, some y => some (some (D.tup [x, y])) | _, _ => some none) = some (zipL l m)[i]?
  unfold zipL
  rw [List.getElem?_zipWith]
  cases l[i]? <;> cases m[i]? <;> rfl) (g := g) (b := b) (zipL l m).length 0 e h (Nat.zero_add _)
 rw [List.drop_zero] at z
 rw [← z]
 unfold forZ sFor iZip
 show forS (zipAt (.lst l) (.lst m)) g b (min l.length m.length) 0 e h = _
 unfold zipL
 rw [List.length_zipWith]
theorem forL_nil (g : Tg) (b : FS) (e : En) (h : Hh) : forL g b [] e h = .nx e h := rfl
def nextL (g : Tg) (b : FS) (l : List D) : RS → RS
 | .nx e2 h2 => forL g b l e2 h2
 | .ct e2 h2 => forL g b l e2 h2
 | .bk e2 h2 => .nx e2 h2
 | r => r
theorem nextL_nx (g : Tg) (b : FS) (l : List D) (e : En) (h : Hh) : nextL g b l (.nx e h) = forL g b l e h := rfl
theorem nextL_ct (g : Tg) (b : FS) (l : List D) (e : En) (h : Hh) : nextL g b l (.ct e h) = forL g b l e h := rfl
theorem nextL_bk (g : Tg) (b : FS) (l : List D) (e : En) (h : Hh) : nextL g b l (.bk e h) = .nx e h := rfl
theorem nextL_rt (g : Tg) (b : FS) (l : List D) (e : D) (h : Hh) : nextL g b l (.rt e h) = .rt e h := rfl
theorem nextL_if (c : Prop) [Decidable c] (g : Tg) (b : FS) (l : List D) (x y : RS) : nextL g b l (if c then x else y) = if c then nextL g b l x else nextL g b l y := by split <;> rfl
def compD (d : D) (g : Tg) (t : F Bool) (f : F D) (vs : List Nat) (e : En) (h : Hh) : R D := dComp (iSeq (dC d)) g t f vs e h
theorem comp_seqE (fs : F D) (g : Tg) (t : F Bool) (f : F D) (vs : List Nat) (e : En) (h : Hh) : dComp (iSeq fs) g t f vs e h = (fs e h).bind fun d h1 => compD d g t f vs e h1 := by
 unfold compD dComp iSeq
 cases fs e h with
 | ok d h1 => rw [rb_ok, rb_ok]; rfl
 | exc _ _ _ => rfl
 | fail => rfl
def endC : Option (List D × Hh) → R D
 | some (l, h) => .ok (.lst l) h
 | none => .fail
theorem compD_frz {d : D} {l : List D} (hl : frzL d = some l) (hf : fits l.length = true) (g : Tg) (t : F Bool) (f : F D) (vs : List Nat) (e : En) (h : Hh) : compD d g t f vs e h = endC (compL g t f l (wipeE e vs) h) := by
 unfold compD dComp iSeq
 rw [show dC d e h = .ok d h from rfl, rb_ok, if_pos (asQ_frz hl h), rb_ok]
 simp only
 rw [len_frz hl, if_pos hf, compS_L (seq_frz hl) l.length 0 _ h (Nat.zero_add _), List.drop_zero]
 cases compL g t f l (wipeE e vs) h with
 | none => rfl
 | some z => rfl
theorem compD_tup {l : List D} (hf : l.length ≤ 16777216) (g : Tg) (t : F Bool) (f : F D) (vs : List Nat) (e : En) (h : Hh) : compD (.tup l) g t f vs e h = endC (compL g t f l (wipeE e vs) h) := compD_frz rfl (decide_eq_true hf) g t f vs e h
theorem compD_lst {l : List D} (hf : l.length ≤ 16777216) (g : Tg) (t : F Bool) (f : F D) (vs : List Nat) (e : En) (h : Hh) : compD (.lst l) g t f vs e h = endC (compL g t f l (wipeE e vs) h) := compD_frz rfl (decide_eq_true hf) g t f vs e h
def compR1 (d : D) (g : Tg) (t : F Bool) (f : F D) (vs : List Nat) (e : En) (h : Hh) : R D := dComp (iRange1 (dC d)) g t f vs e h
theorem comp_r1E (fs : F D) (g : Tg) (t : F Bool) (f : F D) (vs : List Nat) (e : En) (h : Hh) : dComp (iRange1 fs) g t f vs e h = (fs e h).bind fun d h1 => compR1 d g t f vs e h1 := by
 unfold compR1 dComp iRange1
 cases fs e h with
 | ok d h1 => rw [rb_ok, rb_ok]; rfl
 | exc _ _ _ => rfl
 | fail => rfl
theorem compR1_int {j : Int} (hj : -(2 ^ 62) ≤ j ∧ j ≤ 16777216) (g : Tg) (t : F Bool) (f : F D) (vs : List Nat) (e : En) (h : Hh) : compR1 (.int j) g t f vs e h = endC (compL g t f (rngL 0 j.toNat) (wipeE e vs) h) := by
 unfold compR1 dComp iRange1
 rw [show dC (.int j) e h = .ok (.int j) h from rfl, rb_ok]
 simp only
 have hf : fits j.toNat = true := by unfold fits; exact decide_eq_true (by omega)
 rw [if_pos (by omega), rb_ok]
 simp only
 rw [if_pos hf, compS_L (rng_at 0 j.toNat) j.toNat 0 _ h (by rw [rngL_len]; omega), List.drop_zero]
 cases compL g t f (rngL 0 j.toNat) (wipeE e vs) h with
 | none => rfl
 | some z => rfl
theorem endC_some (l : List D) (h : Hh) : endC (some (l, h)) = .ok (.lst l) h := rfl
def endO : Option Bool → Hh → R D
 | some b, h => .ok (.bl b) h
 | none, _ => .fail
theorem endO_some (b : Bool) (h : Hh) : endO (some b) h = .ok (.bl b) h := rfl
theorem isx_E (i c : Nat) (t : List (Nat × Bool)) (e : En) (h : Hh) : dIsx (some (i, c)) i t e h = endO (t.lookup c) h := by
 unfold dIsx
 simp only [if_true]
 cases t.lookup c <;> rfl
theorem ok_if_bl {c : Prop} [Decidable c] {a b : Bool} {h : Hh} : (if c then R.ok (D.bl a) h else R.ok (D.bl b) h) = R.ok (D.bl (if c then a else b)) h := by split <;> rfl
theorem ok_if_B {c : Prop} [Decidable c] {a b : Bool} {h : Hh} : (if c then R.ok a h else R.ok b h) = R.ok (if c then a else b) h := by split <;> rfl
theorem rt_if_bl {c : Prop} [Decidable c] {a b : Bool} {h : Hh} : (if c then RS.rt (D.bl a) h else RS.rt (D.bl b) h) = RS.rt (D.bl (if c then a else b)) h := by split <;> rfl
end Sb
namespace Sb
open L2 PySem PySem.Spec PyProof.Rows
mutual
theorem imm_frz {g : Nat → Option D} : ∀ {d : D}, immD d = true → frzD g d = some d
 | .non, _ => rfl
 | .bl _, _ => rfl
 | .int _, _ => rfl
 | .str _, _ => rfl
 | .tup l, h => by
  show (frzDs g l).map D.tup = _
  rw [imm_frzs (l := l) h]; rfl
 | .lst _, h => by cases h
 | .dct _, h => by cases h
 | .ins _ _, h => by cases h
 | .ref _, h => by cases h
 | .scr _, h => by cases h
theorem imm_frzs {g : Nat → Option D} : ∀ {l : List D}, immDs l = true → frzDs g l = some l
 | [], _ => rfl
 | d :: l, h => by
  have h2 : (immD d && immDs l) = true := h
  obtain ⟨h3, h4⟩ := Bool.and_eq_true_iff.mp h2
  show (match frzD g d, frzDs g l with | some x, some xs => some (x :: xs) | _, _ => none) = _
  rw [imm_frz h3, imm_frzs h4]
end
theorem s_fodE (w : Dw) (f : F D) (g : Tg) (b : FS) (e : En) (h : Hh) : sForD w f g b e h = (f e h).st e fun d h1 => forDw w d g b e h1 := rfl
theorem its_len (w : Dw) (l : List (Key × D)) : (itsD w l).length = l.length := by cases w <;> simp [itsD]
theorem forDw_dct (w : Dw) (l : List (Key × D)) (g : Tg) (b : FS) (e : En) (h : Hh) : forDw w (.dct l) g b e h = calR (forL g b (itsD w l) e h) := by
 show calR (forS (dwAt w (.dct l)) g b l.length 0 e h) = _
 rw [forS_L (a := dwAt w (.dct l)) (l := itsD w l) (fun h i => rfl) l.length 0 e h (by rw [its_len]; omega), List.drop_zero]
theorem calR_nx (e : En) (h : Hh) : calR (.nx e h) = .nx e h := rfl
theorem calR_rt (d : D) (h : Hh) : calR (.rt d h) = .rt d h := rfl
theorem c_codE (w : Dw) (fs : F D) (g : Tg) (t : F Bool) (f : F D) (vs : List Nat) (e : En) (h : Hh) : dCompD w fs g t f vs e h = (fs e h).bind fun d h1 => compDw w d g t f vs e h1 := rfl
end Sb
namespace P
open Sb L2 PySem PySem.Spec PyProof.Rows
def b0 : Bk := (.cons (.ret (.and (.isi .int (.var 0)) (.and (.not (.isi .bl (.var 0))) (.chn .LtE .LtE (.cst (.int 0)) (.var 0) (.var 1)))))
 .nil)
def f0 : FnD := ⟨["thing", "most"], 2, b0⟩
def b1 : Bk := (.cons (.ite (.or (.not (.val (.isi .tup (.var 0)))) (.cmp .NotEq (.bif .len (.cons (.var 0) .nil)) (.cst (.int 4))))
 (.cons (.ret (.cst (.bl false)))
 .nil)
 .nil)
 (.cons (.asg (.tp [(.nm 1), (.nm 2), (.nm 3), (.nm 4)]) (.var 0))
 (.cons (.ite (.or (.not (.val (.cal false 0 [] (.cons (.var 1) (.cons (.cst (.int 1)) .nil))))) (.or (.not (.val (.cal false 0 [] (.cons (.var 2) (.cons (.glb (.int 1000000000000)) .nil))))) (.cmp .Lt (.var 2) (.cst (.int 1)))))
 (.cons (.ret (.cst (.bl false)))
 .nil)
 .nil)
 (.cons (.ret (.and (.cal false 0 [] (.cons (.var 3) (.cons (.glb (.int 59)) .nil))) (.cal false 0 [] (.cons (.var 4) (.cons (.glb (.int 1000000)) .nil)))))
 .nil))))
def f1 : FnD := ⟨["thing", "payer", "amount", "word", "day"], 1, b1⟩
def x2_0 : Ex := (.cal false 0 [] (.cons (.var 1) (.cons (.bin .Mult (.cst (.int 2)) (.glb (.int 1000000000000))) .nil)))
def b2 : Bk := (.cons (.ite (.or (.not (.val (.isi .tup (.var 0)))) (.cmp .NotEq (.bif .len (.cons (.var 0) .nil)) (.cst (.int 2))))
 (.cons (.ret (.cst (.bl false)))
 .nil)
 .nil)
 (.cons (.ret (.bif .all (.cons (.com x2_0 (.nm 1) (.seq (.var 0)) .no [("share", 1)]) .nil)))
 .nil))
def f2 : FnD := ⟨["thing", "share"], 1, b2⟩
def x3_0 : Ex := (.cmp .Eq (.bim .count (.var 1) (.cons (.var 3) .nil)) (.cst (.int 1)))
def x3_1 : Ex := (.idx (.var 2) (.cst (.int 2)))
def x3_2 : Ex := (.cal false 1 [] (.cons (.var 2) .nil))
def b3 : Bk := (.cons (.ite (.or (.not (.val (.isi .tup (.var 0)))) (.or (.cmp .Gt (.bif .len (.cons (.var 0) .nil)) (.glb (.int 6))) (.not (.val (.bif .all (.cons (.com x3_2 (.nm 2) (.seq (.var 0)) .no [("tie", 2)]) .nil))))))
 (.cons (.ret (.cst (.bl false)))
 .nil)
 .nil)
 (.cons (.asg (.nm 1) (.com x3_1 (.nm 2) (.seq (.var 0)) .no [("tie", 2)]))
 (.cons (.ret (.bif .all (.cons (.com x3_0 (.nm 3) (.seq (.var 1)) .no [("word", 3)]) .nil)))
 .nil)))
def f3 : FnD := ⟨["thing", "words", "tie", "word"], 1, b3⟩
def b4 : Bk := (.cons (.ite (.or (.not (.val (.isi .tup (.var 0)))) (.cmp .NotEq (.bif .len (.cons (.var 0) .nil)) (.cst (.int 3))))
 (.cons (.ret (.cst (.bl false)))
 .nil)
 .nil)
 (.cons (.ret (.and (.cal false 0 [] (.cons (.idx (.var 0) (.cst (.int 0))) (.cons (.glb (.int 1000000)) .nil))) (.and (.cal false 2 [] (.cons (.idx (.var 0) (.cst (.int 1))) .nil)) (.cal false 3 [] (.cons (.idx (.var 0) (.cst (.int 2))) .nil)))))
 .nil))
def f4 : FnD := ⟨["thing"], 1, b4⟩
def b5 : Bk := (.cons (.asg (.nm 3) (.tup (.cons (.var 0) (.cons (.var 1) (.cons (.ite (.cmp .Is (.var 2) (.cst (.non))) (.tup .nil) (.var 2)) .nil)))))
 (.cons (.ite (.not (.val (.cal false 4 [] (.cons (.var 3) .nil))))
 (.cons (.rai 1)
 .nil)
 .nil)
 (.cons (.ret (.var 3))
 .nil)))
def f5 : FnD := ⟨["number", "shares", "ties", "made"], 3, b5⟩
def b6 : Bk := (.cons (.ite (.or (.not (.val (.isi .tup (.var 0)))) (.cmp .NotEq (.bif .len (.cons (.var 0) .nil)) (.cst (.int 4))))
 (.cons (.ret (.cst (.bl false)))
 .nil)
 .nil)
 (.cons (.ite (.or (.not (.val (.cal false 0 [] (.cons (.idx (.var 0) (.cst (.int 1))) (.cons (.glb (.int 2)) .nil))))) (.not (.val (.cal false 0 [] (.cons (.idx (.var 0) (.cst (.int 2))) (.cons (.cst (.int 1)) .nil))))))
 (.cons (.ret (.cst (.bl false)))
 .nil)
 .nil)
 (.cons (.ite (.cmp .Eq (.idx (.var 0) (.cst (.int 0))) (.cst (.str "strike")))
 (.cons (.ret (.cal false 0 [] (.cons (.idx (.var 0) (.cst (.int 3))) (.cons (.glb (.int 1000000)) .nil))))
 .nil)
 .nil)
 (.cons (.ret (.and (.cmp .Eq (.idx (.var 0) (.cst (.int 0))) (.cst (.str "agree"))) (.cal false 4 [] (.cons (.idx (.var 0) (.cst (.int 3))) .nil))))
 .nil))))
def f6 : FnD := ⟨["thing"], 1, b6⟩
def b7 : Bk := (.cons (.ite (.and (.val (.isi .tup (.var 0))) (.and (.cmp .Eq (.bif .len (.cons (.var 0) .nil)) (.cst (.int 2))) (.cmp .Eq (.idx (.var 0) (.cst (.int 0))) (.cst (.str "word")))))
 (.cons (.ret (.cal false 0 [] (.cons (.idx (.var 0) (.cst (.int 1))) (.cons (.glb (.int 59)) .nil))))
 .nil)
 .nil)
 (.cons (.ret (.cal false 6 [] (.cons (.var 0) .nil)))
 .nil))
def f7 : FnD := ⟨["thing"], 1, b7⟩
def x8_0 : Ex := (.cmp .In (.var 1) (.glb (.str "0123456789")))
def b8 : Bk := (.cons (.ite (.or (.not (.val (.isi .str (.var 0)))) (.or (.cmp .Lt (.bif .len (.cons (.var 0) .nil)) (.cst (.int 1))) (.cmp .Gt (.bif .len (.cons (.var 0) .nil)) (.glb (.int 30)))))
 (.cons (.rai 2)
 .nil)
 .nil)
 (.cons (.ite (.or (.not (.val (.bif .all (.cons (.com x8_0 (.nm 1) (.txt (.var 0)) .no [("sign", 1)]) .nil)))) (.and (.cmp .Eq (.idx (.var 0) (.cst (.int 0))) (.cst (.str "0"))) (.cmp .Gt (.bif .len (.cons (.var 0) .nil)) (.cst (.int 1)))))
 (.cons (.rai 2)
 .nil)
 .nil)
 (.cons (.ret (.bif .int (.cons (.var 0) .nil)))
 .nil)))
def f8 : FnD := ⟨["word", "sign"], 1, b8⟩
def x9_0 : Ex := (.cal false 8 [] (.cons (.var 1) .nil))
def b9 : Bk := (.cons (.ret (.com x9_0 (.nm 1) (.seq (.var 0)) .no [("word", 1)]))
 .nil)
def f9 : FnD := ⟨["words", "word"], 1, b9⟩
def x10_0 : Ex := (.bif .str (.cons (.var 3) .nil))
def b10_1 : Bk := (.cons (.drop (.bim .append (.var 1) (.cons (.bim .join (.cst (.str "/")) (.cons (.com x10_0 (.nm 3) (.seq (.var 2)) .no [("part", 3)]) .nil)) .nil)))
 (.wip [2] .nil))
def b10 : Bk := (.cons (.asg (.nm 1) (.new (.cons (.bif .str (.cons (.idx (.var 0) (.cst (.int 0))) .nil)) (.cons (.bif .str (.cons (.idx (.idx (.var 0) (.cst (.int 1))) (.cst (.int 0))) .nil)) (.cons (.bif .str (.cons (.idx (.idx (.var 0) (.cst (.int 1))) (.cst (.int 1))) .nil)) .nil)))))
 (.wip [2] (.cons (.for (.seq (.idx (.var 0) (.cst (.int 2)))) (.nm 2)
 b10_1)
 (.cons (.ret (.bim .join (.cst (.str " ")) (.cons (.var 1) .nil)))
 .nil))))
def f10 : FnD := ⟨["one", "words", "tie", "part"], 1, b10⟩
def b11_0 : Bk := (.cons (.asg (.nm 6) (.cal false 9 [] (.cons (.bim .split (.var 2) (.cons (.cst (.str "/")) .nil)) .nil)))
 (.cons (.ite (.cmp .NotEq (.bif .len (.cons (.var 6) .nil)) (.cst (.int 4)))
 (.cons (.rai 2)
 .nil)
 .nil)
 (.cons (.drop (.bim .append (.var 1) (.cons (.tup (.cons (.idx (.var 6) (.cst (.int 0))) (.cons (.idx (.var 6) (.cst (.int 1))) (.cons (.idx (.var 6) (.cst (.int 2))) (.cons (.idx (.var 6) (.cst (.int 3))) .nil))))) .nil)))
 (.wip [2, 6] .nil))))
def b11 : Bk := (.cons (.ite (.cmp .Lt (.bif .len (.cons (.var 0) .nil)) (.cst (.int 3)))
 (.cons (.rai 2)
 .nil)
 .nil)
 (.cons (.asg (.tp [(.nm 3), (.nm 4), (.nm 5)]) (.cal false 9 [] (.cons (.slc (.var 0) .no (.so (.cst (.int 3)))) .nil)))
 (.cons (.asg (.nm 1) (.new .nil))
 (.wip [2, 6] (.cons (.for (.seq (.slc (.var 0) (.so (.cst (.int 3))) .no)) (.nm 2)
 b11_0)
 (.cons (.ret (.cal false 5 [] (.cons (.var 3) (.cons (.tup (.cons (.var 4) (.cons (.var 5) .nil))) (.cons (.bif .tuple (.cons (.var 1) .nil)) .nil)))))
 .nil))))))
def f11 : FnD := ⟨["words", "ties", "word", "number", "left", "right", "parts"], 1, b11⟩
def b12 : Bk := (.cons (.ite (.not (.val (.isi .str (.var 0))))
 (.cons (.rai 2)
 .nil)
 .nil)
 (.cons (.ret (.cal false 11 [] (.cons (.bim .split (.var 0) (.cons (.cst (.str " ")) .nil)) .nil)))
 .nil))
def f12 : FnD := ⟨["text"], 1, b12⟩
def x13_0 : Ex := (.bif .str (.cons (.var 1) .nil))
def b13 : Bk := (.cons (.ite (.cmp .Eq (.idx (.var 0) (.cst (.int 0))) (.cst (.str "agree")))
 (.cons (.ret (.bin .Add (.bin .Add (.bin .Add (.bin .Add (.bin .Add (.cst (.str "agree ")) (.bif .str (.cons (.idx (.var 0) (.cst (.int 1))) .nil))) (.cst (.str " "))) (.bif .str (.cons (.idx (.var 0) (.cst (.int 2))) .nil))) (.cst (.str " "))) (.cal false 10 [] (.cons (.idx (.var 0) (.cst (.int 3))) .nil))))
 .nil)
 .nil)
 (.cons (.ret (.bim .join (.cst (.str " ")) (.cons (.bin .Add (.lst (.cons (.idx (.var 0) (.cst (.int 0))) .nil)) (.com x13_0 (.nm 1) (.seq (.slc (.var 0) (.so (.cst (.int 1))) .no)) .no [("part", 1)])) .nil)))
 .nil))
def f13 : FnD := ⟨["thing", "part"], 1, b13⟩
def b14 : Bk := (.cons (.ite (.not (.val (.isi .str (.var 0))))
 (.cons (.rai 2)
 .nil)
 .nil)
 (.cons (.asg (.nm 1) (.bim .split (.var 0) (.cons (.cst (.str " ")) .nil)))
 (.cons (.ite (.and (.cmp .Eq (.idx (.var 1) (.cst (.int 0))) (.cst (.str "agree"))) (.cmp .Gt (.bif .len (.cons (.var 1) .nil)) (.cst (.int 3))))
 (.cons (.asg (.tp [(.nm 3), (.nm 4)]) (.cal false 9 [] (.cons (.slc (.var 1) (.so (.cst (.int 1))) (.so (.cst (.int 3)))) .nil)))
 (.cons (.asg (.nm 2) (.tup (.cons (.cst (.str "agree")) (.cons (.var 3) (.cons (.var 4) (.cons (.cal false 11 [] (.cons (.slc (.var 1) (.so (.cst (.int 3))) .no) .nil)) .nil))))))
 .nil))
 (.cons (.asg (.nm 2) (.bif .tuple (.cons (.bin .Add (.lst (.cons (.idx (.var 1) (.cst (.int 0))) .nil)) (.cal false 9 [] (.cons (.slc (.var 1) (.so (.cst (.int 1))) .no) .nil))) .nil)))
 .nil))
 (.wip [3, 4] (.cons (.ite (.not (.val (.cal false 7 [] (.cons (.var 2) .nil))))
 (.cons (.rai 2)
 .nil)
 .nil)
 (.cons (.ret (.var 2))
 .nil))))))
def f14 : FnD := ⟨["text", "words", "thing", "pot", "side"], 1, b14⟩
def b15 : Bk := (.cons (.ite (.cmp .Lt (.var 1) (.bif .len (.cons (.var 0) .nil)))
 (.cons (.ret (.idx (.var 0) (.var 1)))
 .nil)
 .nil)
 (.cons (.ret (.cst (.int 0)))
 .nil))
def f15 : FnD := ⟨["_law_script", "_law_k"], 2, b15⟩
def b16 : Bk := (.cons (.ite (.cmp .Eq (.bin .Mod (.var 0) (.cst (.int 2))) (.cst (.int 0)))
 (.cons (.ret (.bin .BitAnd (.bin .RShift (.bin .FloorDiv (.var 0) (.cst (.int 2))) (.bin .Mult (.cst (.int 41)) (.var 1))) (.cst (.int 2199023255551))))
 .nil)
 .nil)
 (.cons (.asg (.nm 2) (.bin .Mod (.bin .Mult (.bin .Add (.bin .Add (.bin .Mod (.var 0) (.cst (.int 2147483647))) (.bin .Mult (.cst (.int 7919)) (.var 1))) (.cst (.int 1))) (.cst (.int 48271))) (.cst (.int 2147483647))))
 (.cons (.asg (.nm 2) (.bin .Mod (.bin .Mult (.var 2) (.bin .Add (.bin .FloorDiv (.var 2) (.cst (.int 1009))) (.cst (.int 69621)))) (.cst (.int 2147483647))))
 (.cons (.ret (.bin .Mod (.bin .Mult (.var 2) (.bin .Add (.bin .Add (.bin .FloorDiv (.var 2) (.cst (.int 4099))) (.cst (.int 16807))) (.var 1))) (.cst (.int 2147483629))))
 .nil))))
def f16 : FnD := ⟨["_law_cell", "_law_k", "_law_number"], 2, b16⟩
def b17 : Bk := (.cons (.ret (.bin .Add (.cst (.int 1)) (.idx (.lst (.cons (.bin .Mod (.bin .FloorDiv (.var 0) (.cst (.int 5))) (.cst (.int 10))) (.cons (.bin .Mod (.bin .FloorDiv (.var 0) (.cst (.int 5))) (.bin .Pow (.cst (.int 10)) (.cst (.int 12)))) (.cons (.bin .Mod (.bin .FloorDiv (.var 0) (.cst (.int 5))) (.cst (.int 1000))) (.cons (.cst (.int 0)) (.cons (.bin .Sub (.bin .Pow (.cst (.int 10)) (.cst (.int 12))) (.cst (.int 1))) .nil)))))) (.bin .Mod (.var 0) (.cst (.int 5))))))
 .nil)
def f17 : FnD := ⟨["_law_number"], 1, b17⟩
def b18 : Bk := (.cons (.ret (.idx (.lst (.cons (.bin .Mod (.bin .FloorDiv (.var 0) (.cst (.int 4))) (.cst (.int 50))) (.cons (.cst (.int 0)) (.cons (.bin .Mod (.bin .FloorDiv (.var 0) (.cst (.int 4))) (.bin .Pow (.cst (.int 10)) (.cst (.int 12)))) (.cons (.bin .Mod (.bin .FloorDiv (.var 0) (.cst (.int 4))) (.bin .Pow (.cst (.int 10)) (.cst (.int 4)))) .nil))))) (.bin .Mod (.var 0) (.cst (.int 4)))))
 .nil)
def f18 : FnD := ⟨["_law_number"], 1, b18⟩
def b19 : Bk := (.cons (.asg (.nm 3) (.cal false 17 [] (.cons (.bin .Add (.bin .Mult (.cal false 16 [] (.cons (.var 0) (.cons (.bin .Mult (.cst (.int 4)) (.var 1)) .nil))) (.cst (.int 991))) (.cal false 16 [] (.cons (.var 0) (.cons (.bin .Add (.bin .Mult (.cst (.int 4)) (.var 1)) (.cst (.int 1))) .nil)))) .nil)))
 (.cons (.asg (.nm 4) (.cal false 16 [] (.cons (.var 0) (.cons (.bin .Add (.bin .Mult (.cst (.int 4)) (.var 1)) (.cst (.int 3))) .nil))))
 (.cons (.asg (.nm 5) (.bin .Mod (.cal false 16 [] (.cons (.var 0) (.cons (.bin .Add (.bin .Mult (.cst (.int 4)) (.var 1)) (.cst (.int 2))) .nil))) (.idx (.lst (.cons (.cst (.int 40)) (.cons (.bin .Add (.bin .Pow (.cst (.int 10)) (.cst (.int 6))) (.cst (.int 1))) .nil))) (.bin .FloorDiv (.bin .Mod (.var 4) (.cst (.int 4))) (.cst (.int 3))))))
 (.cons (.ret (.tup (.cons (.bin .Mod (.bin .FloorDiv (.var 4) (.cst (.int 8))) (.cst (.int 2))) (.cons (.var 3) (.cons (.idx (.var 2) (.var 1)) (.cons (.var 5) .nil))))))
 .nil))))
def f19 : FnD := ⟨["_law_cell", "_law_k", "_law_words", "_law_amount_here", "_law_last", "_law_day"], 3, b19⟩
def x20_0 : Ex := (.cal false 19 [] (.cons (.bin .FloorDiv (.var 0) (.cst (.int 7))) (.cons (.var 2) (.cons (.var 1) .nil))))
def b20_1 : Bk := (.cons (.asg (.nm 3) (.bin .Mod (.bin .Add (.bin .FloorDiv (.cal false 16 [] (.cons (.var 0) (.cons (.cst (.int 40)) .nil))) (.cst (.int 60))) (.bin .Mult (.var 2) (.bin .Add (.cst (.int 1)) (.bin .Mod (.cal false 16 [] (.cons (.var 0) (.cons (.cst (.int 41)) .nil))) (.cst (.int 9)))))) (.cst (.int 60))))
 (.cons (.ite (.cmp .NotIn (.var 3) (.var 1))
 (.cons (.drop (.bim .append (.var 1) (.cons (.var 3) .nil)))
 .nil)
 .nil)
 (.wip [2, 3] .nil)))
def b20 : Bk := (.cons (.asg (.nm 1) (.new .nil))
 (.wip [2, 3] (.cons (.for (.rg1 (.bin .Mod (.var 0) (.cst (.int 7)))) (.nm 2)
 b20_1)
 (.cons (.ret (.bif .tuple (.cons (.com x20_0 (.nm 2) (.rg1 (.bif .len (.cons (.var 1) .nil))) .no [("_law_k", 2)]) .nil)))
 .nil))))
def f20 : FnD := ⟨["_law_cell", "_law_words", "_law_k", "_law_word"], 1, b20⟩
def b21 : Bk := (.cons (.asg (.nm 2) (.cal false 18 [] (.cons (.bin .Add (.bin .Mult (.cal false 16 [] (.cons (.var 1) (.cons (.cst (.int 50)) .nil))) (.cst (.int 977))) (.cst (.int 3))) .nil)))
 (.cons (.asg (.nm 3) (.cal false 18 [] (.cons (.bin .Add (.bin .Mult (.cal false 16 [] (.cons (.var 1) (.cons (.cst (.int 51)) .nil))) (.cst (.int 983))) (.cal false 16 [] (.cons (.var 1) (.cons (.cst (.int 52)) .nil)))) .nil)))
 (.cons (.ret (.tup (.cons (.var 0) (.cons (.tup (.cons (.var 2) (.cons (.var 3) .nil))) (.cons (.cal true 20 [] (.cons (.bin .FloorDiv (.var 1) (.cst (.int 3))) .nil)) .nil)))))
 .nil)))
def f21 : FnD := ⟨["_law_number", "_law_cell", "_law_left", "_law_right"], 2, b21⟩
def b22_0 : Bk := (.cons (.asg (.nm 1) (.bin .Add (.bin .Add (.bin .Add (.bin .Add (.var 1) (.cst (.str " "))) (.bif .str (.cons (.idx (.var 2) (.cst (.int 0))) .nil))) (.cst (.str "/"))) (.bif .str (.cons (.idx (.var 2) (.cst (.int 1))) .nil))))
 (.cons (.asg (.nm 1) (.bin .Add (.bin .Add (.bin .Add (.bin .Add (.var 1) (.cst (.str "/"))) (.bif .str (.cons (.idx (.var 2) (.cst (.int 2))) .nil))) (.cst (.str "/"))) (.bif .str (.cons (.idx (.var 2) (.cst (.int 3))) .nil))))
 (.wip [2] .nil)))
def b22 : Bk := (.cons (.asg (.nm 1) (.bin .Add (.bin .Add (.bin .Add (.bin .Add (.bif .str (.cons (.idx (.var 0) (.cst (.int 0))) .nil)) (.cst (.str " "))) (.bif .str (.cons (.idx (.idx (.var 0) (.cst (.int 1))) (.cst (.int 0))) .nil))) (.cst (.str " "))) (.bif .str (.cons (.idx (.idx (.var 0) (.cst (.int 1))) (.cst (.int 1))) .nil))))
 (.wip [2] (.cons (.for (.seq (.idx (.var 0) (.cst (.int 2)))) (.nm 2)
 b22_0)
 (.cons (.ret (.var 1))
 .nil))))
def f22 : FnD := ⟨["_law_one", "_law_text_here", "_law_tie_here"], 1, b22⟩
def x23_0 : Ex := (.cal false 23 [] (.cons (.var 1) .nil))
def b23 : Bk := (.cons (.ite (.val (.isi .tup (.var 0)))
 (.cons (.ret (.bif .all (.cons (.com x23_0 (.nm 1) (.seq (.var 0)) .no [("_law_part", 1)]) .nil)))
 .nil)
 .nil)
 (.cons (.ret (.or (.isi .str (.var 0)) (.and (.isi .int (.var 0)) (.not (.isi .bl (.var 0))))))
 .nil))
def f23 : FnD := ⟨["_law_found", "_law_part"], 1, b23⟩
def b24_0 : Bk := (.cons (.asg (.nm 13) (.cal false 14 [] (.cons (.var 12) .nil)))
 (.cons (.ite (.or (.cmp .NotEq (.cal false 13 [] (.cons (.var 11) .nil)) (.var 12)) (.or (.cmp .NotEq (.var 13) (.var 11)) (.not (.val (.cal false 23 [] (.cons (.var 13) .nil))))))
 (.cons (.ret (.cst (.bl false)))
 .nil)
 .nil)
 (.wip [11, 12, 13] .nil)))
def b24 : Bk := (.cons (.asg (.nm 1) (.cal false 15 [] (.cons (.var 0) (.cons (.cst (.int 0)) .nil))))
 (.cons (.asg (.nm 2) (.cal false 21 [] (.cons (.idx (.lst (.cons (.bin .Mod (.bin .FloorDiv (.var 1) (.cst (.int 6))) (.bin .Add (.bin .Pow (.cst (.int 10)) (.cst (.int 6))) (.cst (.int 1)))) (.cons (.bin .Pow (.cst (.int 10)) (.cst (.int 6))) (.cons (.cst (.int 0)) .nil)))) (.bin .Mod (.var 1) (.cst (.int 3)))) (.cons (.cal false 15 [] (.cons (.var 0) (.cons (.cst (.int 1)) .nil))) .nil))))
 (.cons (.asg (.nm 3) (.cal false 22 [] (.cons (.var 2) .nil)))
 (.cons (.asg (.nm 4) (.cal false 12 [] (.cons (.var 3) .nil)))
 (.cons (.ite (.or (.cmp .NotEq (.cal false 10 [] (.cons (.var 2) .nil)) (.var 3)) (.or (.cmp .NotEq (.var 4) (.var 2)) (.not (.val (.cal false 23 [] (.cons (.var 4) .nil))))))
 (.cons (.ret (.cst (.bl false)))
 .nil)
 .nil)
 (.cons (.asg (.nm 5) (.bin .Mod (.bin .FloorDiv (.var 1) (.cst (.int 6))) (.cst (.int 3))))
 (.cons (.asg (.nm 6) (.bin .Mod (.bin .FloorDiv (.var 1) (.cst (.int 18))) (.cst (.int 2))))
 (.cons (.asg (.nm 7) (.bin .Mod (.bin .FloorDiv (.var 1) (.cst (.int 36))) (.bin .Add (.bin .Pow (.cst (.int 10)) (.cst (.int 6))) (.cst (.int 1)))))
 (.cons (.asg (.nm 8) (.lst (.cons (.tup (.cons (.cst (.str "word")) (.cons (.bin .Mod (.bin .FloorDiv (.var 1) (.cst (.int 36))) (.cst (.int 60))) .nil))) (.cons (.tup (.cons (.cst (.str "strike")) (.cons (.var 5) (.cons (.var 6) (.cons (.var 7) .nil))))) (.cons (.tup (.cons (.cst (.str "agree")) (.cons (.var 5) (.cons (.var 6) (.cons (.var 2) .nil))))) .nil)))))
 (.cons (.asg (.nm 9) (.new (.cons (.bin .Add (.cst (.str "word ")) (.bif .str (.cons (.bin .Mod (.bin .FloorDiv (.var 1) (.cst (.int 36))) (.cst (.int 60))) .nil))) (.cons (.bin .Add (.bin .Add (.bin .Add (.bin .Add (.bin .Add (.cst (.str "strike ")) (.bif .str (.cons (.var 5) .nil))) (.cst (.str " "))) (.bif .str (.cons (.var 6) .nil))) (.cst (.str " "))) (.bif .str (.cons (.var 7) .nil))) .nil))))
 (.cons (.drop (.bim .append (.var 9) (.cons (.bin .Add (.bin .Add (.bin .Add (.bin .Add (.bin .Add (.cst (.str "agree ")) (.bif .str (.cons (.var 5) .nil))) (.cst (.str " "))) (.bif .str (.cons (.var 6) .nil))) (.cst (.str " "))) (.var 3)) .nil)))
 (.wip [11, 12, 13] (.cons (.for (.zip (.var 8) (.var 9)) (.tp [(.nm 11), (.nm 12)])
 b24_0)
 (.cons (.asg (.nm 10) (.bin .Mod (.cal false 15 [] (.cons (.var 0) (.cons (.cst (.int 2)) .nil))) (.bin .Pow (.cst (.int 10)) (.cst (.int 30)))))
 (.cons (.ret (.and (.cmp .Eq (.cal false 8 [] (.cons (.bif .str (.cons (.var 10) .nil)) .nil)) (.var 10)) (.cmp .Eq (.var 2) (.cal false 21 [] (.cons (.idx (.var 2) (.cst (.int 0))) (.cons (.cal false 15 [] (.cons (.var 0) (.cons (.cst (.int 1)) .nil))) .nil))))))
 .nil)))))))))))))))
def f24 : FnD := ⟨["_law_script", "_law_cell", "_law_one", "_law_text_here", "_law_found", "_law_pot", "_law_side", "_law_number", "_law_things", "_law_texts", "_law_far", "_law_thing", "_law_word", "_law_again"], 1, b24⟩
def fns : List FnD := [f0, f1, f2, f3, f4, f5, f6, f7, f8, f9, f10, f11, f12, f13, f14, f15, f16, f17, f18, f19, f20, f21, f22, f23, f24]
abbrev S (k i : Nat) : FC := semN fns T.f k i
abbrev M (k : Nat) : Sm := ⟨semN fns T.f k, T.f⟩
theorem q0 (k : Nat) {a0 a1 : D} {h : Hh} : S (k + 1) 0 [a0, a1] h = outB (evB (M k) none b0 [some a0, some a1] h) := body_out (n := 2) (np := 2) (b := evB (M k) none b0) (ds := [a0, a1]) rfl
theorem q1 (k : Nat) {a0 : D} {h : Hh} : S (k + 1) 1 [a0] h = outB (evB (M k) none b1 [some a0, none, none, none, none] h) := body_out (n := 5) (np := 1) (b := evB (M k) none b1) (ds := [a0]) rfl
theorem q2 (k : Nat) {a0 : D} {h : Hh} : S (k + 1) 2 [a0] h = outB (evB (M k) none b2 [some a0, none] h) := body_out (n := 2) (np := 1) (b := evB (M k) none b2) (ds := [a0]) rfl
theorem q3 (k : Nat) {a0 : D} {h : Hh} : S (k + 1) 3 [a0] h = outB (evB (M k) none b3 [some a0, none, none, none] h) := body_out (n := 4) (np := 1) (b := evB (M k) none b3) (ds := [a0]) rfl
theorem q4 (k : Nat) {a0 : D} {h : Hh} : S (k + 1) 4 [a0] h = outB (evB (M k) none b4 [some a0] h) := body_out (n := 1) (np := 1) (b := evB (M k) none b4) (ds := [a0]) rfl
theorem q5 (k : Nat) {a0 a1 a2 : D} {h : Hh} : S (k + 1) 5 [a0, a1, a2] h = outB (evB (M k) none b5 [some a0, some a1, some a2, none] h) := body_out (n := 4) (np := 3) (b := evB (M k) none b5) (ds := [a0, a1, a2]) rfl
theorem q6 (k : Nat) {a0 : D} {h : Hh} : S (k + 1) 6 [a0] h = outB (evB (M k) none b6 [some a0] h) := body_out (n := 1) (np := 1) (b := evB (M k) none b6) (ds := [a0]) rfl
theorem q7 (k : Nat) {a0 : D} {h : Hh} : S (k + 1) 7 [a0] h = outB (evB (M k) none b7 [some a0] h) := body_out (n := 1) (np := 1) (b := evB (M k) none b7) (ds := [a0]) rfl
theorem q8 (k : Nat) {a0 : D} {h : Hh} : S (k + 1) 8 [a0] h = outB (evB (M k) none b8 [some a0, none] h) := body_out (n := 2) (np := 1) (b := evB (M k) none b8) (ds := [a0]) rfl
theorem q9 (k : Nat) {a0 : D} {h : Hh} : S (k + 1) 9 [a0] h = outB (evB (M k) none b9 [some a0, none] h) := body_out (n := 2) (np := 1) (b := evB (M k) none b9) (ds := [a0]) rfl
theorem q10 (k : Nat) {a0 : D} {h : Hh} : S (k + 1) 10 [a0] h = outB (evB (M k) none b10 [some a0, none, none, none] h) := body_out (n := 4) (np := 1) (b := evB (M k) none b10) (ds := [a0]) rfl
theorem q11 (k : Nat) {a0 : D} {h : Hh} : S (k + 1) 11 [a0] h = outB (evB (M k) none b11 [some a0, none, none, none, none, none, none] h) := body_out (n := 7) (np := 1) (b := evB (M k) none b11) (ds := [a0]) rfl
theorem q12 (k : Nat) {a0 : D} {h : Hh} : S (k + 1) 12 [a0] h = outB (evB (M k) none b12 [some a0] h) := body_out (n := 1) (np := 1) (b := evB (M k) none b12) (ds := [a0]) rfl
theorem q13 (k : Nat) {a0 : D} {h : Hh} : S (k + 1) 13 [a0] h = outB (evB (M k) none b13 [some a0, none] h) := body_out (n := 2) (np := 1) (b := evB (M k) none b13) (ds := [a0]) rfl
theorem q14 (k : Nat) {a0 : D} {h : Hh} : S (k + 1) 14 [a0] h = outB (evB (M k) none b14 [some a0, none, none, none, none] h) := body_out (n := 5) (np := 1) (b := evB (M k) none b14) (ds := [a0]) rfl
theorem q15 (k : Nat) {a0 a1 : D} {h : Hh} : S (k + 1) 15 [a0, a1] h = outB (evB (M k) none b15 [some a0, some a1] h) := body_out (n := 2) (np := 2) (b := evB (M k) none b15) (ds := [a0, a1]) rfl
theorem q16 (k : Nat) {a0 a1 : D} {h : Hh} : S (k + 1) 16 [a0, a1] h = outB (evB (M k) none b16 [some a0, some a1, none] h) := body_out (n := 3) (np := 2) (b := evB (M k) none b16) (ds := [a0, a1]) rfl
theorem q17 (k : Nat) {a0 : D} {h : Hh} : S (k + 1) 17 [a0] h = outB (evB (M k) none b17 [some a0] h) := body_out (n := 1) (np := 1) (b := evB (M k) none b17) (ds := [a0]) rfl
theorem q18 (k : Nat) {a0 : D} {h : Hh} : S (k + 1) 18 [a0] h = outB (evB (M k) none b18 [some a0] h) := body_out (n := 1) (np := 1) (b := evB (M k) none b18) (ds := [a0]) rfl
theorem q19 (k : Nat) {a0 a1 a2 : D} {h : Hh} : S (k + 1) 19 [a0, a1, a2] h = outB (evB (M k) none b19 [some a0, some a1, some a2, none, none, none] h) := body_out (n := 6) (np := 3) (b := evB (M k) none b19) (ds := [a0, a1, a2]) rfl
theorem q20 (k : Nat) {a0 : D} {h : Hh} : S (k + 1) 20 [a0] h = outB (evB (M k) none b20 [some a0, none, none, none] h) := body_out (n := 4) (np := 1) (b := evB (M k) none b20) (ds := [a0]) rfl
theorem q21 (k : Nat) {a0 a1 : D} {h : Hh} : S (k + 1) 21 [a0, a1] h = outB (evB (M k) none b21 [some a0, some a1, none, none] h) := body_out (n := 4) (np := 2) (b := evB (M k) none b21) (ds := [a0, a1]) rfl
theorem q22 (k : Nat) {a0 : D} {h : Hh} : S (k + 1) 22 [a0] h = outB (evB (M k) none b22 [some a0, none, none] h) := body_out (n := 3) (np := 1) (b := evB (M k) none b22) (ds := [a0]) rfl
theorem q23 (k : Nat) {a0 : D} {h : Hh} : S (k + 1) 23 [a0] h = outB (evB (M k) none b23 [some a0, none] h) := body_out (n := 2) (np := 1) (b := evB (M k) none b23) (ds := [a0]) rfl
theorem q24 (k : Nat) {a0 : D} {h : Hh} : S (k + 1) 24 [a0] h = outB (evB (M k) none b24 [some a0, none, none, none, none, none, none, none, none, none, none, none, none, none] h) := body_out (n := 14) (np := 1) (b := evB (M k) none b24) (ds := [a0]) rfl
theorem so0 : PyData.strOk (" " : Str) = true := by decide +kernel
theorem so1 : PyData.strOk ("/" : Str) = true := by decide +kernel
theorem so2 : PyData.strOk ("0" : Str) = true := by decide +kernel
theorem so3 : PyData.strOk ("0123456789" : Str) = true := by decide +kernel
theorem so4 : PyData.strOk ("agree" : Str) = true := by decide +kernel
theorem so5 : PyData.strOk ("agree " : Str) = true := by decide +kernel
theorem so6 : PyData.strOk ("no number" : Str) = true := by decide +kernel
theorem so7 : PyData.strOk ("no stand" : Str) = true := by decide +kernel
theorem so8 : PyData.strOk ("no text" : Str) = true := by decide +kernel
theorem so9 : PyData.strOk ("no thing" : Str) = true := by decide +kernel
theorem so10 : PyData.strOk ("no tie" : Str) = true := by decide +kernel
theorem so11 : PyData.strOk ("strike" : Str) = true := by decide +kernel
theorem so12 : PyData.strOk ("strike " : Str) = true := by decide +kernel
theorem so13 : PyData.strOk ("word" : Str) = true := by decide +kernel
theorem so14 : PyData.strOk ("word " : Str) = true := by decide +kernel
theorem chk : chAll T fns ds vs = true := by decide +kernel
theorem bnd : AllV fns ds vs := ⟨⟨f0, d0, rfl, rfl, .inl ⟨rfl, rfl, rfl, fun _ _ _ _ _ _ us hl => match us, hl with | [_, _], _ => rfl⟩⟩,
 ⟨f1, d1, rfl, rfl, .inl ⟨rfl, rfl, rfl, fun _ _ _ _ _ _ us hl => match us, hl with | [_], _ => rfl⟩⟩,
 ⟨f2, d2, rfl, rfl, .inl ⟨rfl, rfl, rfl, fun _ _ _ _ _ _ us hl => match us, hl with | [_], _ => rfl⟩⟩,
 ⟨f3, d3, rfl, rfl, .inl ⟨rfl, rfl, rfl, fun _ _ _ _ _ _ us hl => match us, hl with | [_], _ => rfl⟩⟩,
 ⟨f4, d4, rfl, rfl, .inl ⟨rfl, rfl, rfl, fun _ _ _ _ _ _ us hl => match us, hl with | [_], _ => rfl⟩⟩,
 ⟨f5, d5, rfl, rfl, .inr ⟨by decide, 1, rfl, rfl, fun _ _ _ _ _ _ _ us its hl h2 => match us, hl, its, h2 with | [_, _, _], _, [_], _ => ⟨_, rfl, rfl⟩⟩⟩,
 ⟨f6, d6, rfl, rfl, .inl ⟨rfl, rfl, rfl, fun _ _ _ _ _ _ us hl => match us, hl with | [_], _ => rfl⟩⟩,
 ⟨f7, d7, rfl, rfl, .inl ⟨rfl, rfl, rfl, fun _ _ _ _ _ _ us hl => match us, hl with | [_], _ => rfl⟩⟩,
 ⟨f8, d8, rfl, rfl, .inl ⟨rfl, rfl, rfl, fun _ _ _ _ _ _ us hl => match us, hl with | [_], _ => rfl⟩⟩,
 ⟨f9, d9, rfl, rfl, .inl ⟨rfl, rfl, rfl, fun _ _ _ _ _ _ us hl => match us, hl with | [_], _ => rfl⟩⟩,
 ⟨f10, d10, rfl, rfl, .inl ⟨rfl, rfl, rfl, fun _ _ _ _ _ _ us hl => match us, hl with | [_], _ => rfl⟩⟩,
 ⟨f11, d11, rfl, rfl, .inl ⟨rfl, rfl, rfl, fun _ _ _ _ _ _ us hl => match us, hl with | [_], _ => rfl⟩⟩,
 ⟨f12, d12, rfl, rfl, .inl ⟨rfl, rfl, rfl, fun _ _ _ _ _ _ us hl => match us, hl with | [_], _ => rfl⟩⟩,
 ⟨f13, d13, rfl, rfl, .inl ⟨rfl, rfl, rfl, fun _ _ _ _ _ _ us hl => match us, hl with | [_], _ => rfl⟩⟩,
 ⟨f14, d14, rfl, rfl, .inl ⟨rfl, rfl, rfl, fun _ _ _ _ _ _ us hl => match us, hl with | [_], _ => rfl⟩⟩,
 ⟨f15, d15, rfl, rfl, .inl ⟨rfl, rfl, rfl, fun _ _ _ _ _ _ us hl => match us, hl with | [_, _], _ => rfl⟩⟩,
 ⟨f16, d16, rfl, rfl, .inl ⟨rfl, rfl, rfl, fun _ _ _ _ _ _ us hl => match us, hl with | [_, _], _ => rfl⟩⟩,
 ⟨f17, d17, rfl, rfl, .inl ⟨rfl, rfl, rfl, fun _ _ _ _ _ _ us hl => match us, hl with | [_], _ => rfl⟩⟩,
 ⟨f18, d18, rfl, rfl, .inl ⟨rfl, rfl, rfl, fun _ _ _ _ _ _ us hl => match us, hl with | [_], _ => rfl⟩⟩,
 ⟨f19, d19, rfl, rfl, .inl ⟨rfl, rfl, rfl, fun _ _ _ _ _ _ us hl => match us, hl with | [_, _, _], _ => rfl⟩⟩,
 ⟨f20, d20, rfl, rfl, .inl ⟨rfl, rfl, rfl, fun _ _ _ _ _ _ us hl => match us, hl with | [_], _ => rfl⟩⟩,
 ⟨f21, d21, rfl, rfl, .inl ⟨rfl, rfl, rfl, fun _ _ _ _ _ _ us hl => match us, hl with | [_, _], _ => rfl⟩⟩,
 ⟨f22, d22, rfl, rfl, .inl ⟨rfl, rfl, rfl, fun _ _ _ _ _ _ us hl => match us, hl with | [_], _ => rfl⟩⟩,
 ⟨f23, d23, rfl, rfl, .inl ⟨rfl, rfl, rfl, fun _ _ _ _ _ _ us hl => match us, hl with | [_], _ => rfl⟩⟩,
 ⟨f24, d24, rfl, rfl, .inl ⟨rfl, rfl, rfl, fun _ _ _ _ _ _ us hl => match us, hl with | [_], _ => rfl⟩⟩,
 trivial⟩
end P
section
open PySem PySem.W PySem.Calls PyProof.Rows
theorem eLaw (lt : ∀ (ns : List Int), ns.length ≤ 63 → ∃ h, P.S (14 + 1) 24 [Sb.D.scr ns] [] = Sb.R.ok (Sb.D.bl true) h) : PySem.Challenge.rw_sidebook_k61_stands_and_things_as_texts.Holds := by
 w_on; o_law
 refine HandSHeadRun.head_any (r := OpenLaw.row PySem.Challenge.rw_sidebook_k61_stands_and_things_as_texts) (q := view (OpenLaw.row PySem.Challenge.rw_sidebook_k61_stands_and_things_as_texts).prog [40]) (H := Sb.hookS 4 P.T P.ds) (ob := Sb.obS 4 P.T P.ds) (M := 6000) (loose := P.loose) (d := HandSHeadRun.topDef (OpenLaw.row PySem.Challenge.rw_sidebook_k61_stands_and_things_as_texts).prog 40) (kwd := []) (Sb.obS_eq 4 P.T P.ds)
  (by kernel_rfl) (fun s => by kernel_rfl) P.run (by kernel_rfl) (by kernel_rfl) (by kernel_rfl) (by rfl) (by first | assumption | decide +kernel) (by decide +kernel) ⟨rfl, rfl, rfl, rfl, rfl, by decide +kernel⟩ ?hw ?hc
 case hw => w_witness2
 case hc =>
  refine Sb.walk_S (l := PySem.Challenge.rw_sidebook_k61_stands_and_things_as_texts) (n := 63) (k := 2 * (14 + 1)) (x := "_law_script") rfl (by decide) (by kernel_rfl) ⟨rfl, by decide, by decide⟩ ?F
  intro w mg fa h Y G hmg0
  have hmg : mg ("law" : PySem.Str) = some (.ref fa) := by
   have e : (HandSHeadRun.topDef (OpenLaw.row PySem.Challenge.rw_sidebook_k61_stands_and_things_as_texts).prog 40).name = ("law" : PySem.Str) := by kernel_rfl
   rw [← e]
   exact hmg0
  exact Sb.law_F (T := P.T) (fns := P.fns) (ds := P.ds) (vs := P.vs) (i := 24) (j := 14) (n' := 63) Y G hmg P.chk P.bnd ⟨_, rfl, rfl, by decide +kernel⟩ (by decide +kernel) (f := P.f24) (d := P.d24) rfl rfl rfl rfl lt
end
namespace P
open Sb L2 PySem PySem.Spec PyProof.Rows
local macro_rules | `(tactic| simp_all! only [1, $xs,*]) => `(tactic| simp (maxSteps := 3000000) (implicitDefEqProofs := false) (discharger := first | omega | exact rfl | (simp only [List.length_cons, List.length_nil, List.length_map, List.length_append]; omega)) only [reduceCtorEq, Nat.reduceAdd, Int.cast_ofNat_Int, Int.reduceEq, Int.reduceLT, Int.reduceLE, not_true_eq_false, not_false_eq_true, decide_true, decide_false, Bool.not_true, Bool.not_false, bind_if, st_if, try_then, try_nx, try_rt, try_exc, try_if, hand_nx, hand_rt, hand_if, run_cons, run_nil, runQ_yes, runQ_no, fit_none, fit_some, evC, i_is, i_isnot, non_non, non_tup, non_int, dCh, sNever, evB, evSt, evE, evT, evL, evO, evQ, List.map_nil, List.map_cons, Cst.d, Sm.f, Bool.false_eq_true, if_false, if_true, seq_then, sAsg, sRet, sRetN, sIf, sDrop, sNx, sRaise, dB, dU, dC, dT, dCl, dCons, dNil, dTup, dLst, dBi, dSl, pNone, pSome, dIf, dAnd, dOr, dNot, bAnd, bOr, bNot, asB, rb_ok, rb_exc, rst_ok, rst_exc, opt_some, then_nx, then_rt, then_exc, then_bk, then_ct, then_if, out_rt, out_nx, out_exc, out_if, binF, binD, Option.getD_some, dVar, List.getElem?_cons_zero, List.getElem?_cons_succ, bindT, bindTs, List.set_cons_zero, List.set_cons_succ, List.append_nil, List.nil_append, List.cons_append, BF.op, i_add, i_sub, i_and, i_neg, i_lt, i_le, i_gt, i_ge, i_eq, i_ne, decide_eq_true_eq, Bool.not_eq_true', decide_eq_false_iff_not, len_tup, len_lst, len_scr, idx_tup, idx_lst, idx_scr, i_mul, i_mod, i_div, i_pow, i_shr, List.length_cons, List.length_nil, dM, BM.op, BM.c, fits_T, is_bl_non, is_bl_bl, is_bl_int, is_bl_str, is_bl_tup, is_bl_lst, is_bl_dct, is_int_non, is_int_bl, is_int_int, is_int_str, is_int_tup, is_int_lst, is_int_dct, is_str_non, is_str_bl, is_str_int, is_str_str, is_str_tup, is_str_lst, is_str_dct, is_tup_non, is_tup_bl, is_tup_int, is_tup_str, is_tup_tup, is_tup_lst, is_tup_dct, is_lst_non, is_lst_bl, is_lst_int, is_lst_str, is_lst_tup, is_lst_lst, is_lst_dct, is_dct_non, is_dct_bl, is_dct_int, is_dct_str, is_dct_tup, is_dct_lst, is_dct_dct, ix0, ix1, ix2, ix3, at2, at3, at4, at5, at6, at7, at8, Int.reduceToNat, Int.reducePow, Int.reduceAdd, Int.reduceSub, Int.reduceMul, dFld, sFldD, dMe, insAt_ins, Sm.me, List.lookup_cons, Nat.reduceBEq, Option.isNone_none, min2, Sb.min3, max2, is_bl, isnot_bl, bl_eq, bl_ne, ok_if_bl, ok_if_B, rt_if_bl, add_lst, add_tup, evS, sWip, wipeE, for_seqE, forD_tup, forD_lst, forD_scr, for_r1E, forR1_int, for_r2E, forR2_int, for_enuE, forE_lst, for_zipE, forZ_lst, forL_nil, nextL_nx, nextL_ct, nextL_bk, nextL_rt, nextL_if, comp_seqE, compD_tup, compD_lst, comp_r1E, compR1_int, endC_some, sub_E, isx_E, endO_some, Option.map_some, Option.map_none, beq_self_eq_true, sbk_E, s_fodE, forDw_dct, calR_nx, calR_rt, c_codE, $xs,*])
local macro_rules | `(tactic| simp_all! only [2, $xs,*]) => `(tactic| simp (maxSteps := 3000000) (implicitDefEqProofs := false) (discharger := first | omega | exact rfl | (simp only [List.length_cons, List.length_nil, List.length_map, List.length_append]; omega)) only [reduceCtorEq, Nat.reduceAdd, Int.cast_ofNat_Int, Int.reduceEq, Int.reduceLT, Int.reduceLE, not_true_eq_false, not_false_eq_true, decide_true, decide_false, Bool.not_true, Bool.not_false, bind_if, st_if, try_then, try_nx, try_rt, try_exc, try_if, hand_nx, hand_rt, hand_if, run_cons, run_nil, runQ_yes, runQ_no, fit_none, fit_some, evC, i_is, i_isnot, non_non, non_tup, non_int, dCh, sNever, evB, evSt, evE, evT, evL, evO, evQ, List.map_nil, List.map_cons, Cst.d, Sm.f, Bool.false_eq_true, if_false, if_true, seq_then, sAsg, sRet, sRetN, sIf, sDrop, sNx, sRaise, dB, dU, dC, dT, dCl, dCons, dNil, dTup, dLst, dBi, dSl, pNone, pSome, dIf, dAnd, dOr, dNot, bAnd, bOr, bNot, asB, rb_ok, rb_exc, rst_ok, rst_exc, opt_some, then_nx, then_rt, then_exc, then_bk, then_ct, then_if, out_rt, out_nx, out_exc, out_if, binF, binD, Option.getD_some, dVar, List.getElem?_cons_zero, List.getElem?_cons_succ, bindT, bindTs, List.set_cons_zero, List.set_cons_succ, List.append_nil, List.nil_append, List.cons_append, BF.op, i_add, i_sub, i_and, i_neg, i_lt, i_le, i_gt, i_ge, i_eq, i_ne, decide_eq_true_eq, Bool.not_eq_true', decide_eq_false_iff_not, len_tup, len_lst, len_scr, idx_tup, idx_lst, idx_scr, i_mul, i_mod, i_div, i_pow, i_shr, List.length_cons, List.length_nil, dM, BM.op, BM.c, fits_T, is_bl_non, is_bl_bl, is_bl_int, is_bl_str, is_bl_tup, is_bl_lst, is_bl_dct, is_int_non, is_int_bl, is_int_int, is_int_str, is_int_tup, is_int_lst, is_int_dct, is_str_non, is_str_bl, is_str_int, is_str_str, is_str_tup, is_str_lst, is_str_dct, is_tup_non, is_tup_bl, is_tup_int, is_tup_str, is_tup_tup, is_tup_lst, is_tup_dct, is_lst_non, is_lst_bl, is_lst_int, is_lst_str, is_lst_tup, is_lst_lst, is_lst_dct, is_dct_non, is_dct_bl, is_dct_int, is_dct_str, is_dct_tup, is_dct_lst, is_dct_dct, ix0, ix1, ix2, ix3, at2, at3, at4, at5, at6, at7, at8, Int.reduceToNat, Int.reducePow, Int.reduceAdd, Int.reduceSub, Int.reduceMul, $xs,*])
def cellAt (ns : List Int) (j : Int) : Int := if j < ns.length then pick ns j else 0
theorem e_at (k : Nat) (ns : List Int) (j : Int) (h : Hh) (hj : 0 ≤ j) : S (k + 1) 15 [.scr ns, .int j] h = .ok (.int (cellAt ns j)) h := by
 rw [q15]
 simp_all! only [1, b15, List.length_map]
 unfold cellAt
 split
 ·rename_i c
  rw [atI_pick hj c]
  rfl
 ·rfl
def mix1 (c j : Int) : Int := (c % 2147483647 + 7919 * j + 1) * 48271 % 2147483647
def mix2 (n : Int) : Int := n * (n / 1009 + 69621) % 2147483647
def mixed (c j : Int) : Int := if c % 2 = 0 then Builtin.bitAnd (c / 2 / 2 ^ (41 * j).toNat) 2199023255551 else mix2 (mix1 c j) * (mix2 (mix1 c j) / 4099 + 16807 + j) % 2147483629
theorem e_mixed (k : Nat) (c j : Int) (h : Hh) (hj : 0 ≤ j) : S (k + 1) 16 [.int c, .int j] h = .ok (.int (mixed c j)) h := by
 rw [q16]
 simp_all! only [1, b16]
 unfold mixed
 split <;> rfl
theorem x_amount (n : Int) : ∃ v : Int, (∀ k h, S (k + 1) 17 [.int n] h = .ok (.int v) h) ∧ 1 ≤ v ∧ v ≤ 1000000000000 := ⟨_, fun k h => by
 rw [q17]
 conv => lhs; simp (maxSteps := 3000000) (implicitDefEqProofs := false) (discharger := first | omega | exact rfl | (simp only [List.length_cons, List.length_nil, List.length_map, List.length_append]; omega)) only [b17, reduceCtorEq, Nat.reduceAdd, Int.cast_ofNat_Int, Int.reduceEq, Int.reduceLT, Int.reduceLE, not_true_eq_false, not_false_eq_true, decide_true, decide_false, Bool.not_true, Bool.not_false, bind_if, st_if, try_then, try_nx, try_rt, try_exc, try_if, hand_nx, hand_rt, hand_if, run_cons, run_nil, runQ_yes, runQ_no, fit_none, fit_some, evC, i_is, i_isnot, non_non, non_tup, non_int, dCh, sNever, evB, evSt, evE, evT, evL, evO, evQ, List.map_nil, List.map_cons, Cst.d, Sm.f, Bool.false_eq_true, if_false, if_true, seq_then, sAsg, sRet, sRetN, sIf, sDrop, sNx, sRaise, dB, dU, dC, dT, dCl, dCons, dNil, dTup, dLst, dBi, dSl, pNone, pSome, dIf, dAnd, dOr, dNot, bAnd, bOr, bNot, asB, rb_ok, rb_exc, rst_ok, rst_exc, opt_some, then_nx, then_rt, then_exc, then_bk, then_ct, then_if, out_rt, out_nx, out_exc, out_if, binF, binD, Option.getD_some, dVar, List.getElem?_cons_zero, List.getElem?_cons_succ, bindT, bindTs, List.set_cons_zero, List.set_cons_succ, List.append_nil, List.nil_append, List.cons_append, BF.op, i_add, i_sub, i_and, i_neg, i_lt, i_le, i_gt, i_ge, i_eq, i_ne, decide_eq_true_eq, Bool.not_eq_true', decide_eq_false_iff_not, len_tup, len_lst, len_scr, idx_tup, idx_lst, idx_scr, i_mul, i_mod, i_div, i_pow, i_shr, List.length_cons, List.length_nil, dM, BM.op, BM.c, fits_T, is_bl_non, is_bl_bl, is_bl_int, is_bl_str, is_bl_tup, is_bl_lst, is_bl_dct, is_int_non, is_int_bl, is_int_int, is_int_str, is_int_tup, is_int_lst, is_int_dct, is_str_non, is_str_bl, is_str_int, is_str_str, is_str_tup, is_str_lst, is_str_dct, is_tup_non, is_tup_bl, is_tup_int, is_tup_str, is_tup_tup, is_tup_lst, is_tup_dct, is_lst_non, is_lst_bl, is_lst_int, is_lst_str, is_lst_tup, is_lst_lst, is_lst_dct, is_dct_non, is_dct_bl, is_dct_int, is_dct_str, is_dct_tup, is_dct_lst, is_dct_dct, ix0, ix1, ix2, ix3, at2, at3, at4, at5, at6, at7, at8, Int.reduceToNat, Int.reducePow, Int.reduceAdd, Int.reduceSub, Int.reduceMul, dFld, sFldD, dMe, insAt_ins, Sm.me, List.lookup_cons, Nat.reduceBEq, Option.isNone_none, min2, Sb.min3, max2, is_bl, isnot_bl, bl_eq, bl_ne, ok_if_bl, ok_if_B, rt_if_bl, add_lst, add_tup, evS, sWip, wipeE, for_seqE, forD_tup, forD_lst, forD_scr, for_r1E, forR1_int, for_r2E, forR2_int, for_enuE, forE_lst, for_zipE, forZ_lst, forL_nil, nextL_nx, nextL_ct, nextL_bk, nextL_rt, nextL_if, comp_seqE, compD_tup, compD_lst, comp_r1E, compR1_int, endC_some, sub_E, isx_E, endO_some, Option.map_some, Option.map_none, beq_self_eq_true, sbk_E, s_fodE, forDw_dct, calR_nx, calR_rt, c_codE], by
 have z := pick_all (P := fun x => 0 ≤ x ∧ x ≤ 999999999999) (l := [n / 5 % 10, n / 5 % 1000000000000, n / 5 % 1000, 0, 999999999999]) (i := n % 5) (by
  intro x hx
  simp only [List.mem_cons, List.not_mem_nil, or_false] at hx
  rcases hx with rfl | rfl | rfl | rfl | rfl <;> omega) (by omega) (by simp only [List.length_cons, List.length_nil]; omega)
 constructor <;> omega⟩
noncomputable def amount (n : Int) : Int := Classical.choose (x_amount n)
theorem e_amount (n : Int) (k : Nat) (h : Hh) : S (k + 1) 17 [.int n] h = .ok (.int (amount n)) h := (Classical.choose_spec (x_amount n)).1 k h
theorem amount_b (n : Int) : 1 ≤ amount n ∧ amount n ≤ 1000000000000 := (Classical.choose_spec (x_amount n)).2
theorem x_share (n : Int) : ∃ v : Int, (∀ k h, S (k + 1) 18 [.int n] h = .ok (.int v) h) ∧ 0 ≤ v ∧ v ≤ 2000000000000 := ⟨_, fun k h => by
 rw [q18]
 conv => lhs; simp (maxSteps := 3000000) (implicitDefEqProofs := false) (discharger := first | omega | exact rfl | (simp only [List.length_cons, List.length_nil, List.length_map, List.length_append]; omega)) only [b18, reduceCtorEq, Nat.reduceAdd, Int.cast_ofNat_Int, Int.reduceEq, Int.reduceLT, Int.reduceLE, not_true_eq_false, not_false_eq_true, decide_true, decide_false, Bool.not_true, Bool.not_false, bind_if, st_if, try_then, try_nx, try_rt, try_exc, try_if, hand_nx, hand_rt, hand_if, run_cons, run_nil, runQ_yes, runQ_no, fit_none, fit_some, evC, i_is, i_isnot, non_non, non_tup, non_int, dCh, sNever, evB, evSt, evE, evT, evL, evO, evQ, List.map_nil, List.map_cons, Cst.d, Sm.f, Bool.false_eq_true, if_false, if_true, seq_then, sAsg, sRet, sRetN, sIf, sDrop, sNx, sRaise, dB, dU, dC, dT, dCl, dCons, dNil, dTup, dLst, dBi, dSl, pNone, pSome, dIf, dAnd, dOr, dNot, bAnd, bOr, bNot, asB, rb_ok, rb_exc, rst_ok, rst_exc, opt_some, then_nx, then_rt, then_exc, then_bk, then_ct, then_if, out_rt, out_nx, out_exc, out_if, binF, binD, Option.getD_some, dVar, List.getElem?_cons_zero, List.getElem?_cons_succ, bindT, bindTs, List.set_cons_zero, List.set_cons_succ, List.append_nil, List.nil_append, List.cons_append, BF.op, i_add, i_sub, i_and, i_neg, i_lt, i_le, i_gt, i_ge, i_eq, i_ne, decide_eq_true_eq, Bool.not_eq_true', decide_eq_false_iff_not, len_tup, len_lst, len_scr, idx_tup, idx_lst, idx_scr, i_mul, i_mod, i_div, i_pow, i_shr, List.length_cons, List.length_nil, dM, BM.op, BM.c, fits_T, is_bl_non, is_bl_bl, is_bl_int, is_bl_str, is_bl_tup, is_bl_lst, is_bl_dct, is_int_non, is_int_bl, is_int_int, is_int_str, is_int_tup, is_int_lst, is_int_dct, is_str_non, is_str_bl, is_str_int, is_str_str, is_str_tup, is_str_lst, is_str_dct, is_tup_non, is_tup_bl, is_tup_int, is_tup_str, is_tup_tup, is_tup_lst, is_tup_dct, is_lst_non, is_lst_bl, is_lst_int, is_lst_str, is_lst_tup, is_lst_lst, is_lst_dct, is_dct_non, is_dct_bl, is_dct_int, is_dct_str, is_dct_tup, is_dct_lst, is_dct_dct, ix0, ix1, ix2, ix3, at2, at3, at4, at5, at6, at7, at8, Int.reduceToNat, Int.reducePow, Int.reduceAdd, Int.reduceSub, Int.reduceMul, dFld, sFldD, dMe, insAt_ins, Sm.me, List.lookup_cons, Nat.reduceBEq, Option.isNone_none, min2, Sb.min3, max2, is_bl, isnot_bl, bl_eq, bl_ne, ok_if_bl, ok_if_B, rt_if_bl, add_lst, add_tup, evS, sWip, wipeE, for_seqE, forD_tup, forD_lst, forD_scr, for_r1E, forR1_int, for_r2E, forR2_int, for_enuE, forE_lst, for_zipE, forZ_lst, forL_nil, nextL_nx, nextL_ct, nextL_bk, nextL_rt, nextL_if, comp_seqE, compD_tup, compD_lst, comp_r1E, compR1_int, endC_some, sub_E, isx_E, endO_some, Option.map_some, Option.map_none, beq_self_eq_true, sbk_E, s_fodE, forDw_dct, calR_nx, calR_rt, c_codE], by
 exact pick_all (P := fun x => 0 ≤ x ∧ x ≤ 2000000000000) (by
  intro x hx
  simp only [List.mem_cons, List.not_mem_nil, or_false] at hx
  rcases hx with rfl | rfl | rfl | rfl <;> omega) (by omega) (by simp only [List.length_cons, List.length_nil]; omega)⟩
noncomputable def share (n : Int) : Int := Classical.choose (x_share n)
theorem e_share (n : Int) (k : Nat) (h : Hh) : S (k + 1) 18 [.int n] h = .ok (.int (share n)) h := (Classical.choose_spec (x_share n)).1 k h
theorem share_b (n : Int) : 0 ≤ share n ∧ share n ≤ 2000000000000 := (Classical.choose_spec (x_share n)).2
structure Ti where
 p : Int
 a : Int
 w : Int
 d : Int
def Ti.D (t : Ti) : D := .tup [.int t.p, .int t.a, .int t.w, .int t.d]
def Ti.ok (t : Ti) : Prop := (t.p = 0 ∨ t.p = 1) ∧ (1 ≤ t.a ∧ t.a ≤ 1000000000000) ∧ (0 ≤ t.w ∧ t.w ≤ 59) ∧ (0 ≤ t.d ∧ t.d ≤ 1000000)
theorem e_tie (c : Int) (ws : List Int) (hw : ∀ w ∈ ws, 0 ≤ w ∧ w ≤ 59) (k : Nat) (j : Int) (hj : 0 ≤ j ∧ j < ws.length) : ∃ t : Ti, S (k + 2) 19 [.int c, .int j, .ref 0] [.lst (ws.map .int)] = .ok t.D [.lst (ws.map .int)] ∧ t.ok ∧ t.w = pick ws j := by
 have ei := idx_ref (h := [.lst (ws.map .int)]) (i := 0) (l := ws.map .int) rfl
 have ep := atI_pick (l := ws) hj.1 hj.2
 have pos : 0 < pick [40, 1000001] (mixed c (4 * j + 3) % 4 / 3) ∧ pick [40, 1000001] (mixed c (4 * j + 3) % 4 / 3) ≤ 1000001 := pick_all (P := fun x => 0 < x ∧ x ≤ 1000001) (by simp) (by omega) (by simp only [List.length_cons, List.length_nil]; omega)
 have pw : 0 ≤ pick ws j ∧ pick ws j ≤ 59 := pick_all hw hj.1 hj.2
 have pa := amount_b (mixed c (4 * j) * 991 + mixed c (4 * j + 1))
 exact ⟨_, by
  rw [q19]
  simp_all! only [1, b19, e_mixed, e_amount, ei, ep]
  exact (rfl : _ = R.ok (Ti.mk _ _ _ _).D _), by
  have m0 := Int.emod_nonneg (mixed c (4 * j + 2)) (show pick [40, 1000001] (mixed c (4 * j + 3) % 4 / 3) ≠ 0 by omega)
  have m1 := Int.emod_lt_of_pos (mixed c (4 * j + 2)) pos.1
  unfold Ti.ok
  dsimp only
  refine ⟨by omega, pa, pw, m0, by omega⟩, rfl⟩
def Uni (ws : List Int) : Prop := ws.Nodup ∧ ∀ w ∈ ws, 0 ≤ w ∧ w ≤ 59
theorem e_ties (c : Int) (k : Nat) : ∃ ts : List Ti, (∃ h', S (k + 3) 20 [.int c] [] = .ok (.tup (ts.map Ti.D)) h') ∧ ts.length ≤ 6 ∧ (∀ t ∈ ts, t.ok) ∧ (ts.map Ti.w).Nodup := by
 obtain ⟨e', h', q, ws, a', b', rfl, rfl, hw, hu⟩ := forL_rng (g := .nm 2) (b := evB (M (k + 2)) none b20_1) (lo := 0) (n := (c % 7).toNat) (I := fun i e h => ∃ (ws : List Int) (a b : Option D), e = [some (.int c), some (.ref 0), a, b] ∧ h = [.lst (ws.map .int)] ∧ ws.length ≤ i ∧ Uni ws) (fun i e h hi ⟨ws, a, b, he, hh, hw, hu⟩ => by
  subst he
  subst hh
  have en : ∀ x : Int, cmpD .NotIn [.lst (ws.map .int)] (.int x) (.ref 0) = some (.bl (!decide (x ∈ ws))) := fun x => by
   rw [nin_ref (l := ws.map .int) rfl rfl (plns_ints _ _), any_int]
  have ea : ∀ x : Int, mAppend [.lst (ws.map .int)] (.ref 0) [.int x] = some (.non, [.lst ((ws ++ [x]).map .int)]) := fun x => by
   rw [append_ref (l := ws.map .int) rfl (by rw [List.length_map]; omega)]
   simp
  have ec : cLst [.lst (ws.map .int)] (.ref 0) = true := cLst_ref (l := ws.map .int) rfl
  refine ⟨_, rfl, ?_⟩
  simp_all! only [1, b20_1, e_mixed, en, ea, ec]
  split
  ·rename_i hn
   refine ⟨_, _, rfl, _, _, _, rfl, rfl, by simp; omega, ?_, fun w hw' => ?_⟩
   ·exact List.nodup_append.mpr ⟨hu.1, by simp, fun a ha b hb => by
     rw [List.mem_singleton] at hb
     subst hb
     exact fun z => hn (z ▸ ha)⟩
   ·rcases List.mem_append.mp hw' with z | z
    ·exact hu.2 w z
    ·rw [List.mem_singleton] at z
     omega
  ·exact ⟨_, _, rfl, _, _, _, rfl, rfl, by omega, hu⟩) (e := [some (.int c), some (.ref 0), none, none]) (h := [.lst []]) ⟨[], none, none, rfl, rfl, Nat.le_refl _, List.nodup_nil, fun w hw => by cases hw⟩
 have hf : sFor (iRange1 (dB (dVar 0) (dC (.int 7)) opMod)) (.nm 2) (evB (M (k + 2)) none b20_1) [some (.int c), some (.ref 0), none, none] [.lst []] = .nx [some (.int c), some (.ref 0), a', b'] [.lst (ws.map .int)] := by
  rw [for_rng1 (j := c % 7) (h1 := [.lst []]) (by simp (maxSteps := 3000000) (implicitDefEqProofs := false) (discharger := first | omega | exact rfl | (simp only [List.length_cons, List.length_nil, List.length_map, List.length_append]; omega)) only [reduceCtorEq, Nat.reduceAdd, Int.cast_ofNat_Int, Int.reduceEq, Int.reduceLT, Int.reduceLE, not_true_eq_false, not_false_eq_true, decide_true, decide_false, Bool.not_true, Bool.not_false, bind_if, st_if, try_then, try_nx, try_rt, try_exc, try_if, hand_nx, hand_rt, hand_if, run_cons, run_nil, runQ_yes, runQ_no, fit_none, fit_some, evC, i_is, i_isnot, non_non, non_tup, non_int, dCh, sNever, evB, evSt, evE, evT, evL, evO, evQ, List.map_nil, List.map_cons, Cst.d, Sm.f, Bool.false_eq_true, if_false, if_true, seq_then, sAsg, sRet, sRetN, sIf, sDrop, sNx, sRaise, dB, dU, dC, dT, dCl, dCons, dNil, dTup, dLst, dBi, dSl, pNone, pSome, dIf, dAnd, dOr, dNot, bAnd, bOr, bNot, asB, rb_ok, rb_exc, rst_ok, rst_exc, opt_some, then_nx, then_rt, then_exc, then_bk, then_ct, then_if, out_rt, out_nx, out_exc, out_if, binF, binD, Option.getD_some, dVar, List.getElem?_cons_zero, List.getElem?_cons_succ, bindT, bindTs, List.set_cons_zero, List.set_cons_succ, List.append_nil, List.nil_append, List.cons_append, BF.op, i_add, i_sub, i_and, i_neg, i_lt, i_le, i_gt, i_ge, i_eq, i_ne, decide_eq_true_eq, Bool.not_eq_true', decide_eq_false_iff_not, len_tup, len_lst, len_scr, idx_tup, idx_lst, idx_scr, i_mul, i_mod, i_div, i_pow, i_shr, List.length_cons, List.length_nil, dM, BM.op, BM.c, fits_T, is_bl_non, is_bl_bl, is_bl_int, is_bl_str, is_bl_tup, is_bl_lst, is_bl_dct, is_int_non, is_int_bl, is_int_int, is_int_str, is_int_tup, is_int_lst, is_int_dct, is_str_non, is_str_bl, is_str_int, is_str_str, is_str_tup, is_str_lst, is_str_dct, is_tup_non, is_tup_bl, is_tup_int, is_tup_str, is_tup_tup, is_tup_lst, is_tup_dct, is_lst_non, is_lst_bl, is_lst_int, is_lst_str, is_lst_tup, is_lst_lst, is_lst_dct, is_dct_non, is_dct_bl, is_dct_int, is_dct_str, is_dct_tup, is_dct_lst, is_dct_dct, ix0, ix1, ix2, ix3, at2, at3, at4, at5, at6, at7, at8, Int.reduceToNat, Int.reducePow, Int.reduceAdd, Int.reduceSub, Int.reduceMul, dFld, sFldD, dMe, insAt_ins, Sm.me, List.lookup_cons, Nat.reduceBEq, Option.isNone_none, min2, Sb.min3, max2, is_bl, isnot_bl, bl_eq, bl_ne, ok_if_bl, ok_if_B, rt_if_bl, add_lst, add_tup, evS, sWip, wipeE, for_seqE, forD_tup, forD_lst, forD_scr, for_r1E, forR1_int, for_r2E, forR2_int, for_enuE, forE_lst, for_zipE, forZ_lst, forL_nil, nextL_nx, nextL_ct, nextL_bk, nextL_rt, nextL_if, comp_seqE, compD_tup, compD_lst, comp_r1E, compR1_int, endC_some, sub_E, isx_E, endO_some, Option.map_some, Option.map_none, beq_self_eq_true, sbk_E, s_fodE, forDw_dct, calR_nx, calR_rt, c_codE]) (by omega)]
  exact q
 have ht : ∀ j : Nat, j < ws.length → ∃ t : Ti, S (k + 2) 19 [.int (c / 7), .int j, .ref 0] [.lst (ws.map .int)] = .ok t.D [.lst (ws.map .int)] ∧ t.ok ∧ t.w = pick ws j := fun j hj => e_tie (c / 7) ws hu.2 k j ⟨by omega, by omega⟩
 have el := len_ref (h := [.lst (ws.map .int)]) (i := 0) (l := ws.map .int) rfl
 obtain ⟨ts, t1, t2, t3⟩ := compL_rngx (g := .nm 2) (t := bYes) (f := evE (M (k + 2)) none x20_0) (e := wipeE [some (.int c), some (.ref 0), a', b'] [2]) (h := [.lst (ws.map .int)]) (φ := Ti.D) (P := fun i t => t.ok ∧ t.w = pick ws i) (lo := 0) (n := ws.length) (fun i hi => by
  obtain ⟨t, e1, e2⟩ := ht i hi
  refine ⟨_, rfl, rfl, t, ?_, e2⟩
  simp_all! only [1, x20_0, wipeE, Int.zero_add, e1])
 have hc : dComp (iRange1 (dBi (dCons (dVar 1) dNil) bLen)) (.nm 2) bYes (evE (M (k + 2)) none x20_0) [2] [some (.int c), some (.ref 0), a', b'] [.lst (ws.map .int)] = .ok (.lst (ts.map Ti.D)) [.lst (ws.map .int)] :=
  comp_rng1 (j := ws.length) (h1 := [.lst (ws.map .int)]) (by simp_all! only [1, el, List.length_map]) (by omega) t1
 have ew : ts.map Ti.w = ws := by
  refine List.ext_getElem (by rw [List.length_map, t2]) fun i h1 h2 => ?_
  rw [List.length_map] at h1
  rw [List.getElem_map, (t3 i h1).2]
  unfold pick
  rw [show ((i : Nat) : Int).toNat = i from rfl, List.getElem?_eq_getElem h2]; rfl
 refine ⟨ts, ⟨[.lst (ws.map .int)], ?_⟩, by omega, fun t ht => ?_, by rw [ew]; exact hu.1⟩
 ·rw [q20]
  simp_all! only [1, b20, dNew, hf, hc, tup_lst, evS, List.length_nil]
 ·obtain ⟨i, hi, rfl⟩ := List.mem_iff_getElem.mp ht
  exact (t3 i hi).1
theorem Ti.pln (t : Ti) : pln 1 t.D = true := rfl
theorem plns_ties (ts : List Ti) : plns 1 (ts.map Ti.D) = true := by
 rw [plns_all]
 intro d hd
 obtain ⟨t, _, rfl⟩ := List.mem_map.mp hd
 rfl
def stD (n : Int) (s : Int × Int) (ts : List Ti) : D := .tup [.int n, .tup [.int s.1, .int s.2], .tup (ts.map Ti.D)]
def tiesOk (ts : List Ti) : Prop := ts.length ≤ 6 ∧ (∀ t ∈ ts, t.ok) ∧ (ts.map Ti.w).Nodup
theorem e_stand (n c : Int) : ∃ (s : Int × Int) (ts : List Ti), (∀ h, S 14 21 [.int n, .int c] h = .ok (stD n s ts) h) ∧ tiesOk ts ∧ (0 ≤ s.1 ∧ s.1 ≤ 2000000000000) ∧ (0 ≤ s.2 ∧ s.2 ≤ 2000000000000) := by
 obtain ⟨ts, ⟨h', q⟩, t1, t2, t3⟩ := e_ties (c / 3) 10
 have qp : ∀ h, pureC (S 13 20) [.int (c / 3)] h = .ok (.tup (ts.map Ti.D)) h := fun h => pure_pln (n := 1) (m := 2) rfl q (plns_ties ts)
 exact ⟨(share (mixed c 50 * 977 + 3), share (mixed c 51 * 983 + mixed c 52)), ts, fun h => by
  rw [q21]
  simp_all! only [1, b21, e_mixed, e_share, qp]
  rfl, ⟨t1, t2, t3⟩, share_b _, share_b _⟩
theorem e_inb {n : Nat} (k : Nat) (d : D) (m : Int) (h : Hh) (c : pln n d = true) : S (k + 1) 0 [d, .int m] h = .ok (.bl (inB m d)) h := by
 rw [q0]
 cases d with
 | int i =>
  simp_all! only [2, b0, is_int_int, is_bl_int, Bool.not_false, inB]
  by_cases c1 : 0 ≤ i
  ·simp only [c1, decide_true, if_true, Bool.true_and] <;> rfl
  ·simp only [c1, decide_false, if_false, Bool.false_and, Bool.false_eq_true] <;> rfl
 | bl b => simp_all! only [2, b0, is_int_bl, is_bl_bl, Bool.not_true, inB]
 | non => simp_all! only [2, b0, is_int_non, inB]
 | str x => simp_all! only [2, b0, is_int_str, inB]
 | tup l => simp_all! only [2, b0, is_int_tup, inB]
 | lst l => simp_all! only [2, b0, is_int_lst, inB]
 | dct l => unfold pln at c; cases c
 | ins _ _ => unfold pln at c; cases c
 | ref _ => unfold pln at c; cases c
 | scr _ => unfold pln at c; cases c
theorem e_istie {n : Nat} (k : Nat) (d : D) (h : Hh) (c : pln n d = true) : S (k + 2) 1 [d] h = .ok (.bl (tieB d)) h := by
 rw [q1]
 cases d with
 | int i => simp_all! only [2, b1, is_tup_int, tieB, Bool.not_false]
 | bl b => simp_all! only [2, b1, is_tup_bl, tieB, Bool.not_false]
 | non => simp_all! only [2, b1, is_tup_non, tieB, Bool.not_false]
 | str x => simp_all! only [2, b1, is_tup_str, tieB, Bool.not_false]
 | lst l => simp_all! only [2, b1, is_tup_lst, tieB, Bool.not_false]
 | dct l => unfold pln at c; cases c
 | ins _ _ => unfold pln at c; cases c
 | ref _ => unfold pln at c; cases c
 | scr _ => unfold pln at c; cases c
 | tup l =>
  cases n with
  | zero => unfold pln at c; cases c
  | succ n =>
   rw [pln_tup] at c
   have ne : ¬ l.length = 4 → S (k + 2) 1 [.tup l] h = .ok (.bl false) h := fun hl => by
    have hl2 : ¬ (l.length : Int) = 4 := by omega
    rw [q1]
    simp_all! only [2, b1, is_tup_tup, Bool.not_true, hl2] <;> rfl
   rw [← q1]
   rcases l with _ | ⟨p, _ | ⟨a, _ | ⟨w, _ | ⟨y, _ | ⟨z, l⟩⟩⟩⟩⟩
   ·exact ne (by simp)
   ·exact ne (by simp)
   ·exact ne (by simp)
   ·exact ne (by simp)
   ·simp only [plns, Bool.and_eq_true] at c
    obtain ⟨c1, c2, c3, c4, _⟩ := c
    rw [q1]
    have i1 := fun k h => e_inb k p 1 h c1
    have i2 := fun k h => e_inb k a 1000000000000 h c2
    have i3 := fun k h => e_inb k w 59 h c3
    have i4 := fun k h => e_inb k y 1000000 h c4
    by_cases z1 : inB 1 p = true
    ·by_cases z2 : inB 1000000000000 a = true
     ·obtain ⟨i, rfl, i5, i6⟩ := inB_int z2
      by_cases z3 : i < 1
      ·have e0 : i = 0 := by omega
       subst e0
       simp_all! only [2, b1, is_tup_tup, Bool.not_true, i1, i2, i3, i4, z1, z2, z3]
       show _ = R.ok (D.bl (inB 1 p && (inB 1000000000000 (.int 0) && (false && (inB 59 w && inB 1000000 y))))) h
       rw [z1, z2]; rfl
      ·have e0 : inB 0 (.int i) = false := by
        simp only [inB, Bool.and_eq_false_iff, decide_eq_false_iff_not]
        omega
       simp_all! only [2, b1, is_tup_tup, Bool.not_true, i1, i2, i3, i4, z1, z2, z3, tieB, e0, Bool.true_and, Bool.not_false]
       cases inB 59 w <;> rfl
     ·have z2' : inB 1000000000000 a = false := by simpa using z2
      simp_all! only [2, b1, is_tup_tup, Bool.not_true, i1, i2, i3, i4, z1, z2', tieB] <;> rfl
    ·have z1' : inB 1 p = false := by simpa using z1
     simp_all! only [2, b1, is_tup_tup, Bool.not_true, i1, i2, i3, i4, z1', tieB] <;> rfl
   ·rw [ne (by simp)]
    rfl
theorem e_shares {n : Nat} (k : Nat) (d : D) (h : Hh) (c : pln n d = true) : S (k + 2) 2 [d] h = .ok (.bl (sharesB d)) h := by
 rw [q2]
 cases d with
 | int i => simp_all! only [2, b2, is_tup_int, sharesB]
 | bl b => simp_all! only [2, b2, is_tup_bl, sharesB]
 | non => simp_all! only [2, b2, is_tup_non, sharesB]
 | str x => simp_all! only [2, b2, is_tup_str, sharesB]
 | lst l => simp_all! only [2, b2, is_tup_lst, sharesB]
 | dct l => unfold pln at c; cases c
 | ins _ _ => unfold pln at c; cases c
 | ref _ => unfold pln at c; cases c
 | scr _ => unfold pln at c; cases c
 | tup l =>
  cases n with
  | zero => unfold pln at c; cases c
  | succ n =>
   rw [pln_tup] at c
   have ne : ¬ l.length = 2 → S (k + 2) 2 [.tup l] h = .ok (.bl false) h := fun hl => by
    have hl2 : ¬ (l.length : Int) = 2 := by omega
    rw [q2]
    simp_all! only [2, b2, is_tup_tup, hl2] <;> rfl
   rw [← q2]
   rcases l with _ | ⟨a, _ | ⟨b, _ | ⟨z, l⟩⟩⟩
   ·exact ne (by simp)
   ·exact ne (by simp)
   ·simp only [plns, Bool.and_eq_true] at c
    obtain ⟨c1, c2, _⟩ := c
    have i1 := fun h => e_inb k a 2000000000000 h c1
    have i2 := fun h => e_inb k b 2000000000000 h c2
    have ec : dComp (iSeq (dVar 0)) (.nm 1) bYes (evE (M (k + 1)) none x2_0) [1] [some (.tup [a, b]), none] h = .ok (.lst ([a, b].map fun d => .bl (inB 2000000000000 d))) h :=
     comp_one (d := .tup [a, b]) (l := [a, b]) (α := Int) rfl rfl (by simp) fun d hd => by
      rcases List.mem_cons.mp hd with rfl | hd
      ·simp_all! only [2, x2_0, wipeE, i1]
      ·obtain rfl := List.mem_singleton.mp hd
       simp_all! only [2, x2_0, wipeE, i2]
    rw [q2]
    simp_all! only [2, b2, is_tup_tup, ec, evS, all_map]
    show R.ok (D.bl ((inB 2000000000000 a && (inB 2000000000000 b && true)))) h = _
    rw [Bool.and_true]; rfl
   ·rw [ne (by simp)]
    rfl
theorem e_areties {n : Nat} (k : Nat) (d : D) (h : Hh) (c : pln n d = true) : S (k + 3) 3 [d] h = .ok (.bl (tiesB d)) h := by
 rw [q3]
 cases d with
 | int i => simp_all! only [2, b3, is_tup_int, tiesB]
 | bl b => simp_all! only [2, b3, is_tup_bl, tiesB]
 | non => simp_all! only [2, b3, is_tup_non, tiesB]
 | str x => simp_all! only [2, b3, is_tup_str, tiesB]
 | lst l => simp_all! only [2, b3, is_tup_lst, tiesB]
 | dct l => unfold pln at c; cases c
 | ins _ _ => unfold pln at c; cases c
 | ref _ => unfold pln at c; cases c
 | scr _ => unfold pln at c; cases c
 | tup l =>
  cases n with
  | zero => unfold pln at c; cases c
  | succ n =>
   rw [pln_tup] at c
   by_cases hl : l.length ≤ 6
   ·have hl2 : ¬ (6 : Int) < l.length := by omega
    have e1 : dComp (iSeq (dVar 0)) (.nm 2) bYes (evE (M (k + 2)) none x3_2) [2] [some (.tup l), none, none, none] h = .ok (.lst (l.map fun d => .bl (tieB d))) h :=
     comp_one (d := .tup l) (l := l) (α := Int) rfl rfl (by omega) fun d hd => by
      have i1 := e_istie k d h (plns_all.mp c d hd)
      simp_all! only [2, x3_2, wipeE, i1]
    by_cases ha : l.all tieB = true
    ·have e2 : dComp (iSeq (dVar 0)) (.nm 2) bYes (evE (M (k + 2)) none x3_1) [2] [some (.tup l), none, none, none] h = .ok (.lst (l.map fun d => .int (wordI d))) h :=
      comp_one (d := .tup l) (l := l) (α := Int) rfl rfl (by omega) fun d hd => by
       obtain ⟨p, a, w, y, rfl, _⟩ := tieB_at (List.all_eq_true.mp ha d hd)
       simp_all! only [2, x3_1, wipeE]
       rfl
     have em : (l.map fun d => D.int (wordI d)) = (l.map wordI).map D.int := by rw [List.map_map]; rfl
     rw [em] at e2
     have e3 : dComp (iSeq (dVar 1)) (.nm 3) bYes (evE (M (k + 2)) none x3_0) [3] [some (.tup l), some (.lst ((l.map wordI).map D.int)), none, none] h = .ok (.lst ((l.map wordI).map fun w => .bl (decide ((l.map wordI).count w = 1)))) h :=
      comp_map (d := .lst ((l.map wordI).map D.int)) (l := l.map wordI) (φ := D.int) rfl rfl (by rw [List.length_map]; omega) fun w hw => by
       have ec : ∀ h, cLst h (.lst ((l.map wordI).map D.int)) = true := fun h => rfl
       have en : (((l.map wordI).count w : Nat) : Int) = 1 ↔ (l.map wordI).count w = 1 := by omega
       simp_all! only [2, x3_0, wipeE, count_lst, ec]
       rw [decide_eq_decide.mpr en]
     simp_all! only [2, b3, is_tup_tup, hl2, e1, e2, e3, evS, all_map, ha]
     rw [show tiesB (.tup l) = (decide (l.length ≤ 6) && (l.all tieB && (l.map wordI).all fun w => decide ((l.map wordI).count w = 1))) from rfl]
     rw [decide_eq_true hl, ha]; rfl
    ·have ha' : l.all tieB = false := by simpa using ha
     simp_all! only [2, b3, is_tup_tup, hl2, e1, evS, all_map, ha']
     rw [show tiesB (.tup l) = (decide (l.length ≤ 6) && (l.all tieB && (l.map wordI).all fun w => decide ((l.map wordI).count w = 1))) from rfl]
     rw [ha']
     cases decide (l.length ≤ 6) <;> rfl
   ·have hl2 : (6 : Int) < l.length := by omega
    simp_all! only [2, b3, is_tup_tup, hl2]
    rw [show tiesB (.tup l) = (decide (l.length ≤ 6) && (l.all tieB && (l.map wordI).all fun w => decide ((l.map wordI).count w = 1))) from rfl]
    rw [decide_eq_false hl]; rfl
theorem e_isstand {n : Nat} (k : Nat) (d : D) (h : Hh) (c : pln n d = true) : S (k + 4) 4 [d] h = .ok (.bl (standB d)) h := by
 rw [q4]
 cases d with
 | int i => simp_all! only [2, b4, is_tup_int, standB]
 | bl b => simp_all! only [2, b4, is_tup_bl, standB]
 | non => simp_all! only [2, b4, is_tup_non, standB]
 | str x => simp_all! only [2, b4, is_tup_str, standB]
 | lst l => simp_all! only [2, b4, is_tup_lst, standB]
 | dct l => unfold pln at c; cases c
 | ins _ _ => unfold pln at c; cases c
 | ref _ => unfold pln at c; cases c
 | scr _ => unfold pln at c; cases c
 | tup l =>
  cases n with
  | zero => unfold pln at c; cases c
  | succ n =>
   rw [pln_tup] at c
   have ne : ¬ l.length = 3 → S (k + 4) 4 [.tup l] h = .ok (.bl false) h := fun hl => by
    have hl2 : ¬ (l.length : Int) = 3 := by omega
    rw [q4]
    simp_all! only [2, b4, is_tup_tup, hl2] <;> rfl
   rw [← q4]
   rcases l with _ | ⟨a, _ | ⟨s, _ | ⟨t, _ | ⟨z, l⟩⟩⟩⟩
   ·exact ne (by simp)
   ·exact ne (by simp)
   ·exact ne (by simp)
   ·simp only [plns, Bool.and_eq_true] at c
    obtain ⟨c1, c2, c3, _⟩ := c
    have i1 := fun h => e_inb (k + 2) a 1000000 h c1
    have i2 := fun h => e_shares (k + 1) s h c2
    have i3 := fun h => e_areties k t h c3
    rw [q4]
    simp_all! only [2, b4, is_tup_tup, i1, i2, i3, standB]
    cases inB 1000000 a <;> cases sharesB s <;> rfl
   ·rw [ne (by simp)]
    rfl
theorem e_stand3 {n : Nat} (k : Nat) (a s t : D) (h : Hh) (c : plns n [a, s, t] = true) (ht : isNon t = false) : S (k + 5) 5 [a, s, t] h = if standB (.tup [a, s, t]) = true then .ok (.tup [a, s, t]) h else .exc 1 [] h := by
 have i1 := fun h => e_isstand (n := n + 1) k (.tup [a, s, t]) h c
 rw [q5]
 simp_all! only [2, b5, i1, ht]
 cases standB (.tup [a, s, t]) <;> rfl
instance : DecidablePred Ti.ok := fun t => by unfold Ti.ok; infer_instance
instance : DecidablePred tiesOk := fun t => by unfold tiesOk; infer_instance
theorem tieB_D (t : Ti) : tieB t.D = decide t.ok := by
 rw [show tieB t.D = (inB 1 (.int t.p) && (inB 1000000000000 (.int t.a) && (!inB 0 (.int t.a) && (inB 59 (.int t.w) && inB 1000000 (.int t.d))))) from rfl]
 rw [Bool.eq_iff_iff]
 simp only [inB, Bool.and_eq_true, Bool.not_eq_true', decide_eq_true_eq, Bool.and_eq_false_iff, decide_eq_false_iff_not]
 unfold Ti.ok
 omega
theorem tiesB_D (ts : List Ti) : tiesB (.tup (ts.map Ti.D)) = decide (tiesOk ts) := by
 rw [show tiesB (.tup (ts.map Ti.D)) = (decide ((ts.map Ti.D).length ≤ 6) && ((ts.map Ti.D).all tieB && ((ts.map Ti.D).map wordI).all fun w => decide (((ts.map Ti.D).map wordI).count w = 1))) from rfl]
 have e1 : (ts.map Ti.D).map wordI = ts.map Ti.w := by rw [List.map_map]; rfl
 rw [e1, Bool.eq_iff_iff]
 simp only [Bool.and_eq_true, decide_eq_true_eq, List.all_eq_true, List.length_map, List.mem_map, forall_exists_index, and_imp, forall_apply_eq_imp_iff₂, tieB_D]
 unfold tiesOk
 refine and_congr Iff.rfl (and_congr Iff.rfl ?_)
 rw [List.nodup_iff_count]
 constructor
 ·intro h a
  by_cases c : a ∈ ts.map Ti.w
  ·obtain ⟨t, ht, rfl⟩ := List.mem_map.mp c
   have := h t ht
   omega
  ·rw [List.count_eq_zero_of_not_mem c]; omega
 ·intro h t ht
  have h1 := h t.w
  have h2 : 0 < (ts.map Ti.w).count t.w := List.count_pos_iff.mpr (List.mem_map.mpr ⟨t, ht, rfl⟩)
  omega
def standOk (n : Int) (s : Int × Int) (ts : List Ti) : Prop := (0 ≤ n ∧ n ≤ 1000000) ∧ ((0 ≤ s.1 ∧ s.1 ≤ 2000000000000) ∧ (0 ≤ s.2 ∧ s.2 ≤ 2000000000000)) ∧ tiesOk ts
instance (n : Int) (s : Int × Int) (ts : List Ti) : Decidable (standOk n s ts) := by unfold standOk; infer_instance
theorem standB_D (n : Int) (s : Int × Int) (ts : List Ti) : standB (stD n s ts) = decide (standOk n s ts) := by
 rw [show standB (stD n s ts) = (inB 1000000 (.int n) && ((inB 2000000000000 (.int s.1) && inB 2000000000000 (.int s.2)) && tiesB (.tup (ts.map Ti.D)))) from rfl, tiesB_D, Bool.eq_iff_iff]
 simp only [inB, Bool.and_eq_true, decide_eq_true_eq]
 rfl
theorem pln_st (n : Int) (s : Int × Int) (ts : List Ti) (m : Nat) : pln (m + 3) (stD n s ts) = true := by
 show (true && ((true && (true && true)) && (plns (m + 1) (ts.map Ti.D) && true))) = true
 rw [plns_mono (by omega) (plns_ties ts)]; rfl
theorem e_standD (k : Nat) (n : Int) (s : Int × Int) (ts : List Ti) (h : Hh) : S (k + 5) 5 [.int n, .tup [.int s.1, .int s.2], .tup (ts.map Ti.D)] h = if standOk n s ts then .ok (stD n s ts) h else .exc 1 [] h := by
 have z := e_stand3 (n := 2) k (.int n) (.tup [.int s.1, .int s.2]) (.tup (ts.map Ti.D)) h (by
  show (true && ((true && (true && true)) && (plns 1 (ts.map Ti.D) && true))) = true
  rw [plns_ties ts]; rfl) rfl
 rw [z, show standB (.tup [.int n, .tup [.int s.1, .int s.2], .tup (ts.map Ti.D)]) = standB (stD n s ts) from rfl, standB_D]
 simp only [decide_eq_true_eq]
 rfl
theorem tup_no {n : Nat} {d : D} (c : pln n d = true) (h : ∀ l, d ≠ .tup l) (hh : Hh) : isiD .tup hh d = some (.bl false) := by
 cases d with
 | tup l => exact absurd rfl (h l)
 | ins _ _ => unfold pln at c; cases c
 | ref _ => unfold pln at c; cases c
 | scr _ => unfold pln at c; cases c
 | _ => rfl
def madeB : D → Bool
 | .tup [a, b, c, e] => inB 2 b && (inB 1 c && (if eqB a (.str "strike") = true then inB 1000000 e else eqB a (.str "agree") && standB e))
 | _ => false
def thingB : D → Bool
 | .tup [a, b] => eqB a (.str "word") && inB 59 b
 | d => madeB d
theorem made_no {d : D} (h : ∀ l, d ≠ .tup l) : madeB d = false := by
 cases d with
 | tup l => exact absurd rfl (h l)
 | _ => rfl
theorem thing_no {d : D} (h : ∀ l, d ≠ .tup l) : thingB d = false := by
 cases d with
 | tup l => exact absurd rfl (h l)
 | _ => rfl
theorem made_len {l : List D} (h : l.length ≠ 4) : madeB (.tup l) = false := by
 rcases l with _ | ⟨p, _ | ⟨a, _ | ⟨w, _ | ⟨y, _ | ⟨z, l⟩⟩⟩⟩⟩ <;> first | rfl | (exact absurd rfl h)
theorem thing_len {l : List D} (h : l.length ≠ 2) : thingB (.tup l) = madeB (.tup l) := by
 rcases l with _ | ⟨p, _ | ⟨a, _ | ⟨w, l⟩⟩⟩ <;> first | rfl | (exact absurd rfl h)
def PlD (d : D) : Prop := pln 6 d = true ∨ d = .dct []
theorem tup_noD {d : D} (c : PlD d) (h : ∀ l, d ≠ .tup l) (hh : Hh) : isiD .tup hh d = some (.bl false) := by
 rcases c with c | rfl
 ·exact tup_no c h hh
 ·rfl
theorem e_ismade (k : Nat) (d : D) (h : Hh) (c : PlD d) : S (k + 5) 6 [d] h = .ok (.bl (madeB d)) h := by
 rw [q6]
 by_cases hd : ∃ l, d = .tup l
 rotate_left
 ·have hn : ∀ l, d ≠ .tup l := fun l e => hd ⟨l, e⟩
  have e1 := fun h => tup_noD c hn h
  rw [made_no hn]
  simp_all! only [2, b6, e1] <;> rfl
 obtain ⟨l, rfl⟩ := hd
 have c : pln 6 (.tup l) = true := by
  rcases c with c | c
  ·exact c
  ·cases c
 rw [pln_tup] at c
 by_cases hl : l.length = 4
 rotate_left
 ·have hl2 : ¬ (l.length : Int) = 4 := by omega
  rw [made_len hl]
  simp_all! only [2, b6, is_tup_tup, hl2] <;> rfl
 obtain ⟨a, b, w, e, rfl⟩ : ∃ a b w e, l = [a, b, w, e] := by
  rcases l with _ | ⟨p, _ | ⟨a, _ | ⟨w, _ | ⟨y, _ | ⟨z, l⟩⟩⟩⟩⟩ <;> first | exact ⟨_, _, _, _, rfl⟩ | (simp at hl)
 simp only [plns, Bool.and_eq_true] at c
 obtain ⟨ca, cb, cw, ce, _⟩ := c
 have i1 := fun h => e_inb (k + 3) b 2 h cb
 have i2 := fun h => e_inb (k + 3) w 1 h cw
 have i3 := fun h => e_inb (k + 3) e 1000000 h ce
 have i4 := fun h => e_isstand k e h ce
 have q0 := fun (z : Str) (hz : PyData.strOk z = true) (h : Hh) => eq_pln (h := h) (pln_mono (m := 64) (by omega) ca) (show pln 64 (.str z) = true from hz)
 have q1 := q0 "strike" (by decide +kernel)
 have q2 := q0 "agree" (by decide +kernel)
 have q3 := q0 "word" (by decide +kernel)
 rw [show madeB (.tup [a, b, w, e]) = (inB 2 b && (inB 1 w && (if eqB a (.str "strike") = true then inB 1000000 e else eqB a (.str "agree") && standB e))) from rfl]
 by_cases z1 : inB 2 b = true
 rotate_left
 ·have z1' : inB 2 b = false := by simpa using z1
  rw [z1']
  simp_all! only [2, b6, is_tup_tup, i1, z1'] <;> rfl
 by_cases z2 : inB 1 w = true
 rotate_left
 ·have z2' : inB 1 w = false := by simpa using z2
  rw [z2', z1]
  simp_all! only [2, b6, is_tup_tup, i1, z1, i2, z2'] <;> rfl
 rw [z1, z2, Bool.true_and, Bool.true_and]
 by_cases z3 : eqB a (.str "strike") = true
 ·rw [if_pos z3]
  simp_all! only [2, b6, is_tup_tup, i1, z1, i2, z2, q1, q2, q3, z3, i3] <;> rfl
 ·rw [if_neg z3]
  by_cases z4 : eqB a (.str "agree") = true
  ·simp_all! only [2, b6, is_tup_tup, i1, z1, i2, z2, q1, q2, q3, z3, z4, i4, Bool.true_and] <;> rfl
  ·have z4' : eqB a (.str "agree") = false := by simpa using z4
   simp_all! only [2, b6, is_tup_tup, i1, z1, i2, z2, q1, q2, q3, z3, z4', i4, Bool.false_and] <;> rfl
theorem e_isthing (k : Nat) (d : D) (h : Hh) (c : PlD d) : S (k + 6) 7 [d] h = .ok (.bl (thingB d)) h := by
 have i0 := fun h => e_ismade k d h c
 rw [q7]
 by_cases hd : ∃ l, d = .tup l
 rotate_left
 ·have hn : ∀ l, d ≠ .tup l := fun l e => hd ⟨l, e⟩
  have e1 := fun h => tup_noD c hn h
  rw [thing_no hn]
  rw [made_no hn] at i0
  simp_all! only [2, b7, e1, i0] <;> rfl
 obtain ⟨l, rfl⟩ := hd
 have c : pln 6 (.tup l) = true := by
  rcases c with c | c
  ·exact c
  ·cases c
 rw [pln_tup] at c
 by_cases hl : l.length = 2
 rotate_left
 ·have hl2 : ¬ (l.length : Int) = 2 := by omega
  rw [thing_len hl]
  simp_all! only [2, b7, is_tup_tup, hl2, i0] <;> rfl
 obtain ⟨a, b, rfl⟩ : ∃ a b, l = [a, b] := by
  rcases l with _ | ⟨p, _ | ⟨a, _ | ⟨w, l⟩⟩⟩ <;> first | exact ⟨_, _, rfl⟩ | (simp at hl)
 simp only [plns, Bool.and_eq_true] at c
 obtain ⟨ca, cb, _⟩ := c
 have i1 := fun h => e_inb (k + 4) b 59 h cb
 have q0 := fun (z : Str) (hz : PyData.strOk z = true) (h : Hh) => eq_pln (h := h) (pln_mono (m := 64) (by omega) ca) (show pln 64 (.str z) = true from hz)
 have q1 := q0 "strike" (by decide +kernel)
 have q2 := q0 "agree" (by decide +kernel)
 have q3 := q0 "word" (by decide +kernel)
 rw [show thingB (.tup [a, b]) = (eqB a (.str "word") && inB 59 b) from rfl]
 by_cases z3 : eqB a (.str "word") = true
 ·rw [z3, Bool.true_and]
  simp_all! only [2, b7, is_tup_tup, q1, q2, q3, z3, i1] <;> rfl
 ·have z3' : eqB a (.str "word") = false := by simpa using z3
  rw [z3', Bool.false_and]
  rw [show madeB (.tup [a, b]) = false from rfl] at i0
  simp_all! only [2, b7, is_tup_tup, q1, q2, q3, z3', i0] <;> rfl
def num (i : Int) : Str := Str.ofString (toString i)
def Nb (i : Int) : Prop := 0 ≤ i ∧ i < 1000000000000000000000000000000
theorem ten30 : (10 : Nat) ^ 30 = 1000000000000000000000000000000 := by decide +kernel
theorem tl_num {i : Int} (h : 0 ≤ i) : TL.tl (num i) = TL.numL i.toNat := by
 obtain ⟨n, rfl⟩ := Int.eq_ofNat_of_zero_le h
 exact TL.tl_num n
theorem num_len {i : Int} (b : Nb i) : 1 ≤ (num i).length ∧ (num i).length ≤ 30 := by
 rw [TL.len_tl, tl_num b.1]
 refine ⟨?_, TL.numL_len (by omega) ?_⟩
 ·have := List.length_pos_iff.mpr (TL.numL_ne i.toNat)
  omega
 ·rw [ten30]
  have := b.2
  omega
theorem lg {i : Int} (b : Nb i) : i.natAbs.log2 < 1920 := by
 by_cases c : i.natAbs = 0
 ·rw [c]; decide
 ·have big : (1000000000000000000000000000000 : Nat) < 2 ^ 1920 := by decide +kernel
  have := b.1
  have := b.2
  exact (Nat.log2_lt c).mpr (by omega)
theorem b_str {i : Int} (b : Nb i) (h : Hh) : bStr h [.int i] = some (.str (num i)) := by
 show (if i.natAbs.log2 < 1920 then some (D.str (Str.ofString (toString i))) else none) = _
 rw [if_pos (lg b)]; rfl
theorem num_sign {i : Int} (h : 0 ≤ i) : ∀ c ∈ TL.tl (num i), 48 ≤ c ∧ c ≤ 57 := fun c hc => by
 rw [tl_num h] at hc
 exact TL.numL_digits _ c hc
theorem num_free {i : Int} (h : 0 ≤ i) {s : Nat} (hs : s < 48) : s ∉ TL.tl (num i) := fun hc => by
 have := num_sign h s hc
 omega
theorem strOk_of {x : Str} (h : ∀ c ∈ TL.tl x, c < 1114112) : PyData.strOk x = true := by
 unfold PyData.strOk
 rw [← Array.all_toList, List.all_eq_true]
 exact fun c hc => decide_eq_true (h c hc)
theorem numL_head (n : Nat) : ∃ c r, TL.numL n = c :: r ∧ (c = 48 → n = 0) := by
 induction n using Nat.strongRecOn with
 | _ n ih =>
  by_cases h : n < 10
  ·rw [TL.numL_lt h]
   exact ⟨_, _, rfl, fun z => by omega⟩
  ·rw [TL.numL_step (by omega)]
   obtain ⟨c, r, e, z⟩ := ih (n / 10) (by omega)
   rw [e]
   exact ⟨c, r ++ [48 + n % 10], rfl, fun q => by have := z q; omega⟩
theorem bLen_str {s : Str} (hl : s.length ≤ 16777216) (h : Hh) : bLen h [.str s] = some (.int s.length) := by
 show (if fits s.length = true then some (D.int s.length) else none) = _
 rw [if_pos (show fits s.length = true from decide_eq_true hl)]
theorem b_int {i : Int} (b : Nb i) (h : Hh) : bInt h [.str (num i)] = some (.int i) := by
 have l := num_len b
 obtain ⟨n, rfl⟩ := Int.eq_ofNat_of_zero_le b.1
 show (if (num n).length ≤ 640 then (PySem.intText? (num n)).map D.int else none) = _
 rw [if_pos (by omega)]
 have z : PySem.intText? (num n) = some (n : Int) := TL.int_num (by
  have := l.2
  rw [TL.len_tl, tl_num b.1] at this
  exact Nat.le_trans this (by decide))
 rw [z]; rfl
theorem idx_str0 {s : Str} {c : Nat} {r : List Nat} (e : TL.tl s = c :: r) (hl : s.length ≤ 16777216) (h : Hh) : opIdx h (.str s) (.int 0) = some (.str ⟨#[c]⟩) := by
 show (if fits s.length = true then (atI s.cps.toList 0).map (fun c => D.str ⟨#[c]⟩) else none) = _
 rw [if_pos (show fits s.length = true from decide_eq_true hl), show s.cps.toList = c :: r from e, show L2.atI (c :: r) 0 = some c from by unfold L2.atI ixN; rw [if_pos (Int.le_refl _), if_pos (by rw [List.length_cons]; omega)]; rfl]
 rfl
theorem in_sign (s : Str) (c : Nat) (h : Hh) : cmpD .In h (.str ⟨#[c]⟩) (.str s) = some (.bl (decide (c ∈ TL.tl s))) := by
 show (inD h (.str ⟨#[c]⟩) (.str s)).map D.bl = _
 show (some (!(Builtin.Str.occurrences s ⟨#[c]⟩ 0 s.length 1).isEmpty)).map D.bl = _
 rw [PySem.StrLaws.found_one s c]; rfl
theorem figs : ∀ c, c < 58 → 48 ≤ c → decide (c ∈ TL.tl ("0123456789" : Str)) = true := by decide +kernel
def compT (d : D) (g : Tg) (t : F Bool) (f : F D) (vs : List Nat) (e : En) (h : Hh) : Sb.R D := dComp (iTxt (dC d)) g t f vs e h
theorem comp_txtE (fs : F D) (g : Tg) (t : F Bool) (f : F D) (vs : List Nat) (e : En) (h : Hh) : dComp (iTxt fs) g t f vs e h = (fs e h).bind fun d h1 => compT d g t f vs e h1 := by
 unfold compT dComp iTxt
 cases fs e h with
 | ok d h1 => rw [rb_ok, rb_ok]; rfl
 | exc _ _ _ => rfl
 | fail => rfl
def sgD (c : Nat) : D := .str ⟨#[c]⟩
theorem compT_str {s : Str} (hf : s.length ≤ 16777216) (g : Tg) (t : F Bool) (f : F D) (vs : List Nat) (e : En) (h : Hh) : compT (.str s) g t f vs e h = endC (compL g t f ((TL.tl s).map sgD) (wipeE e vs) h) := by
 have ha : ∀ (h : Hh) (i : Nat), txtAt s h i = some (((TL.tl s).map sgD)[i]?) := fun h i => by
  unfold txtAt
  rw [List.getElem?_map, Array.getElem?_toList]; rfl
 have hl : s.cps.size = ((TL.tl s).map sgD).length := by rw [List.length_map, Array.length_toList]
 unfold compT dComp iTxt
 rw [show dC (.str s) e h = .ok (.str s) h from rfl, rb_ok, rb_ok]
 dsimp only
 rw [if_pos (show fits s.cps.size = true from decide_eq_true hf), hl, compS_L ha ((TL.tl s).map sgD).length 0 _ h (Nat.zero_add _), List.drop_zero]
 cases compL g t f ((TL.tl s).map sgD) (wipeE e vs) h with
 | none => rfl
 | some z => rfl
theorem all_true (h : Hh) {α : Type} (l : List α) : bAll h [.lst (l.map fun _ => .bl true)] = some (.bl true) := by
 have z := all_map (h := h) (f := fun _ : α => true) (l := l)
 rw [z]
 congr 2
 exact List.all_eq_true.mpr fun _ _ => rfl
theorem e_rnum (k : Nat) {i : Int} (b : Nb i) (h : Hh) : S (k + 1) 8 [.str (num i)] h = .ok (.int i) h := by
 obtain ⟨l1, l2⟩ := num_len b
 have is : ∀ h, isiD .str h (.str (num i)) = some (.bl true) := fun h => rfl
 have ln := bLen_str (s := num i) (by omega)
 have bi := b_int b
 obtain ⟨c, r, e, z⟩ := numL_head i.toNat
 have e1 : TL.tl (num i) = c :: r := by rw [tl_num b.1]; exact e
 have i0 := idx_str0 e1 (by omega)
 have cm : compL (.nm 1) bYes (evE (M k) none x8_0) ((TL.tl (num i)).map sgD) [some (.str (num i)), none] h = some ((TL.tl (num i)).map fun _ => .bl true, h) := compL_ints (φ := sgD) (ψ := fun _ => .bl true) fun a ha => by
  have s := num_sign b.1 a ha
  have inn := fun h => in_sign ("0123456789" : Str) a h
  rw [figs a (by omega) s.1] at inn
  refine ⟨[some (.str (num i)), some (sgD a)], rfl, rfl, ?_⟩
  unfold sgD
  generalize num i = nD at *
  simp_all! only [1, x8_0, inn]
 have cT := compT_str (s := num i) (by omega) (.nm 1) bYes (evE (M k) none x8_0) [1] [some (.str (num i)), none] h
 rw [show wipeE [some (D.str (num i)), none] [1] = [some (D.str (num i)), none] from rfl, cm] at cT
 have al := all_true h (TL.tl (num i))
 have q1 : ¬ ((num i).length : Int) < 1 := by omega
 have q2 : ¬ ((num i).length : Int) > 30 := by omega
 have q2' : ¬ (30 : Int) < ((num i).length : Int) := by omega
 have eq0 : ∀ h, cmpD .Eq h (.str ⟨#[c]⟩) (.str "0") = some (.bl (decide (c = 48))) := fun h => by
  have c57 := num_sign b.1 c (by rw [e1]; exact List.mem_cons_self)
  rw [eq_pln (pln_str (strOk_of fun d hd => by
   have : d = c := by simpa [TL.tl] using hd
   omega)) (by simp only [pln_non, pln_bl, pln_int, pln_str, pln_tupp, pln_lstt, plns_nil, plns_cons, Nat.reduceSub, Bool.and_true, Bool.true_and, Bool.and_self, Nat.reduceLT, Nat.zero_lt_succ, so0, so1, so2, so3, so4, so5, so6, so7, so8, so9, so10, so11, so12, so13, so14])]
  show some (D.bl (decide ((⟨#[c]⟩ : Str) = "0"))) = _
  congr 2
  rw [decide_eq_decide, show ("0" : Str) = ⟨#[48]⟩ by decide +kernel]
  constructor
  ·intro q
   have := congrArg TL.tl q
   simpa [TL.tl] using this
  ·intro q; rw [q]
 rw [q8]
 generalize (TL.tl (num i)).map (fun _ => D.bl true) = L at *
 by_cases c0 : c = 48
 ·have i00 : i = 0 := by have := z c0; have := b.1; omega
  have q3 : ¬ (1 : Int) < ((num i).length : Int) := by
   rw [i00]; decide +kernel
  have q3' : ¬ ((num i).length : Int) > 1 := q3
  simp only [decide_eq_true c0] at eq0
  generalize ((num i).length : Int) = n at *
  generalize num i = nD at *
  simp_all! only [1, b8, is, ln, q1, q2, q2', gt_iff_lt, comp_txtE, cT, endC, al, i0, eq0, q3, q3', bi]
 ·simp only [decide_eq_false c0] at eq0
  generalize ((num i).length : Int) = n at *
  generalize num i = nD at *
  simp_all! only [1, b8, is, ln, q1, q2, q2', gt_iff_lt, comp_txtE, cT, endC, al, i0, eq0, bi]
theorem e_rnums (k : Nat) (l : List Int) (hb : ∀ i ∈ l, Nb i) (hl : l.length ≤ 1000) (h : Hh) : S (k + 2) 9 [.lst (l.map fun i => .str (num i))] h = .ok (.lst (l.map .int)) h := by
 have cm : compL (.nm 1) bYes (evE (M (k + 1)) none x9_0) (l.map fun i => .str (num i)) [some (.lst (l.map fun i => .str (num i))), none] h = some (l.map .int, h) := compL_ints (φ := fun i => D.str (num i)) (ψ := D.int) fun i hi => by
  have r := e_rnum k (hb i hi)
  refine ⟨[some (.lst (l.map fun i => .str (num i))), some (.str (num i))], rfl, rfl, ?_⟩
  generalize l.map (fun i => D.str (num i)) = L at *
  generalize num i = nD at *
  simp_all! only [1, x9_0, r]
 have hL : (l.map fun i => D.str (num i)).length ≤ 16777216 := by rw [List.length_map]; omega
 rw [q9]
 generalize l.map (fun i => D.str (num i)) = L at *
 generalize l.map D.int = L2 at *
 simp_all! only [1, b9, hL, wipeE, cm, endC]
theorem tl_joinT (a : Str) (ys : List Str) : TL.tl (Txt.join a ys) = TL.joinL (TL.tl a) (ys.map TL.tl) := by rw [TL.join_eq, TL.tl_join]
theorem joinL_len (S : List Nat) {B : Nat} : ∀ ys : List (List Nat), (∀ y ∈ ys, y.length ≤ B) → (TL.joinL S ys).length ≤ ys.length * (B + S.length)
 | [], _ => Nat.zero_le _
 | [p], h => by
  show p.length ≤ 1 * (B + S.length)
  have := h p List.mem_cons_self
  omega
 | p :: q :: r, h => by
  have ih := joinL_len S (q :: r) fun y hy => h y (List.mem_cons_of_mem _ hy)
  have h1 := h p List.mem_cons_self
  show (p ++ (S ++ TL.joinL S (q :: r))).length ≤ ((q :: r).length + 1) * (B + S.length)
  rw [List.length_append, List.length_append, Nat.add_mul]
  omega
theorem joinL_mem {S : List Nat} {c : Nat} : ∀ {ys : List (List Nat)}, c ∈ TL.joinL S ys → c ∈ S ∨ ∃ y ∈ ys, c ∈ y
 | [], h => by cases h
 | [p], h => .inr ⟨p, List.mem_cons_self, h⟩
 | p :: q :: r, h => by
  have h : c ∈ p ++ (S ++ TL.joinL S (q :: r)) := h
  rcases List.mem_append.mp h with h | h
  ·exact .inr ⟨p, List.mem_cons_self, h⟩
  ·rcases List.mem_append.mp h with h | h
   ·exact .inl h
   ·rcases joinL_mem h with h | ⟨y, hy, h⟩
    ·exact .inl h
    ·exact .inr ⟨y, List.mem_cons_of_mem _ hy, h⟩
theorem joinL_snoc (S p : List Nat) : ∀ {ys : List (List Nat)}, ys ≠ [] → TL.joinL S (ys ++ [p]) = TL.joinL S ys ++ (S ++ p)
 | [], h => absurd rfl h
 | [q], _ => rfl
 | q :: z :: r, _ => by
  have ih := joinL_snoc S p (ys := z :: r) (by simp)
  show q ++ (S ++ TL.joinL S ((z :: r) ++ [p])) = (q ++ (S ++ TL.joinL S (z :: r))) ++ (S ++ p)
  rw [ih]
  simp only [List.append_assoc]
theorem join_mem {a : Str} {ys : List Str} {c : Nat} (h : c ∈ TL.tl (Txt.join a ys)) : c ∈ TL.tl a ∨ ∃ y ∈ ys, c ∈ TL.tl y := by
 rw [tl_joinT] at h
 rcases joinL_mem h with h | ⟨y, hy, h⟩
 ·exact .inl h
 ·obtain ⟨z, hz, rfl⟩ := List.mem_map.mp hy
  exact .inr ⟨z, hz, h⟩
theorem join_len {a : Str} (ha : a.length = 1) {B : Nat} {ys : List Str} (h : ∀ y ∈ ys, y.length ≤ B) : (Txt.join a ys).length ≤ ys.length * (B + 1) := by
 rw [TL.len_tl, tl_joinT]
 have z := joinL_len (TL.tl a) (B := B) (ys.map TL.tl) fun y hy => by
  obtain ⟨z, hz, rfl⟩ := List.mem_map.mp hy
  rw [← TL.len_tl]; exact h z hz
 rw [List.length_map, ← TL.len_tl, ha] at z
 exact z
theorem sum_le {B : Nat} : ∀ {ys : List Str}, (∀ y ∈ ys, y.length ≤ B) → (ys.map (·.length)).sum ≤ ys.length * B
 | [], _ => Nat.zero_le _
 | y :: ys, h => by
  have ih := sum_le (ys := ys) fun z hz => h z (List.mem_cons_of_mem _ hz)
  have h1 := h y List.mem_cons_self
  rw [List.map_cons, List.sum_cons, List.length_cons, Nat.add_mul]
  omega
theorem strsD_map : ∀ ys : List Str, strsD (ys.map .str) = some ys
 | [] => rfl
 | y :: ys => by
  show (strsD (ys.map .str)).map (y :: ·) = _
  rw [strsD_map ys]; rfl
theorem m_join {h : Hh} {d : D} {ys : List Str} {a : Str} (e : asL h d = some (ys.map .str)) (ha : a.length = 1) (hb : ∀ y ∈ ys, y.length ≤ 1000) (hl : ys.length ≤ 1000) : mJoin h (.str a) [d] = some (.str (Txt.join a ys), h) := by
 have z := sum_le hb
 have w : ys.length * 1000 ≤ 1000 * 1000 := Nat.mul_le_mul_right _ hl
 show (match (asL h d).bind strsD with
  | some ys => if (ys.map fun (y : Str) => y.length).sum + ys.length * a.length ≤ 16777216 then some (D.str (Txt.join a ys), h) else none
  | none => none) = _
 rw [e, Option.bind_some, strsD_map]
 dsimp only
 rw [if_pos (by rw [ha]; omega)]
theorem m_split {h : Hh} {a : Str} {s : Nat} (ea : TL.tl a = [s]) (hk : a.cps.all (· < 256) = true) {ys : List Str} (hne : ys ≠ []) (hp : ∀ y ∈ ys, s ∉ TL.tl y) (hb : ∀ y ∈ ys, y.length ≤ 1000) (hl : ys.length ≤ 1000) : mSplit h (.str (Txt.join a ys)) [.str a] = some (.lst (ys.map .str), h) := by
 have la : a.length = 1 := by rw [TL.len_tl, ea]; rfl
 have z := join_len la hb
 have w : ys.length * (1000 + 1) ≤ 1000 * (1000 + 1) := Nat.mul_le_mul_right _ hl
 show (if (a.length == 0) = false ∧ fits ((Txt.join a ys).length + 2) = true then some (D.lst ((Txt.split (Txt.join a ys) a).map .str), h) else none) = _
 rw [if_pos ⟨by rw [la]; rfl, decide_eq_true (by omega)⟩, TL.split_join ea hk hne hp]
theorem tl_sp : TL.tl (" " : Str) = [32] := by decide +kernel
theorem tl_sl : TL.tl ("/" : Str) = [47] := by decide +kernel
theorem k_sp : (" " : Str).cps.all (· < 256) = true := by decide +kernel
theorem k_sl : ("/" : Str).cps.all (· < 256) = true := by decide +kernel
theorem l_sp : (" " : Str).length = 1 := by decide +kernel
theorem l_sl : ("/" : Str).length = 1 := by decide +kernel
def tieN (t : Ti) : List Int := [t.p, t.a, t.w, t.d]
def tieT (t : Ti) : Str := Txt.join "/" ((tieN t).map num)
def wordsT (n : Int) (s : Int × Int) (ts : List Ti) : List Str := [n, s.1, s.2].map num ++ ts.map tieT
def standT (n : Int) (s : Int × Int) (ts : List Ti) : Str := Txt.join " " (wordsT n s ts)
theorem tieN_b {t : Ti} (o : t.ok) : ∀ i ∈ tieN t, Nb i := fun i hi => by
 obtain ⟨o1, o2, o3, o4⟩ := o
 simp only [tieN, List.mem_cons, List.not_mem_nil, or_false] at hi
 unfold Nb
 rcases hi with rfl | rfl | rfl | rfl <;> omega
theorem numN_len {l : List Int} (h : ∀ i ∈ l, Nb i) : ∀ y ∈ l.map num, y.length ≤ 30 := fun y hy => by
 obtain ⟨i, hi, rfl⟩ := List.mem_map.mp hy
 exact (num_len (h i hi)).2
theorem numN_free {l : List Int} (h : ∀ i ∈ l, Nb i) {c : Nat} (hc : c < 48) : ∀ y ∈ l.map num, c ∉ TL.tl y := fun y hy => by
 obtain ⟨i, hi, rfl⟩ := List.mem_map.mp hy
 exact num_free (h i hi).1 hc
theorem tieT_len {t : Ti} (o : t.ok) : (tieT t).length ≤ 124 := by
 have z := join_len l_sl (numN_len (tieN_b o))
 exact z
theorem tieT_sign {t : Ti} (o : t.ok) : ∀ c ∈ TL.tl (tieT t), c = 47 ∨ (48 ≤ c ∧ c ≤ 57) := fun c hc => by
 rcases join_mem hc with h | ⟨y, hy, h⟩
 ·rw [tl_sl] at h
  exact .inl (List.mem_singleton.mp h)
 ·obtain ⟨i, hi, rfl⟩ := List.mem_map.mp hy
  exact .inr (num_sign (tieN_b o i hi).1 c h)
structure Sb3 (n : Int) (s : Int × Int) (ts : List Ti) : Prop where
 n : Nb n
 a : Nb s.1
 b : Nb s.2
 l : ts.length ≤ 6
 t : ∀ t ∈ ts, t.ok
section
variable {n : Int} {s : Int × Int} {ts : List Ti}
theorem Sb3.h (B : Sb3 n s ts) : ∀ i ∈ [n, s.1, s.2], Nb i := fun i hi => by
 simp only [List.mem_cons, List.not_mem_nil, or_false] at hi
 rcases hi with rfl | rfl | rfl
 ·exact B.n
 ·exact B.a
 ·exact B.b
theorem words_len (B : Sb3 n s ts) : ∀ y ∈ wordsT n s ts, y.length ≤ 124 := fun y hy => by
 rcases List.mem_append.mp hy with hy | hy
 ·have := numN_len B.h y hy; omega
 ·obtain ⟨t, ht, rfl⟩ := List.mem_map.mp hy
  exact tieT_len (B.t t ht)
theorem words_sign (B : Sb3 n s ts) : ∀ y ∈ wordsT n s ts, ∀ c ∈ TL.tl y, c = 47 ∨ (48 ≤ c ∧ c ≤ 57) := fun y hy c hc => by
 rcases List.mem_append.mp hy with hy | hy
 ·obtain ⟨i, hi, rfl⟩ := List.mem_map.mp hy
  exact .inr (num_sign (B.h i hi).1 c hc)
 ·obtain ⟨t, ht, rfl⟩ := List.mem_map.mp hy
  exact tieT_sign (B.t t ht) c hc
theorem words_n (B : Sb3 n s ts) : (wordsT n s ts).length ≤ 9 := by
 unfold wordsT
 rw [List.length_append, List.length_map]
 have := B.l
 simp only [List.length_map, List.length_cons, List.length_nil]
 omega
theorem words_free (B : Sb3 n s ts) : ∀ y ∈ wordsT n s ts, 32 ∉ TL.tl y := fun y hy hc => by
 have := words_sign B y hy 32 hc
 omega
theorem standT_sign (B : Sb3 n s ts) : ∀ c ∈ TL.tl (standT n s ts), c = 32 ∨ c = 47 ∨ (48 ≤ c ∧ c ≤ 57) := fun c hc => by
 rcases join_mem hc with h | ⟨y, hy, h⟩
 ·rw [tl_sp] at h
  exact .inl (List.mem_singleton.mp h)
 ·exact .inr (words_sign B y hy c h)
theorem standT_ok (B : Sb3 n s ts) : PyData.strOk (standT n s ts) = true := strOk_of fun c hc => by
 have := standT_sign B c hc
 omega
theorem standT_len (B : Sb3 n s ts) : (standT n s ts).length ≤ 1125 := by
 have z := join_len l_sp (words_len B)
 have w := words_n B
 have := Nat.mul_le_mul_right (124 + 1) w
 show (Txt.join " " (wordsT n s ts)).length ≤ _
 omega
end
theorem app_len (a b : Str) : (a ++ b).length = a.length + b.length := by
 rw [TL.len_tl, TL.tl_append, List.length_append, ← TL.len_tl, ← TL.len_tl]
theorem add_str {a b : Str} (hl : a.length + b.length ≤ 16777216) (h : Hh) : opAdd h (.str a) (.str b) = some (.str (a ++ b)) := by
 show (if fits (a.length + b.length) = true then some (D.str (a ++ b)) else none) = _
 rw [if_pos (show fits (a.length + b.length) = true from decide_eq_true hl)]
section
variable {n : Int} {s : Int × Int} {ts : List Ti}
theorem e_showstand (k : Nat) (B : Sb3 n s ts) (h : Hh) : S (k + 1) 10 [stD n s ts] h = .ok (.str (standT n s ts)) (h ++ [.lst ((wordsT n s ts).map .str)]) := by
 have i0 : ∀ h, opIdx h (stD n s ts) (.int 0) = some (.int n) := fun h => rfl
 have i1 : ∀ h, opIdx h (stD n s ts) (.int 1) = some (.tup [.int s.1, .int s.2]) := fun h => rfl
 have i2 : ∀ h, opIdx h (stD n s ts) (.int 2) = some (.tup (ts.map Ti.D)) := fun h => rfl
 have bn := b_str B.n
 have ba := b_str B.a
 have bb := b_str B.b
 obtain ⟨e', h', lq, rfl, rfl⟩ := forL_ind (g := .nm 2) (b := evB (M k) none b10_1) (l := ts.map Ti.D) (I := fun i e h' => e = [some (stD n s ts), some (.ref h.length), none, none] ∧ h' = h ++ [.lst ((wordsT n s (ts.take i)).map .str)]) (fun i d e h' hd ⟨he, hh⟩ => by
  subst he
  subst hh
  rw [List.getElem?_map] at hd
  obtain ⟨t, ht, rfl⟩ := Option.map_eq_some_iff.mp hd
  have tm := List.mem_of_getElem? ht
  have to := B.t t tm
  refine ⟨_, rfl, _, _, ?_, rfl, rfl⟩
  have cm : compL (.nm 3) bYes (evE (M k) none x10_0) ((tieN t).map .int) [some (stD n s ts), some (.ref h.length), some t.D, none] (h ++ [.lst ((wordsT n s (ts.take i)).map .str)]) = some (((tieN t).map num).map .str, h ++ [.lst ((wordsT n s (ts.take i)).map .str)]) := by
   rw [List.map_map]
   exact compL_ints (φ := D.int) (ψ := fun i => D.str (num i)) fun j hj => by
    have b := b_str (tieN_b to j hj)
    refine ⟨[some (stD n s ts), some (.ref h.length), some t.D, some (.int j)], rfl, rfl, ?_⟩
    generalize stD n s ts = sD at *
    generalize t.D = tD at *
    generalize num j = nD at *
    generalize h ++ [Sb.O.lst ((wordsT n s (ts.take i)).map .str)] = H at *
    simp_all! only [1, x10_0, b]
  have jq := m_join (h := h ++ [.lst ((wordsT n s (ts.take i)).map .str)]) (d := .lst (((tieN t).map num).map .str)) (ys := (tieN t).map num) (a := "/") rfl l_sl (fun y hy => by have := numN_len (tieN_b to) y hy; omega) (by show 4 ≤ 1000; omega)
  have eL : (h ++ [Sb.O.lst ((wordsT n s (ts.take i)).map .str)])[h.length]? = some (.lst ((wordsT n s (ts.take i)).map .str)) := by rw [List.getElem?_append_right (Nat.le_refl _), Nat.sub_self]; rfl
  have wl : (wordsT n s (ts.take i)).length ≤ 9 := words_n ⟨B.n, B.a, B.b, by rw [List.length_take]; have := B.l; omega, fun t ht => B.t t (List.mem_of_mem_take ht)⟩
  have ap := append_ref eL (by rw [List.length_map]; omega) (.str (tieT t))
  have cl := cLst_ref eL
  have wn : (wordsT n s (ts.take i)).map D.str ++ [.str (tieT t)] = (wordsT n s (ts.take (i + 1))).map .str := by
   unfold wordsT
   rw [List.take_succ, ht]
   simp only [Option.toList_some, List.map_append, List.map_cons, List.map_nil, List.append_assoc]
  rw [wn, List.set_append_right _ _ (Nat.le_refl _), Nat.sub_self, List.set_cons_zero] at ap
  have tD : t.D = .tup ((tieN t).map .int) := rfl
  have hL : ((tieN t).map D.int).length ≤ 16777216 := by show 4 ≤ 16777216; omega
  rw [tD] at cm ⊢
  change mJoin _ _ _ = some (.str (tieT t), _) at jq
  generalize h ++ [Sb.O.lst ((wordsT n s (ts.take (i + 1))).map .str)] = H2 at *
  generalize h ++ [Sb.O.lst ((wordsT n s (ts.take i)).map .str)] = H1 at *
  generalize stD n s ts = sD at *
  generalize ((tieN t).map num).map D.str = L1 at *
  generalize (tieN t).map D.int = L at *
  generalize tieT t = tT at *
  simp_all! only [1, b10_1, hL, cm, endC, cStr, jq, ap, cl]) (e := [some (stD n s ts), some (.ref h.length), none, none]) (h := h ++ [.lst ((wordsT n s []).map .str)]) ⟨rfl, rfl⟩
 rw [List.length_map, List.take_length] at lq
 have eF : (h ++ [Sb.O.lst ((wordsT n s ts).map .str)])[h.length]? = some (.lst ((wordsT n s ts).map .str)) := by rw [List.getElem?_append_right (Nat.le_refl _), Nat.sub_self]; rfl
 have jf := m_join (h := h ++ [.lst ((wordsT n s ts).map .str)]) (d := .ref h.length) (ys := wordsT n s ts) (a := " ") (asL_ref eF) l_sp (fun y hy => by have := words_len B y hy; omega) (by have := words_n B; omega)
 change mJoin _ _ _ = some (.str (standT n s ts), _) at jf
 have nw : ∀ e, dNew dNil e h = .ok (.ref h.length) (h ++ [.lst []]) := fun e => rfl
 have nw3 : (.ok (.ref h.length) (h ++ [.lst [.str (num n), .str (num s.1), .str (num s.2)]]) : Sb.R D) = .ok (.ref h.length) (h ++ [.lst ((wordsT n s []).map .str)]) := rfl
 rw [q10]
 have z : (h ++ [Sb.O.lst [.str (num n), .str (num s.1), .str (num s.2)]]) = h ++ [.lst ((wordsT n s []).map .str)] := rfl
 rw [← z] at lq
 generalize h ++ [Sb.O.lst ((wordsT n s ts).map .str)] = H2 at *
 generalize stD n s ts = sD at *
 generalize ts.map Ti.D = TL at *
 generalize num n = n0 at *
 generalize num s.1 = n1 at *
 generalize num s.2 = n2 at *
 generalize standT n s ts = sT at *
 simp_all! only [1, b10, i0, i1, i2, bn, ba, bb, dNew, lq, cStr, jf]
theorem cut3 {α : Type} (l : List α) : cut l none (some 3) = l.take 3 := by
 unfold cut
 show (l.drop 0).take (min 3 l.length - 0) = _
 rw [List.drop_zero, Nat.sub_zero]
 by_cases c : 3 ≤ l.length
 ·rw [Nat.min_eq_left c]
 ·rw [Nat.min_eq_right (by omega), List.take_length, List.take_of_length_le (by omega)]
theorem cutF {α : Type} (l : List α) (m : Nat) : cut l (some (m : Int)) none = l.drop m := by
 unfold cut
 have e : HT.sIx l.length 0 (some (m : Int)) = min m l.length := by
  unfold HT.sIx
  simp
  intro h
  omega
 rw [e]
 show (l.drop (min m l.length)).take (l.length - min m l.length) = _
 by_cases c : m ≤ l.length
 ·rw [Nat.min_eq_left c, List.take_of_length_le (by rw [List.length_drop]; omega)]
 ·rw [Nat.min_eq_right (by omega), List.drop_length, List.drop_of_length_le (by omega)]; simp
end
section
variable {n : Int} {s : Int × Int} {ts : List Ti}
theorem e_standof (k : Nat) (B : Sb3 n s ts) (ok : standOk n s ts) (h : Hh) : S (k + 6) 11 [.lst ((wordsT n s ts).map .str)] h = .ok (stD n s ts) (h ++ [.lst (ts.map Ti.D)]) := by
 have hW : (wordsT n s ts).length = 3 + ts.length := by
  unfold wordsT
  rw [List.length_append, List.length_map, List.length_map]; rfl
 have ln : ∀ h, bLen h [.lst ((wordsT n s ts).map .str)] = some (.int ((3 + ts.length : Nat) : Int)) := fun h => by
  show some (D.int ((wordsT n s ts).map D.str).length) = _
  rw [List.length_map, hW]
 have l3 : ¬ ((3 + ts.length : Nat) : Int) < 3 := by omega
 have sl1 : ∀ h, opSl h (.lst ((wordsT n s ts).map .str)) none (some 3) = some (.lst ([n, s.1, s.2].map fun i => .str (num i))) := fun h => by
  show some (D.lst (cut ((wordsT n s ts).map D.str) none (some 3))) = _
  rw [cut3]
  rfl
 have sl2 : ∀ h, opSl h (.lst ((wordsT n s ts).map .str)) (some 3) none = some (.lst ((ts.map tieT).map .str)) := fun h => by
  show some (D.lst (cut ((wordsT n s ts).map D.str) (some ((3 : Nat) : Int)) none)) = _
  rw [cutF]
  rfl
 have rn := fun h => e_rnums (k + 3) [n, s.1, s.2] B.h (by show 3 ≤ 1000; omega) h
 have sd := fun h => e_standD k n s ts h
 simp only [if_pos ok] at sd
 obtain ⟨wD, ewD⟩ : ∃ wD, wD = (wordsT n s ts).map D.str := ⟨_, rfl⟩
 obtain ⟨e', h', lq, rfl, rfl⟩ := forL_ind (g := .nm 2) (b := evB (M (k + 5)) none b11_0) (l := (ts.map tieT).map .str) (I := fun i e h' => e = [some (.lst wD), some (.ref h.length), none, some (.int n), some (.int s.1), some (.int s.2), none] ∧ h' = h ++ [.lst ((ts.take i).map Ti.D)]) (fun i d e h' hd ⟨he, hh⟩ => by
  subst he
  subst hh
  rw [List.getElem?_map, List.getElem?_map] at hd
  obtain ⟨w, hw, rfl⟩ := Option.map_eq_some_iff.mp hd
  obtain ⟨t, ht, rfl⟩ := Option.map_eq_some_iff.mp hw
  have tm := List.mem_of_getElem? ht
  have to := B.t t tm
  refine ⟨_, rfl, _, _, ?_, rfl, rfl⟩
  have sp := m_split (h := h ++ [.lst ((ts.take i).map Ti.D)]) (a := "/") tl_sl k_sl (ys := (tieN t).map num) (by simp [tieN]) (numN_free (tieN_b to) (by omega)) (fun y hy => by have := numN_len (tieN_b to) y hy; omega) (by show 4 ≤ 1000; omega)
  change mSplit _ (.str (tieT t)) _ = _ at sp
  rw [List.map_map] at sp
  have rt := e_rnums (k + 3) (tieN t) (tieN_b to) (by show 4 ≤ 1000; omega) (h ++ [.lst ((ts.take i).map Ti.D)])
  have rt : S (k + 5) 9 [.lst ((tieN t).map (D.str ∘ num))] (h ++ [.lst ((ts.take i).map Ti.D)]) = .ok (.lst [.int t.p, .int t.a, .int t.w, .int t.d]) (h ++ [.lst ((ts.take i).map Ti.D)]) := rt
  have eL : (h ++ [Sb.O.lst ((ts.take i).map Ti.D)])[h.length]? = some (.lst ((ts.take i).map Ti.D)) := by rw [List.getElem?_append_right (Nat.le_refl _), Nat.sub_self]; rfl
  have ap := append_ref eL (by rw [List.length_map, List.length_take]; have := B.l; omega) (.tup [.int t.p, .int t.a, .int t.w, .int t.d])
  have cl := cLst_ref eL
  have wn : (ts.take i).map Ti.D ++ [.tup [.int t.p, .int t.a, .int t.w, .int t.d]] = (ts.take (i + 1)).map Ti.D := by
   rw [List.take_succ, ht, List.map_append]; rfl
  rw [wn, List.set_append_right _ _ (Nat.le_refl _), Nat.sub_self, List.set_cons_zero] at ap
  generalize h ++ [Sb.O.lst ((ts.take (i + 1)).map Ti.D)] = H2 at *
  generalize h ++ [Sb.O.lst ((ts.take i).map Ti.D)] = H1 at *
  generalize (tieN t).map (D.str ∘ num) = L at *
  generalize tieT t = tT at *
  simp_all! only [1, b11_0, cStr, sp, rt, ap, cl]) (e := [some (.lst wD), some (.ref h.length), none, some (.int n), some (.int s.1), some (.int s.2), none]) (h := h ++ [.lst []]) ⟨rfl, rfl⟩
 rw [List.length_map, List.length_map, List.take_length] at lq
 have eF : (h ++ [Sb.O.lst (ts.map Ti.D)])[h.length]? = some (.lst (ts.map Ti.D)) := by rw [List.getElem?_append_right (Nat.le_refl _), Nat.sub_self]; rfl
 have tp : bTuple (h ++ [Sb.O.lst (ts.map Ti.D)]) [.ref h.length] = some (.tup (ts.map Ti.D)) := by
  show (asQ (h ++ [Sb.O.lst (ts.map Ti.D)]) (.ref h.length)).map D.tup = _
  rw [show asQ (h ++ [Sb.O.lst (ts.map Ti.D)]) (.ref h.length) = asL (h ++ [Sb.O.lst (ts.map Ti.D)]) (.ref h.length) from rfl, asL_ref eF]; rfl
 rw [← ewD] at ln sl1 sl2 ⊢
 rw [q11]
 have rn : ∀ h, S (k + 5) 9 [.lst ([n, s.1, s.2].map fun i => .str (num i))] h = .ok (.lst [.int n, .int s.1, .int s.2]) h := rn
 generalize [n, s.1, s.2].map (fun i => D.str (num i)) = NL at *
 generalize ((3 + ts.length : Nat) : Int) = m at *
 generalize h ++ [Sb.O.lst (ts.map Ti.D)] = H2 at *
 generalize (ts.map tieT).map D.str = WL at *
 generalize ts.map Ti.D = TL at *
 generalize stD n s ts = sD at *
 simp_all! only [1, b11, ln, l3, sl1, rn, dNew, sl2, lq, tp, sd]
theorem e_readstand (k : Nat) (B : Sb3 n s ts) (ok : standOk n s ts) (h : Hh) : S (k + 7) 12 [.str (standT n s ts)] h = .ok (stD n s ts) (h ++ [.lst (ts.map Ti.D)]) := by
 have so := e_standof k B ok h
 have is : ∀ h, isiD .str h (.str (standT n s ts)) = some (.bl true) := fun h => rfl
 have sp := m_split (h := h) (a := " ") tl_sp k_sp (ys := wordsT n s ts) (by unfold wordsT; simp) (words_free B) (fun y hy => by have := words_len B y hy; omega) (by have := words_n B; omega)
 change mSplit _ (.str (standT n s ts)) _ = _ at sp
 rw [q12]
 generalize h ++ [Sb.O.lst (ts.map Ti.D)] = H2 at *
 generalize (wordsT n s ts).map D.str = WL at *
 generalize standT n s ts = sT at *
 simp_all! only [1, b12, is, cStr, sp, so]
theorem tl_tie (t : Ti) : TL.tl (tieT t) = TL.tl (num t.p) ++ (TL.tl ("/" : Str) ++ (TL.tl (num t.a) ++ (TL.tl ("/" : Str) ++ (TL.tl (num t.w) ++ (TL.tl ("/" : Str) ++ TL.tl (num t.d)))))) := by
 unfold tieT
 rw [tl_joinT]; rfl
theorem standT_nil (n : Int) (s : Int × Int) : standT n s [] = num n ++ " " ++ num s.1 ++ " " ++ num s.2 := TL.ext_tl (by
 unfold standT
 rw [tl_joinT, TL.tl_append, TL.tl_append, TL.tl_append, TL.tl_append]
 show TL.tl (num n) ++ (TL.tl (" " : Str) ++ (TL.tl (num s.1) ++ (TL.tl (" " : Str) ++ TL.tl (num s.2)))) = _
 simp only [List.append_assoc])
theorem standT_snoc (n : Int) (s : Int × Int) (ts : List Ti) (t : Ti) : standT n s (ts ++ [t]) = standT n s ts ++ " " ++ num t.p ++ "/" ++ num t.a ++ "/" ++ num t.w ++ "/" ++ num t.d := TL.ext_tl (by
 have e : wordsT n s (ts ++ [t]) = wordsT n s ts ++ [tieT t] := by
  unfold wordsT
  rw [List.map_append, List.append_assoc]; rfl
 unfold standT
 rw [e, tl_joinT, List.map_append, List.map_cons, List.map_nil, joinL_snoc _ _ (by unfold wordsT; simp), ← tl_joinT, tl_tie]
 simp only [TL.tl_append, List.append_assoc])
theorem e_ltext (k : Nat) (B : Sb3 n s ts) (h : Hh) : S (k + 1) 22 [stD n s ts] h = .ok (.str (standT n s ts)) h := by
 have i0 : ∀ h, opIdx h (stD n s ts) (.int 0) = some (.int n) := fun h => rfl
 have i1 : ∀ h, opIdx h (stD n s ts) (.int 1) = some (.tup [.int s.1, .int s.2]) := fun h => rfl
 have i2 : ∀ h, opIdx h (stD n s ts) (.int 2) = some (.tup (ts.map Ti.D)) := fun h => rfl
 have bn := b_str B.n
 have ba := b_str B.a
 have bb := b_str B.b
 have add : ∀ {a b : Str} {m l : Nat}, a.length ≤ m → b.length ≤ l → m + l ≤ 16777216 → (∀ h, opAdd h (.str a) (.str b) = some (.str (a ++ b))) ∧ (a ++ b).length ≤ m + l := fun {a b m l} ha hb hl => ⟨fun h => add_str (by omega) h, by rw [app_len]; omega⟩
 obtain ⟨e', h', lq, rfl, rfl⟩ := forL_ind (g := .nm 2) (b := evB (M k) none b22_0) (l := ts.map Ti.D) (I := fun i e h' => e = [some (stD n s ts), some (.str (standT n s (ts.take i))), none] ∧ h' = h) (fun i d e h' hd ⟨he, hh⟩ => by
  subst he
  subst hh
  rw [List.getElem?_map] at hd
  obtain ⟨t, ht, rfl⟩ := Option.map_eq_some_iff.mp hd
  have tm := List.mem_of_getElem? ht
  have to := B.t t tm
  refine ⟨_, rfl, _, _, ?_, rfl, rfl⟩
  have tl : (standT n s (ts.take i)).length ≤ 1125 := standT_len ⟨B.n, B.a, B.b, by rw [List.length_take]; have := B.l; omega, fun t ht => B.t t (List.mem_of_mem_take ht)⟩
  have np := tieN_b to t.p (by simp [tieN])
  have na := tieN_b to t.a (by simp [tieN])
  have nw := tieN_b to t.w (by simp [tieN])
  have nd := tieN_b to t.d (by simp [tieN])
  have b0 := b_str np
  have b1 := b_str na
  have b2 := b_str nw
  have b3 := b_str nd
  have j0 : ∀ h, opIdx h t.D (.int 0) = some (.int t.p) := fun h => rfl
  have j1 : ∀ h, opIdx h t.D (.int 1) = some (.int t.a) := fun h => rfl
  have j2 : ∀ h, opIdx h t.D (.int 2) = some (.int t.w) := fun h => rfl
  have j3 : ∀ h, opIdx h t.D (.int 3) = some (.int t.d) := fun h => rfl
  obtain ⟨a1, m1⟩ := add tl (Nat.le_of_eq l_sp) (by omega)
  obtain ⟨a2, m2⟩ := add m1 (num_len np).2 (by omega)
  obtain ⟨a3, m3⟩ := add m2 (Nat.le_of_eq l_sl) (by omega)
  obtain ⟨a4, m4⟩ := add m3 (num_len na).2 (by omega)
  obtain ⟨a5, m5⟩ := add m4 (Nat.le_of_eq l_sl) (by omega)
  obtain ⟨a6, m6⟩ := add m5 (num_len nw).2 (by omega)
  obtain ⟨a7, m7⟩ := add m6 (Nat.le_of_eq l_sl) (by omega)
  obtain ⟨a8, m8⟩ := add m7 (num_len nd).2 (by omega)
  have fin : standT n s (ts.take (i + 1)) = standT n s (ts.take i) ++ " " ++ num t.p ++ "/" ++ num t.a ++ "/" ++ num t.w ++ "/" ++ num t.d := by
   rw [List.take_succ, ht]
   exact standT_snoc n s (ts.take i) t
  rw [← fin] at a8
  clear m1 m2 m3 m4 m5 m6 m7 m8 fin tl
  generalize standT n s (ts.take (i + 1)) = T9 at *
  generalize standT n s (ts.take i) ++ " " ++ num t.p ++ "/" ++ num t.a ++ "/" ++ num t.w ++ "/" = T7 at *
  generalize standT n s (ts.take i) ++ " " ++ num t.p ++ "/" ++ num t.a ++ "/" ++ num t.w = T6 at *
  generalize standT n s (ts.take i) ++ " " ++ num t.p ++ "/" ++ num t.a ++ "/" = T5 at *
  generalize standT n s (ts.take i) ++ " " ++ num t.p ++ "/" ++ num t.a = T4 at *
  generalize standT n s (ts.take i) ++ " " ++ num t.p ++ "/" = T3 at *
  generalize standT n s (ts.take i) ++ " " ++ num t.p = T2 at *
  generalize standT n s (ts.take i) ++ " " = T1 at *
  generalize standT n s (ts.take i) = T0 at *
  generalize num t.p = n0 at *
  generalize num t.a = n1 at *
  generalize num t.w = n2 at *
  generalize num t.d = n3 at *
  generalize stD n s ts = sD at *
  generalize t.D = tD at *
  simp_all! only [1, b22_0, j0, j1, j2, j3, b0, b1, b2, b3, a1, a2, a3, a4, a5, a6, a7, a8]) (e := [some (stD n s ts), some (.str (standT n s [])), none]) (h := h) ⟨rfl, rfl⟩
 rw [List.length_map, List.take_length] at lq
 obtain ⟨a1, m1⟩ := add (num_len B.n).2 (Nat.le_of_eq l_sp) (by omega)
 obtain ⟨a2, m2⟩ := add m1 (num_len B.a).2 (by omega)
 obtain ⟨a3, m3⟩ := add m2 (Nat.le_of_eq l_sp) (by omega)
 obtain ⟨a4, m4⟩ := add m3 (num_len B.b).2 (by omega)
 rw [← standT_nil] at a4
 rw [q22]
 clear m1 m2 m3 m4
 generalize standT n s [] = T9 at *
 generalize num n ++ " " ++ num s.1 ++ " " = T3 at *
 generalize num n ++ " " ++ num s.1 = T2 at *
 generalize num n ++ " " = T1 at *
 generalize num n = n0 at *
 generalize num s.1 = n1 at *
 generalize num s.2 = n2 at *
 generalize ts.map Ti.D = TL at *
 generalize stD n s ts = sD at *
 generalize standT n s ts = sT at *
 simp_all! only [1, b22, i0, i1, i2, bn, ba, bb, a1, a2, a3, a4, lq]
end
def thingT (nm : Str) (l : List Int) : Str := Txt.join " " (nm :: l.map num)
structure Nm (nm : Str) : Prop where
 ok : PyData.strOk nm = true
 l : nm.length ≤ 10
 f : 32 ∉ TL.tl nm
 a : ¬ nm = "agree"
theorem nm_w : Nm "word" := ⟨by decide +kernel, by decide +kernel, by decide +kernel, by decide +kernel⟩
theorem nm_s : Nm "strike" := ⟨by decide +kernel, by decide +kernel, by decide +kernel, by decide +kernel⟩
section
variable {nm : Str} {l : List Int}
theorem Nm.eq (m : Nm nm) (h : Hh) : cmpD .Eq h (.str nm) (.str "agree") = some (.bl false) := by
 rw [eq_pln (pln_str m.ok) (by simp only [pln_non, pln_bl, pln_int, pln_str, pln_tupp, pln_lstt, plns_nil, plns_cons, Nat.reduceSub, Bool.and_true, Bool.true_and, Bool.and_self, Nat.reduceLT, Nat.zero_lt_succ, so0, so1, so2, so3, so4, so5, so6, so7, so8, so9, so10, so11, so12, so13, so14])]
 show some (D.bl (decide (nm = "agree"))) = _
 rw [decide_eq_false m.a]
theorem Nm.len (m : Nm nm) (hb : ∀ i ∈ l, Nb i) : ∀ y ∈ nm :: l.map num, y.length ≤ 30 := fun y hy => by
 rcases List.mem_cons.mp hy with rfl | hy
 ·have := m.l; omega
 ·exact numN_len hb y hy
theorem Nm.free (m : Nm nm) (hb : ∀ i ∈ l, Nb i) : ∀ y ∈ nm :: l.map num, 32 ∉ TL.tl y := fun y hy => by
 rcases List.mem_cons.mp hy with rfl | hy
 ·exact m.f
 ·exact numN_free hb (by omega) y hy
theorem sl_one (h : Hh) (d : D) (l : List D) : opSl h (.tup (d :: l)) (some 1) none = some (.tup l) := by
 show some (D.tup (cut (d :: l) (some ((1 : Nat) : Int)) none)) = _
 rw [cutF]; rfl
theorem sl_oneL (h : Hh) (d : D) (l : List D) : opSl h (.lst (d :: l)) (some 1) none = some (.lst l) := by
 show some (D.lst (cut (d :: l) (some ((1 : Nat) : Int)) none)) = _
 rw [cutF]; rfl
theorem add_one (h : Hh) (d : D) {l : List D} (hl : l.length ≤ 1000) : opAdd h (.lst [d]) (.lst l) = some (.lst (d :: l)) := by
 show (if fits ([d].length + l.length) = true then some (D.lst ([d] ++ l)) else none) = _
 rw [if_pos (show fits ([d].length + l.length) = true from decide_eq_true (by rw [List.length_singleton]; omega))]
 rfl
theorem e_showN (k : Nat) (m : Nm nm) (hb : ∀ i ∈ l, Nb i) (hl : l.length ≤ 10) (h : Hh) : S (k + 1) 13 [.tup (.str nm :: l.map .int)] h = .ok (.str (thingT nm l)) h := by
 have i0 : ∀ h, opIdx h (.tup (.str nm :: l.map .int)) (.int 0) = some (.str nm) := fun h => by
  show L2.atI (D.str nm :: l.map .int) 0 = _
  unfold L2.atI ixN
  rw [if_pos (Int.le_refl _), if_pos (by rw [List.length_cons]; omega)]
  rfl
 have ea := fun h => m.eq h
 have sl := fun h => sl_one h (.str nm) (l.map .int)
 have cm : compL (.nm 1) bYes (evE (M k) none x13_0) (l.map .int) [some (.tup (.str nm :: l.map .int)), none] h = some ((l.map num).map .str, h) := by
  rw [List.map_map]
  exact compL_ints (φ := D.int) (ψ := fun i => D.str (num i)) fun j hj => by
   have b := b_str (hb j hj)
   refine ⟨[some (.tup (.str nm :: l.map .int)), some (.int j)], rfl, rfl, ?_⟩
   generalize D.tup (.str nm :: l.map .int) = tD at *
   generalize num j = nD at *
   simp_all! only [1, x13_0, b]
 have ad := fun h => add_one h (.str nm) (l := (l.map num).map .str) (by rw [List.length_map, List.length_map]; omega)
 have jq := m_join (h := h) (d := .lst (.str nm :: (l.map num).map .str)) (ys := nm :: l.map num) (a := " ") rfl l_sp (fun y hy => by have := m.len hb y hy; omega) (by rw [List.length_cons, List.length_map]; omega)
 change mJoin _ _ _ = some (.str (thingT nm l), _) at jq
 have hL : (l.map D.int).length ≤ 16777216 := by rw [List.length_map]; omega
 rw [q13]
 generalize D.tup (.str nm :: l.map .int) = tD at *
 generalize (l.map num).map D.str = SL at *
 generalize l.map D.int = IL at *
 generalize thingT nm l = tT at *
 simp_all! only [1, b13, i0, ea, sl, hL, cm, ad, cStr, jq]
theorem idx_c0 (h : Hh) (d : D) (l : List D) : opIdx h (.lst (d :: l)) (.int 0) = some d := by
 show L2.atI (d :: l) 0 = _
 unfold L2.atI ixN
 rw [if_pos (Int.le_refl _), if_pos (by rw [List.length_cons]; omega)]
 rfl
theorem e_readN (k : Nat) (m : Nm nm) (hb : ∀ i ∈ l, Nb i) (hl : l.length ≤ 10) (hp : PlD (.tup (.str nm :: l.map .int))) (ht : thingB (.tup (.str nm :: l.map .int)) = true) (h : Hh) : S (k + 7) 14 [.str (thingT nm l)] h = .ok (.tup (.str nm :: l.map .int)) h := by
 have is : ∀ h, isiD .str h (.str (thingT nm l)) = some (.bl true) := fun h => rfl
 have sp := m_split (h := h) (a := " ") tl_sp k_sp (ys := nm :: l.map num) (by simp) (m.free hb) (fun y hy => by have := m.len hb y hy; omega) (by rw [List.length_cons, List.length_map]; omega)
 change mSplit _ (.str (thingT nm l)) _ = some (.lst (.str nm :: (l.map num).map .str), _) at sp
 rw [List.map_map] at sp
 have i0 := fun h => idx_c0 h (.str nm) (l.map (D.str ∘ num))
 have ea := fun h => m.eq h
 have sl := fun h => sl_oneL h (.str nm) (l.map (D.str ∘ num))
 have rn := fun h => e_rnums (k + 4) l hb (by omega) h
 have rn : ∀ h, S (k + 6) 9 [.lst (l.map (D.str ∘ num))] h = .ok (.lst (l.map .int)) h := rn
 have ad := fun h => add_one h (.str nm) (l := l.map .int) (by rw [List.length_map]; omega)
 have tp : ∀ h, bTuple h [.lst (.str nm :: l.map .int)] = some (.tup (.str nm :: l.map .int)) := fun h => rfl
 have it := fun h => e_isthing k (.tup (.str nm :: l.map .int)) h hp
 rw [ht] at it
 rw [q14]
 generalize D.tup (.str nm :: l.map .int) = tD at *
 generalize D.lst (.str nm :: l.map .int) = tL at *
 generalize D.lst (.str nm :: l.map (D.str ∘ num)) = wL at *
 generalize l.map (D.str ∘ num) = SL at *
 generalize l.map D.int = IL at *
 generalize thingT nm l = tT at *
 simp_all! only [1, b14, is, cStr, sp, i0, ea, sl, rn, ad, tp, it]
end
def agreeT (p sd : Int) (n : Int) (s : Int × Int) (ts : List Ti) : Str := "agree " ++ num p ++ " " ++ num sd ++ " " ++ standT n s ts
theorem tl_agree : TL.tl ("agree " : Str) = TL.tl ("agree" : Str) ++ TL.tl (" " : Str) := by decide +kernel
theorem agreeT_eq (p sd n : Int) (s : Int × Int) (ts : List Ti) : agreeT p sd n s ts = Txt.join " " ("agree" :: num p :: num sd :: wordsT n s ts) := TL.ext_tl (by
 unfold agreeT
 rw [tl_joinT]
 simp only [TL.tl_append, tl_agree]
 unfold standT
 rw [tl_joinT]
 show _ = TL.tl ("agree" : Str) ++ (TL.tl (" " : Str) ++ (TL.tl (num p) ++ (TL.tl (" " : Str) ++ (TL.tl (num sd) ++ (TL.tl (" " : Str) ++ TL.joinL (TL.tl (" " : Str)) ((wordsT n s ts).map TL.tl))))))
 simp only [List.append_assoc])
theorem l_agree : ("agree " : Str).length ≤ 10 := by decide +kernel
theorem agree_eq (h : Hh) : cmpD .Eq h (.str "agree") (.str "agree") = some (.bl true) := by
 rw [eq_pln (by simp only [pln_non, pln_bl, pln_int, pln_str, pln_tupp, pln_lstt, plns_nil, plns_cons, Nat.reduceSub, Bool.and_true, Bool.true_and, Bool.and_self, Nat.reduceLT, Nat.zero_lt_succ, so0, so1, so2, so3, so4, so5, so6, so7, so8, so9, so10, so11, so12, so13, so14]) (by simp only [pln_non, pln_bl, pln_int, pln_str, pln_tupp, pln_lstt, plns_nil, plns_cons, Nat.reduceSub, Bool.and_true, Bool.true_and, Bool.and_self, Nat.reduceLT, Nat.zero_lt_succ, so0, so1, so2, so3, so4, so5, so6, so7, so8, so9, so10, so11, so12, so13, so14])]
 show some (D.bl (decide (("agree" : Str) = "agree"))) = _
 rw [decide_eq_true rfl]
theorem cut13 {α : Type} (a b c : α) (r : List α) : cut (a :: b :: c :: r) (some 1) (some 3) = [b, c] := by
 have e1 : HT.sIx (a :: b :: c :: r).length 0 (some 1) = 1 := by
  unfold HT.sIx
  simp
 have e2 : HT.sIx (a :: b :: c :: r).length (a :: b :: c :: r).length (some 3) = 3 := by
  unfold HT.sIx
  simp
 unfold cut
 rw [e1, e2]
 rfl
section
variable {n : Int} {s : Int × Int} {ts : List Ti} {p sd : Int}
theorem e_showA (k : Nat) (B : Sb3 n s ts) (hp : Nb p) (hs : Nb sd) (h : Hh) : S (k + 2) 13 [.tup [.str "agree", .int p, .int sd, stD n s ts]] h = .ok (.str (agreeT p sd n s ts)) (h ++ [.lst ((wordsT n s ts).map .str)]) := by
 have i0 : ∀ h, opIdx h (.tup [.str "agree", .int p, .int sd, stD n s ts]) (.int 0) = some (.str "agree") := fun h => rfl
 have i1 : ∀ h, opIdx h (.tup [.str "agree", .int p, .int sd, stD n s ts]) (.int 1) = some (.int p) := fun h => rfl
 have i2 : ∀ h, opIdx h (.tup [.str "agree", .int p, .int sd, stD n s ts]) (.int 2) = some (.int sd) := fun h => rfl
 have i3 : ∀ h, opIdx h (.tup [.str "agree", .int p, .int sd, stD n s ts]) (.int 3) = some (stD n s ts) := fun h => rfl
 have ea := agree_eq
 have bp := b_str hp
 have bs := b_str hs
 have sh := e_showstand k B h
 have tl := standT_len B
 have add : ∀ {a b : Str} {m l : Nat}, a.length ≤ m → b.length ≤ l → m + l ≤ 16777216 → (∀ h, opAdd h (.str a) (.str b) = some (.str (a ++ b))) ∧ (a ++ b).length ≤ m + l := fun {a b m l} ha hb hl => ⟨fun h => add_str (by omega) h, by rw [app_len]; omega⟩
 obtain ⟨a1, m1⟩ := add l_agree (num_len hp).2 (by omega)
 obtain ⟨a2, m2⟩ := add m1 (Nat.le_of_eq l_sp) (by omega)
 obtain ⟨a3, m3⟩ := add m2 (num_len hs).2 (by omega)
 obtain ⟨a4, m4⟩ := add m3 (Nat.le_of_eq l_sp) (by omega)
 obtain ⟨a5, m5⟩ := add m4 tl (by omega)
 rw [q13]
 unfold agreeT
 clear m1 m2 m3 m4 m5 tl
 generalize "agree " ++ num p ++ " " ++ num sd ++ " " ++ standT n s ts = T5 at *
 generalize "agree " ++ num p ++ " " ++ num sd ++ " " = T4 at *
 generalize "agree " ++ num p ++ " " ++ num sd = T3 at *
 generalize "agree " ++ num p ++ " " = T2 at *
 generalize "agree " ++ num p = T1 at *
 generalize num p = n1 at *
 generalize num sd = n2 at *
 generalize standT n s ts = sT at *
 generalize D.tup [.str "agree", .int p, .int sd, stD n s ts] = tD at *
 generalize stD n s ts = sD at *
 generalize h ++ [Sb.O.lst ((wordsT n s ts).map .str)] = H2 at *
 simp_all! only [1, b13, i0, i1, i2, i3, ea, bp, bs, sh, a1, a2, a3, a4, a5]
theorem e_readA (k : Nat) (B : Sb3 n s ts) (ok : standOk n s ts) (hp : 0 ≤ p ∧ p ≤ 2) (hs : 0 ≤ sd ∧ sd ≤ 1) (h : Hh) : S (k + 7) 14 [.str (agreeT p sd n s ts)] h = .ok (.tup [.str "agree", .int p, .int sd, stD n s ts]) (h ++ [.lst (ts.map Ti.D)]) := by
 have bp : Nb p := ⟨hp.1, by omega⟩
 have bs : Nb sd := ⟨hs.1, by omega⟩
 have is : ∀ h, isiD .str h (.str (agreeT p sd n s ts)) = some (.bl true) := fun h => rfl
 have ag : ("agree" : Str).length ≤ 10 ∧ 32 ∉ TL.tl ("agree" : Str) := by decide +kernel
 have len : ∀ y ∈ ("agree" : Str) :: num p :: num sd :: wordsT n s ts, y.length ≤ 124 := fun y hy => by
  rcases List.mem_cons.mp hy with rfl | hy
  ·omega
  rcases List.mem_cons.mp hy with rfl | hy
  ·have := (num_len bp).2; omega
  rcases List.mem_cons.mp hy with rfl | hy
  ·have := (num_len bs).2; omega
  exact words_len B y hy
 have free : ∀ y ∈ ("agree" : Str) :: num p :: num sd :: wordsT n s ts, 32 ∉ TL.tl y := fun y hy => by
  rcases List.mem_cons.mp hy with rfl | hy
  ·exact ag.2
  rcases List.mem_cons.mp hy with rfl | hy
  ·exact num_free bp.1 (by omega)
  rcases List.mem_cons.mp hy with rfl | hy
  ·exact num_free bs.1 (by omega)
  exact words_free B y hy
 have wn := words_n B
 have sp := m_split (h := h) (a := " ") tl_sp k_sp (ys := "agree" :: num p :: num sd :: wordsT n s ts) (by simp) free (fun y hy => by have := len y hy; omega) (by simp only [List.length_cons]; omega)
 rw [← agreeT_eq] at sp
 change mSplit _ _ _ = some (.lst (.str "agree" :: .str (num p) :: .str (num sd) :: (wordsT n s ts).map .str), _) at sp
 have i0 := fun h => idx_c0 h (.str "agree") (.str (num p) :: .str (num sd) :: (wordsT n s ts).map .str)
 have ea := agree_eq
 have ln : ∀ h, bLen h [.lst (.str "agree" :: .str (num p) :: .str (num sd) :: (wordsT n s ts).map .str)] = some (.int ((6 + ts.length : Nat) : Int)) := fun h => by
  show some (D.int ((D.str "agree" :: .str (num p) :: .str (num sd) :: (wordsT n s ts).map D.str).length)) = _
  simp only [List.length_cons, List.length_map]
  unfold wordsT
  rw [List.length_append, List.length_map, List.length_map]
  congr 2
  simp only [List.length_cons, List.length_nil]
  omega
 have l3 : (3 : Int) < ((6 + ts.length : Nat) : Int) := by omega
 have l3' : ((6 + ts.length : Nat) : Int) > 3 := l3
 have sl1 : ∀ h, opSl h (.lst (.str "agree" :: .str (num p) :: .str (num sd) :: (wordsT n s ts).map .str)) (some 1) (some 3) = some (.lst ([p, sd].map fun i => .str (num i))) := fun h => by
  show some (D.lst (cut (D.str "agree" :: .str (num p) :: .str (num sd) :: (wordsT n s ts).map D.str) (some 1) (some 3))) = _
  rw [cut13]; rfl
 have sl2 : ∀ h, opSl h (.lst (.str "agree" :: .str (num p) :: .str (num sd) :: (wordsT n s ts).map .str)) (some 3) none = some (.lst ((wordsT n s ts).map .str)) := fun h => by
  show some (D.lst (cut (D.str "agree" :: .str (num p) :: .str (num sd) :: (wordsT n s ts).map D.str) (some ((3 : Nat) : Int)) none)) = _
  rw [cutF]; rfl
 have rn := fun h => e_rnums (k + 4) [p, sd] (fun i hi => by
  simp only [List.mem_cons, List.not_mem_nil, or_false] at hi
  rcases hi with rfl | rfl
  ·exact bp
  ·exact bs) (by show 2 ≤ 1000; omega) h
 have rn : ∀ h, S (k + 6) 9 [.lst ([p, sd].map fun i => .str (num i))] h = .ok (.lst [.int p, .int sd]) h := rn
 have so := e_standof k B ok h
 have it := fun h => e_isthing k (.tup [.str "agree", .int p, .int sd, stD n s ts]) h (.inl (by
  have z := pln_st n s ts 2
  show plns 5 [.str "agree", .int p, .int sd, stD n s ts] = true
  have a : pln 5 (.str "agree") = true := by simp only [pln_non, pln_bl, pln_int, pln_str, pln_tupp, pln_lstt, plns_nil, plns_cons, Nat.reduceSub, Bool.and_true, Bool.true_and, Bool.and_self, Nat.reduceLT, Nat.zero_lt_succ, so0, so1, so2, so3, so4, so5, so6, so7, so8, so9, so10, so11, so12, so13, so14]
  simp only [plns_cons, a, z, Bool.true_and]
  rfl))
 have tb : thingB (.tup [.str "agree", .int p, .int sd, stD n s ts]) = true := by
  show (inB 2 (.int p) && (inB 1 (.int sd) && (if eqB (.str "agree") (.str "strike") = true then inB 1000000 (stD n s ts) else eqB (.str "agree") (.str "agree") && standB (stD n s ts)))) = true
  have e1 : eqB (.str "agree") (.str "strike") = false := by decide +kernel
  have e2 : eqB (.str "agree") (.str "agree") = true := by decide +kernel
  rw [e1, e2, standB_D, decide_eq_true ok]
  simp only [inB, Bool.and_eq_true, decide_eq_true_eq, Bool.false_eq_true, if_false, Bool.true_and, and_true]
  omega
 rw [tb] at it
 rw [q14]
 generalize [p, sd].map (fun i => D.str (num i)) = NL at *
 generalize ((6 + ts.length : Nat) : Int) = m at *
 generalize h ++ [Sb.O.lst (ts.map Ti.D)] = H2 at *
 generalize D.lst (.str "agree" :: .str (num p) :: .str (num sd) :: (wordsT n s ts).map .str) = wL at *
 generalize (wordsT n s ts).map D.str = WL at *
 generalize stD n s ts = sD at *
 generalize agreeT p sd n s ts = tT at *
 simp_all! only [1, b14, is, cStr, sp, i0, ea, ln, l3, l3', gt_iff_lt, sl1, rn, sl2, so, it]
end
theorem k_int (k : Nat) (i : Int) (h : Hh) : S (k + 1) 23 [.int i] h = .ok (.bl true) h := by
 rw [q23]
 simp_all! only [1, b23]
theorem k_str (k : Nat) (x : Str) (h : Hh) : S (k + 1) 23 [.str x] h = .ok (.bl true) h := by
 rw [q23]
 simp_all! only [1, b23]
theorem k_tup (k : Nat) (l : List D) (hl : l.length ≤ 1000) (hk : ∀ d ∈ l, ∀ h, S k 23 [d] h = .ok (.bl true) h) (h : Hh) : S (k + 1) 23 [.tup l] h = .ok (.bl true) h := by
 have cm : compL (.nm 1) bYes (evE (M k) none x23_0) l [some (.tup l), none] h = some (l.map fun _ => .bl true, h) := compL_map (φ := fun _ => .bl true) fun d hd => by
  have z := hk d hd
  refine ⟨[some (.tup l), some d], rfl, rfl, ?_⟩
  simp_all! only [1, x23_0, z]
 have al := all_true h l
 have hL : l.length ≤ 16777216 := by omega
 rw [q23]
 generalize l.map (fun _ => D.bl true) = BL at *
 simp_all! only [1, b23, hL, cm, al]
theorem k_stand (k : Nat) (n : Int) (s : Int × Int) {ts : List Ti} (hl : ts.length ≤ 6) (h : Hh) : S (k + 4) 23 [stD n s ts] h = .ok (.bl true) h := by
 refine k_tup (k + 3) _ (by show 3 ≤ 1000; omega) (fun d hd h => ?_) h
 simp only [List.mem_cons, List.not_mem_nil, or_false] at hd
 rcases hd with rfl | rfl | rfl
 ·exact k_int _ _ h
 ·refine k_tup (k + 2) _ (by show 2 ≤ 1000; omega) (fun d hd h => ?_) h
  simp only [List.mem_cons, List.not_mem_nil, or_false] at hd
  rcases hd with rfl | rfl <;> exact k_int _ _ h
 ·refine k_tup (k + 2) _ (by rw [List.length_map]; omega) (fun d hd h => ?_) h
  obtain ⟨t, _, rfl⟩ := List.mem_map.mp hd
  refine k_tup (k + 1) _ (by show 4 ≤ 1000; omega) (fun d hd h => ?_) h
  simp only [List.mem_cons, List.not_mem_nil, or_false] at hd
  rcases hd with rfl | rfl | rfl | rfl <;> exact k_int _ _ h
theorem ne_self61 {d : D} (h : Hh) (p : pln 63 d = true) : cmpD .NotEq h d d = some (.bl false) := by
 rw [ne_pln (pln_mono (show 63 ≤ 64 by omega) p) (pln_mono (show 63 ≤ 64 by omega) p), eqB_refl p]; rfl
theorem eq_self61 {d : D} (h : Hh) (p : pln 63 d = true) : cmpD .Eq h d d = some (.bl true) := by
 rw [eq_pln (pln_mono (show 63 ≤ 64 by omega) p) (pln_mono (show 63 ≤ 64 by omega) p), eqB_refl p]
theorem forZ_ref {l m : List D} {j : Nat} {g : Tg} {b : FS} {I : Nat → En → Hh → Prop} (hl : l.length = m.length) (hj : ∀ i e h, I i e h → h[j]? = some (.lst m)) (st : ∀ i x y e h, l[i]? = some x → m[i]? = some y → I i e h → ∃ e1, bindT g (.tup [x, y]) e = some e1 ∧ ∃ e2 h2, b e1 h = .nx e2 h2 ∧ I (i + 1) e2 h2) :
  ∀ (r i : Nat) (e : En) (h : Hh), i + r = l.length → I i e h → ∃ e' h', forS (Sb.zipAt (.lst l) (.ref j)) g b r i e h = .nx e' h' ∧ I l.length e' h'
 | 0, i, e, h, hr, hi => by
  have z : Sb.zipAt (.lst l) (.ref j) h i = some none := by
   unfold Sb.zipAt
   rw [show asL h (.lst l) = some l from rfl, asL_ref (hj i e h hi)]
   dsimp only
   rw [List.getElem?_eq_none (by omega)]
  refine ⟨e, h, ?_, by rw [show l.length = i by omega]; exact hi⟩
  unfold forS
  rw [z]
 | r + 1, i, e, h, hr, hi => by
  have x : l[i]? = some l[i] := List.getElem?_eq_getElem (by omega)
  have y : m[i]? = some m[i] := List.getElem?_eq_getElem (by omega)
  have z : Sb.zipAt (.lst l) (.ref j) h i = some (some (.tup [l[i], m[i]])) := by
   unfold Sb.zipAt
   rw [show asL h (.lst l) = some l from rfl, asL_ref (hj i e h hi)]
   dsimp only
   rw [x, y]
  obtain ⟨e1, q1, e2, h2, q2, i2⟩ := st i _ _ e h x y hi
  obtain ⟨e', h', q3, i3⟩ := forZ_ref hl hj st r (i + 1) e2 h2 (by omega) i2
  refine ⟨e', h', ?_, i3⟩
  unfold forS
  rw [z]
  dsimp only
  rw [q1]
  dsimp only
  rw [q2]
  exact q3
theorem forZ_eq {l m : List D} {j : Nat} {g : Tg} {b : FS} {e : En} {h : Hh} (hl : l.length = m.length) (hj : h[j]? = some (.lst m)) : forZ (.lst l) (.ref j) g b e h = forS (Sb.zipAt (.lst l) (.ref j)) g b l.length 0 e h := by
 unfold forZ sFor Sb.iZip
 rw [show dC (.lst l) e h = .ok (.lst l) h from rfl, rb_ok, show dC (.ref j) e h = .ok (.ref j) h from rfl, rb_ok, show asL h (.lst l) = some l from rfl, asL_ref hj]
 dsimp only
 rw [rst_ok]
 dsimp only
 rw [hl, Nat.min_self]
theorem wordT_eq (w : Int) : "word " ++ num w = thingT "word" [w] := TL.ext_tl (by
 unfold thingT
 rw [tl_joinT, TL.tl_append, show TL.tl ("word " : Str) = TL.tl ("word" : Str) ++ TL.tl (" " : Str) by decide +kernel]
 show _ = TL.tl ("word" : Str) ++ (TL.tl (" " : Str) ++ TL.tl (num w))
 simp only [List.append_assoc])
theorem strikeT_eq (p sd n : Int) : "strike " ++ num p ++ " " ++ num sd ++ " " ++ num n = thingT "strike" [p, sd, n] := TL.ext_tl (by
 unfold thingT
 rw [tl_joinT]
 simp only [TL.tl_append]
 rw [show TL.tl ("strike " : Str) = TL.tl ("strike" : Str) ++ TL.tl (" " : Str) by decide +kernel]
 show _ = TL.tl ("strike" : Str) ++ (TL.tl (" " : Str) ++ (TL.tl (num p) ++ (TL.tl (" " : Str) ++ (TL.tl (num sd) ++ (TL.tl (" " : Str) ++ TL.tl (num n))))))
 simp only [List.append_assoc])
structure TT (d : D) (x : Str) : Prop where
 sh : ∀ h, ∃ a, S 14 13 [d] h = .ok (.str x) (h ++ a)
 rd : ∀ h, ∃ a, S 14 14 [.str x] h = .ok d (h ++ a)
 kd : ∀ h, S 14 23 [d] h = .ok (.bl true) h
 pd : pln 63 d = true
 px : PyData.strOk x = true
theorem e_turn61 {d : D} {x : Str} (T : TT d x) (e0 e1 e2 e3 e4 e5 e6 e7 e8 e9 e10 e13 : Option D) (h : Hh) :
  ∃ a, evB (M 14) none b24_0 [e0, e1, e2, e3, e4, e5, e6, e7, e8, e9, e10, some d, some (.str x), e13] h = .nx [e0, e1, e2, e3, e4, e5, e6, e7, e8, e9, e10, none, none, none] (h ++ a) := by
 obtain ⟨a, q1⟩ := T.rd h
 obtain ⟨b, q2⟩ := T.sh (h ++ a)
 have kd := T.kd
 have n1 := fun h => ne_self61 (d := .str x) h (pln_str T.px)
 have n2 := fun h => ne_self61 (d := d) h T.pd
 refine ⟨a ++ b, ?_⟩
 rw [← List.append_assoc]
 generalize h ++ a ++ b = H2 at *
 generalize h ++ a = H1 at *
 simp_all! only [1, b24_0, q1, q2, n1, n2, kd]
theorem law_true (ns : List Int) (hl : ns.length ≤ 63) : ∃ h, S (14 + 1) 24 [.scr ns] [] = .ok (.bl true) h := by
 obtain ⟨cell, ec⟩ : ∃ cell, cell = cellAt ns 0 := ⟨_, rfl⟩
 obtain ⟨c1, ec1⟩ : ∃ c1, c1 = cellAt ns 1 := ⟨_, rfl⟩
 obtain ⟨c2, ec2⟩ : ∃ c2, c2 = cellAt ns 2 := ⟨_, rfl⟩
 have a0 := fun h => e_at 13 ns 0 h (by omega)
 have a1 := fun h => e_at 13 ns 1 h (by omega)
 have a2 := fun h => e_at 13 ns 2 h (by omega)
 rw [← ec] at a0
 rw [← ec1] at a1
 rw [← ec2] at a2
 obtain ⟨n, en⟩ : ∃ n, n = pick [cell / 6 % 1000001, 1000000, 0] (cell % 3) := ⟨_, rfl⟩
 have n0 : 0 ≤ n ∧ n ≤ 1000000 := by
  rw [en]
  exact pick_all (P := fun x => 0 ≤ x ∧ x ≤ 1000000) (by
   intro x hx
   simp only [List.mem_cons, List.not_mem_nil, or_false] at hx
   rcases hx with rfl | rfl | rfl <;> omega) (by omega) (by simp only [List.length_cons, List.length_nil]; omega)
 have ix : atI [D.int (cell / 6 % 1000001), .int 1000000, .int 0] (cell % 3) = some (.int n) := by
  rw [en]
  exact atI_pick (l := [cell / 6 % 1000001, 1000000, 0]) (i := cell % 3) (by omega) (by simp only [List.length_cons, List.length_nil]; omega)
 obtain ⟨s, ts, st, tk, sa, sb⟩ := e_stand n c1
 have ok : standOk n s ts := ⟨n0, ⟨sa, sb⟩, tk⟩
 have B : Sb3 n s ts := ⟨⟨n0.1, by omega⟩, ⟨sa.1, by omega⟩, ⟨sb.1, by omega⟩, tk.1, tk.2.1⟩
 have lt := fun h => e_ltext 13 B h
 have rs := fun h => e_readstand 7 B ok h
 have ss := fun h => e_showstand 13 B h
 have ks := fun h => k_stand 10 n s tk.1 h
 have pst := pln_st n s ts 60
 have ptx := standT_ok B
 have nt := fun h => ne_self61 (d := .str (standT n s ts)) h (pln_str ptx)
 have nst := fun h => ne_self61 (d := stD n s ts) h pst
 have est := fun h => eq_self61 (d := stD n s ts) h pst
 have i0 : ∀ h, opIdx h (stD n s ts) (.int 0) = some (.int n) := fun h => rfl
 obtain ⟨pot, epo⟩ : ∃ pot, pot = cell / 6 % 3 := ⟨_, rfl⟩
 obtain ⟨side, esd⟩ : ∃ side, side = cell / 18 % 2 := ⟨_, rfl⟩
 obtain ⟨nu, enu⟩ : ∃ nu, nu = cell / 36 % 1000001 := ⟨_, rfl⟩
 obtain ⟨wd, ewd⟩ : ∃ wd, wd = cell / 36 % 60 := ⟨_, rfl⟩
 have bp : Nb pot := ⟨by omega, by omega⟩
 have bs : Nb side := ⟨by omega, by omega⟩
 have bn : Nb nu := ⟨by omega, by omega⟩
 have bw : Nb wd := ⟨by omega, by omega⟩
 have b1 : ∀ i ∈ [wd], Nb i := fun i hi => by
  obtain rfl := List.mem_singleton.mp hi
  exact bw
 have b3 : ∀ i ∈ [pot, side, nu], Nb i := fun i hi => by
  simp only [List.mem_cons, List.not_mem_nil, or_false] at hi
  rcases hi with rfl | rfl | rfl
  ·exact bp
  ·exact bs
  ·exact bn
 have okT : ∀ {nm : Str} (m : Nm nm) {l : List Int}, (∀ i ∈ l, Nb i) → PyData.strOk (thingT nm l) = true := fun {nm} m {l} hb => strOk_of fun c hc => by
  rcases join_mem hc with h | ⟨y, hy, h⟩
  ·rw [tl_sp] at h
   have := List.mem_singleton.mp h
   omega
  ·rcases List.mem_cons.mp hy with rfl | hy
   ·have z := m.ok
    unfold PyData.strOk at z
    rw [← Array.all_toList, List.all_eq_true] at z
    exact of_decide_eq_true (z c h)
   ·obtain ⟨i, hi, rfl⟩ := List.mem_map.mp hy
    have := num_sign (hb i hi).1 c h
    omega
 have kN : ∀ {nm : Str} {l : List Int}, l.length ≤ 10 → ∀ h, S 14 23 [.tup (.str nm :: l.map .int)] h = .ok (.bl true) h := fun {nm l} hl h => by
  refine k_tup 13 _ (by rw [List.length_cons, List.length_map]; omega) (fun d hd h => ?_) h
  rcases List.mem_cons.mp hd with rfl | hd
  ·exact k_str _ _ _
  ·obtain ⟨i, _, rfl⟩ := List.mem_map.mp hd
   exact k_int _ _ _
 have T1 : TT (.tup [.str "word", .int wd]) (thingT "word" [wd]) := ⟨fun h => ⟨[], by rw [List.append_nil]; exact e_showN 13 nm_w b1 (by show 1 ≤ 10; omega) h⟩, fun h => ⟨[], by
  rw [List.append_nil]
  refine e_readN 7 nm_w b1 (by show 1 ≤ 10; omega) (.inl (show pln 6 (.tup [.str "word", .int wd]) = true by simp only [pln_non, pln_bl, pln_int, pln_str, pln_tupp, pln_lstt, plns_nil, plns_cons, Nat.reduceSub, Bool.and_true, Bool.true_and, Bool.and_self, Nat.reduceLT, Nat.zero_lt_succ, so0, so1, so2, so3, so4, so5, so6, so7, so8, so9, so10, so11, so12, so13, so14])) ?_ h
  show (eqB (.str "word") (.str "word") && inB 59 (.int wd)) = true
  rw [show eqB (.str "word") (.str "word") = true by decide +kernel]
  simp only [inB, Bool.true_and, Bool.and_eq_true, decide_eq_true_eq]
  omega⟩, kN (l := [wd]) (by show 1 ≤ 10; omega), by simp only [pln_non, pln_bl, pln_int, pln_str, pln_tupp, pln_lstt, plns_nil, plns_cons, Nat.reduceSub, Bool.and_true, Bool.true_and, Bool.and_self, Nat.reduceLT, Nat.zero_lt_succ, so0, so1, so2, so3, so4, so5, so6, so7, so8, so9, so10, so11, so12, so13, so14], okT nm_w b1⟩
 have T2 : TT (.tup [.str "strike", .int pot, .int side, .int nu]) (thingT "strike" [pot, side, nu]) := ⟨fun h => ⟨[], by rw [List.append_nil]; exact e_showN 13 nm_s b3 (by show 3 ≤ 10; omega) h⟩, fun h => ⟨[], by
  rw [List.append_nil]
  refine e_readN 7 nm_s b3 (by show 3 ≤ 10; omega) (.inl (show pln 6 (.tup [.str "strike", .int pot, .int side, .int nu]) = true by simp only [pln_non, pln_bl, pln_int, pln_str, pln_tupp, pln_lstt, plns_nil, plns_cons, Nat.reduceSub, Bool.and_true, Bool.true_and, Bool.and_self, Nat.reduceLT, Nat.zero_lt_succ, so0, so1, so2, so3, so4, so5, so6, so7, so8, so9, so10, so11, so12, so13, so14])) ?_ h
  show (inB 2 (.int pot) && (inB 1 (.int side) && (if eqB (.str "strike") (.str "strike") = true then inB 1000000 (.int nu) else eqB (.str "strike") (.str "agree") && standB (.int nu)))) = true
  rw [show eqB (.str "strike") (.str "strike") = true by decide +kernel, if_pos rfl]
  simp only [inB, Bool.and_eq_true, decide_eq_true_eq]
  omega⟩, kN (l := [pot, side, nu]) (by show 3 ≤ 10; omega), by simp only [pln_non, pln_bl, pln_int, pln_str, pln_tupp, pln_lstt, plns_nil, plns_cons, Nat.reduceSub, Bool.and_true, Bool.true_and, Bool.and_self, Nat.reduceLT, Nat.zero_lt_succ, so0, so1, so2, so3, so4, so5, so6, so7, so8, so9, so10, so11, so12, so13, so14], okT nm_s b3⟩
 have T3 : TT (.tup [.str "agree", .int pot, .int side, stD n s ts]) (agreeT pot side n s ts) := ⟨fun h => ⟨_, e_showA 12 B bp bs h⟩, fun h => ⟨_, e_readA 7 B ok (by omega) (by omega) h⟩, fun h => by
  refine k_tup 13 _ (by show 4 ≤ 1000; omega) (fun d hd h => ?_) h
  simp only [List.mem_cons, List.not_mem_nil, or_false] at hd
  rcases hd with rfl | rfl | rfl | rfl
  ·exact k_str _ _ _
  ·exact k_int _ _ _
  ·exact k_int _ _ _
  ·exact k_stand 9 n s tk.1 h, by
  have z := pln_st n s ts 59
  show plns 62 [.str "agree", .int pot, .int side, stD n s ts] = true
  have a : pln 62 (.str "agree") = true := by simp only [pln_non, pln_bl, pln_int, pln_str, pln_tupp, pln_lstt, plns_nil, plns_cons, Nat.reduceSub, Bool.and_true, Bool.true_and, Bool.and_self, Nat.reduceLT, Nat.zero_lt_succ, so0, so1, so2, so3, so4, so5, so6, so7, so8, so9, so10, so11, so12, so13, so14]
  simp only [plns_cons, a, z, Bool.true_and]
  rfl, strOk_of fun c hc => by
  unfold agreeT at hc
  simp only [TL.tl_append, List.mem_append] at hc
  have sp : ∀ c ∈ TL.tl (" " : Str), c < 1114112 := by decide +kernel
  have ag : ∀ c ∈ TL.tl ("agree " : Str), c < 1114112 := by decide +kernel
  rcases hc with ((((hc | hc) | hc) | hc) | hc) | hc
  ·exact ag c hc
  ·have := num_sign bp.1 c hc; omega
  ·exact sp c hc
  ·have := num_sign bs.1 c hc; omega
  ·exact sp c hc
  ·have := standT_sign B c hc; omega⟩
 have add : ∀ {a b : Str} {m l : Nat}, a.length ≤ m → b.length ≤ l → m + l ≤ 16777216 → (∀ h, opAdd h (.str a) (.str b) = some (.str (a ++ b))) ∧ (a ++ b).length ≤ m + l := fun {a b m l} ha hb hl => ⟨fun h => add_str (by omega) h, by rw [app_len]; omega⟩
 have lw : ("word " : Str).length ≤ 10 := by decide +kernel
 have lk : ("strike " : Str).length ≤ 10 := by decide +kernel
 obtain ⟨w1, _⟩ := add lw (num_len bw).2 (by omega)
 rw [wordT_eq] at w1
 obtain ⟨k1, m1⟩ := add lk (num_len bp).2 (by omega)
 obtain ⟨k2, m2⟩ := add m1 (Nat.le_of_eq l_sp) (by omega)
 obtain ⟨k3, m3⟩ := add m2 (num_len bs).2 (by omega)
 obtain ⟨k4, m4⟩ := add m3 (Nat.le_of_eq l_sp) (by omega)
 obtain ⟨k5, m5⟩ := add m4 (num_len bn).2 (by omega)
 rw [strikeT_eq] at k5
 obtain ⟨g1, o1⟩ := add l_agree (num_len bp).2 (by omega)
 obtain ⟨g2, o2⟩ := add o1 (Nat.le_of_eq l_sp) (by omega)
 obtain ⟨g3, o3⟩ := add o2 (num_len bs).2 (by omega)
 obtain ⟨g4, o4⟩ := add o3 (Nat.le_of_eq l_sp) (by omega)
 obtain ⟨g5, o5⟩ := add o4 (standT_len B) (by omega)
 have g5 : ∀ h, opAdd h (.str ("agree " ++ num pot ++ " " ++ num side ++ " ")) (.str (standT n s ts)) = some (.str (agreeT pot side n s ts)) := g5
 clear m1 m2 m3 m4 m5 o1 o2 o3 o4 o5 lw lk
 have sw := b_str bw
 have sp := b_str bp
 have sS := b_str bs
 have sN := b_str bn
 obtain ⟨H0, eH0⟩ : ∃ H0, H0 = ([] : Hh) ++ [Sb.O.lst (ts.map Ti.D)] := ⟨_, rfl⟩
 obtain ⟨H1, eH1⟩ : ∃ H1, H1 = H0 ++ [Sb.O.lst ((wordsT n s ts).map .str)] := ⟨_, rfl⟩
 have rs0 := rs []
 rw [← eH0] at rs0
 have ss0 := ss H0
 rw [← eH1] at ss0
 obtain ⟨xs2, exs2⟩ : ∃ xs2, xs2 = [D.str (thingT "word" [wd]), .str (thingT "strike" [pot, side, nu])] := ⟨_, rfl⟩
 obtain ⟨xs3, exs3⟩ : ∃ xs3, xs3 = [D.str (thingT "word" [wd]), .str (thingT "strike" [pot, side, nu]), .str (agreeT pot side n s ts)] := ⟨_, rfl⟩
 obtain ⟨td, etd⟩ : ∃ td, td = [D.tup [.str "word", .int wd], .tup [.str "strike", .int pot, .int side, .int nu], .tup [.str "agree", .int pot, .int side, stD n s ts]] := ⟨_, rfl⟩
 have eL : (H1 ++ [Sb.O.lst xs2])[H1.length]? = some (.lst xs2) := by rw [List.getElem?_append_right (Nat.le_refl _), Nat.sub_self]; rfl
 have ap := append_ref eL (by rw [exs2]; show 2 < _; omega) (.str (agreeT pot side n s ts))
 have cl := cLst_ref eL
 rw [show xs2 ++ [D.str (agreeT pot side n s ts)] = xs3 by rw [exs2, exs3]; rfl, List.set_append_right _ _ (Nat.le_refl _), Nat.sub_self, List.set_cons_zero] at ap
 have lz : td.length = xs3.length := by rw [etd, exs3]; rfl
 have turn : ∀ (i : Nat) (x y : D), td[i]? = some x → xs3[i]? = some y → ∃ t, y = .str t ∧ TT x t := fun i x y hx hy => by
  rw [etd] at hx
  rw [exs3] at hy
  match i with
  | 0 =>
   obtain rfl := Option.some.inj hx
   obtain rfl := Option.some.inj hy
   exact ⟨_, rfl, T1⟩
  | 1 =>
   obtain rfl := Option.some.inj hx
   obtain rfl := Option.some.inj hy
   exact ⟨_, rfl, T2⟩
  | 2 =>
   obtain rfl := Option.some.inj hx
   obtain rfl := Option.some.inj hy
   exact ⟨_, rfl, T3⟩
  | i + 3 => cases hx
 obtain ⟨e', h', lq, rfl, a, rfl⟩ := forZ_ref (g := .tp [.nm 11, .nm 12]) (b := evB (M 14) none b24_0) (j := H1.length) (I := fun _ e h => e = [some (.scr ns), some (.int cell), some (stD n s ts), some (.str (standT n s ts)), some (stD n s ts), some (.int pot), some (.int side), some (.int nu), some (.lst td), some (.ref H1.length), none, none, none, none] ∧ ∃ a, h = (H1 ++ [Sb.O.lst xs3]) ++ a) lz (fun i e h ⟨_, a, hh⟩ => by
  rw [hh, List.append_assoc, List.getElem?_append_right (Nat.le_refl _), Nat.sub_self]; rfl) (fun i x y e h hx hy ⟨he, a, hh⟩ => by
  subst he
  subst hh
  obtain ⟨t, rfl, T0⟩ := turn i x y hx hy
  refine ⟨_, rfl, ?_⟩
  obtain ⟨b, q⟩ := e_turn61 T0 (some (.scr ns)) (some (.int cell)) (some (stD n s ts)) (some (.str (standT n s ts))) (some (stD n s ts)) (some (.int pot)) (some (.int side)) (some (.int nu)) (some (.lst td)) (some (.ref H1.length)) none none ((H1 ++ [Sb.O.lst xs3]) ++ a)
  exact ⟨_, _, q, rfl, a ++ b, by rw [List.append_assoc _ a b]⟩) td.length 0 [some (.scr ns), some (.int cell), some (stD n s ts), some (.str (standT n s ts)), some (stD n s ts), some (.int pot), some (.int side), some (.int nu), some (.lst td), some (.ref H1.length), none, none, none, none] (H1 ++ [Sb.O.lst xs3]) (Nat.zero_add _) ⟨rfl, [], by rw [List.append_nil]⟩
 rw [← forZ_eq lz (by rw [List.getElem?_append_right (Nat.le_refl _), Nat.sub_self]; rfl)] at lq
 obtain ⟨far, efar⟩ : ∃ far, far = c2 % 1000000000000000000000000000000 := ⟨_, rfl⟩
 have bf : Nb far := ⟨by omega, by omega⟩
 have sf := b_str bf
 have rf := fun h => e_rnum 13 bf h
 have ef := fun h => eq_self61 (d := .int far) h rfl
 have nw2 : ∀ e, dNew dNil e H1 = .ok (.ref H1.length) (H1 ++ [.lst []]) := fun e => rfl
 refine ⟨H1 ++ [Sb.O.lst xs3] ++ a, ?_⟩
 rw [q24]
 subst etd
 subst exs2
 generalize (H1 ++ [Sb.O.lst xs3]) ++ a = H9 at *
 generalize H1 ++ [Sb.O.lst xs3] = H3 at *
 clear T1 T2 T3 turn okT kN add ec ec1 ec2 en lz B ok tk sa sb eH0 eH1 eL exs3
 generalize thingT "word" [wd] = tW at *
 generalize thingT "strike" [pot, side, nu] = tS at *
 generalize agreeT pot side n s ts = tA at *
 generalize "strike " ++ num pot ++ " " ++ num side ++ " " = K4 at *
 generalize "strike " ++ num pot ++ " " ++ num side = K3 at *
 generalize "strike " ++ num pot ++ " " = K2 at *
 generalize "strike " ++ num pot = K1 at *
 generalize "agree " ++ num pot ++ " " ++ num side ++ " " = G4 at *
 generalize "agree " ++ num pot ++ " " ++ num side = G3 at *
 generalize "agree " ++ num pot ++ " " = G2 at *
 generalize "agree " ++ num pot = G1 at *
 generalize num wd = n1 at *
 generalize num pot = n2 at *
 generalize num side = n3 at *
 generalize num nu = n4 at *
 generalize num far = n5 at *
 generalize standT n s ts = sT at *
 generalize stD n s ts = sD at *
 simp_all! only [1, b24, a0, a1, a2, ix, st, lt, rs0, ss0, nt, nst, ks, ← epo, ← esd, ← enu, ← ewd, sw, sp, sS, sN, w1, k1, k2, k3, k4, k5, g1, g2, g3, g4, g5, dNew, ap, cl, for_zipE, lq, ← efar, sf, rf, ef, i0, est]
end P
theorem PySem.Challenge.cw_sidebook_k61_stands_and_things_as_texts_holds : PySem.Challenge.rw_sidebook_k61_stands_and_things_as_texts.Holds := by
 exact eLaw P.law_true
