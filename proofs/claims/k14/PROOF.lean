import PyProof.Rows.All
import Wide.All
import OpenK.AllK
import Wide.FinOn
import PySem.Challenge.RW_sidebook_k14_deeds_in_the_book
import HandS.ForMost
import HandS.Exc
import HandS.TryOnly
import HandS.ExcOwn
import HandS.WordsExc
import HandS.IsInst
import HandS.Deep
import HandS.Defaults
import HandS.CallSlots
import HandS.Wide
import HandS.TupAny
import HandS.Style
import HandS.TryMany
import HandS.ExcIs
import HandS.HeadHook2
import HandS.HeadEnd
import HandS.Head0
import HandS.Head1
import HandS.Head2
import HandS.DictComp
import HandS.TupMul
import KE.KEqNest
import HandS.SetFor
import HandS.SortInts
import HandS.SetKeys
import HandS.Iter
import HandS.More
import HandS.HeadHook3
import HandS.Conv
import HandS.Strs
import KE.KDictSum
import HandS.Finally
set_option Elab.async false
set_option linter.all false
set_option maxRecDepth 100000
set_option maxHeartbeats 0
/-! Sb1: data, the small heap, how they lie in the hand layer's heap. -/
namespace Sb
open PySem L2
/-- data: frozen lists, dicts and instances are never written; ref n is the n-th object of the small heap -/
inductive D where
  | non | bl (b : Bool) | int (i : Int) | str (x : Str)
  | tup (l : List D) | lst (l : List D) | dct (l : List (Key × D)) | ins (c : Nat) (fs : List (Str × D)) | ref (n : Nat) | scr (l : List Int)
inductive O where
  | lst (l : List D) | dct (l : List (Key × D)) | ins (c : Nat) (fs : List (Str × D)) | lck (o : O)
abbrev Hh := List O
abbrev En := List (Option D)
/-- a piece's end: a value, an exception of the c-th class with its fields, or nothing is said -/
inductive R (α : Type) where
  | ok (a : α) (h : Hh) | exc (c : Nat) (fs : List (Str × D)) (h : Hh) | fail
def R.bind {α β : Type} (r : R α) (k : α → Hh → R β) : R β := match r with
  | .ok a h => k a h
  | .exc c fs h => .exc c fs h
  | .fail => .fail
/-- a statement's end -/
inductive RS where
  | nx (e : En) (h : Hh) | rt (d : D) (h : Hh) | bk (e : En) (h : Hh) | ct (e : En) (h : Hh) | exc (c : Nat) (fs : List (Str × D)) (e : En) (h : Hh) | fail

structure Cg where
  K : PySem.W.Frag
  cad : Nat → Addr
/-- cur: the slot of the exception that is handled, its class, its address -/
structure Cf extends Cg where
  cur : Option (Nat × Nat × Addr)
instance : Coe Cf Cg := ⟨Cf.toCg⟩
/-- the script's list: read, never written -/
def SqF (K : PySem.W.Frag) (H : Hp) (a : Addr) (xs : List V) : Prop := (∃ o, H a = some (.frz o (.lst xs))) ∨
  ∃ (o : Obj) (its : Array Value) (n : Nat), K.lookup a = some o ∧ o.cls = .type "list" ∧ o.dict = none ∧ o.data = .seq its n ∧ its.size ≤ sizeLine ∧ Vals xs its.toList
theorem SqF.sq {K : PySem.W.Frag} {H : Hp} {a : Addr} {xs : List V} (h : SqF K H a xs) : SqL K H a xs := h.elim (fun h => .inl (.inr h)) .inr
theorem sqF_of {K : PySem.W.Frag} {H : Hp} {a : Addr} {xs : List V} (h : SqL K H a xs) (o : Only H) : SqF K H a xs := by
  rcases h with (h | h) | h
  · rcases o a with z | ⟨_, _, z⟩ <;> rw [z] at h <;> cases h
  · exact .inl h
  · exact .inr h
structure Rho where
  r : Nat → Addr
  n : Nat
  B : Addr → Prop

mutual
inductive VD (G : Cg) (S : Rho) (H : Hp) : D → V → Prop
  | non : VD G S H .non .non
  | bl (b : Bool) : VD G S H (.bl b) (.bl b)
  | int (i : Int) : VD G S H (.int i) (.int i)
  | str (x : Str) : VD G S H (.str x) (.str x)
  | tup {l : List D} {a : Addr} {vs : List V} : SqT G.K H a vs → VDs G S H l vs → VD G S H (.tup l) (.ref a)
  | scr {ns : List Int} {a : Addr} : SqF G.K H a (ns.map V.int) → VD G S H (.scr ns) (.ref a)
  | lst {l : List D} {a : Addr} {vs : List V} : H a = some (.lst vs) → ¬ S.B a → VDs G S H l vs → VD G S H (.lst l) (.ref a)
  | dct {l : List (Key × D)} {a : Addr} {vs : List (Key × V)} : Rd H a (.dK vs) → ¬ S.B a → VDk G S H l vs → VD G S H (.dct l) (.ref a)
  | ins {c : Nat} {fs : List (Str × D)} {a dx : Addr} {gs : List (Str × V)} : H a = some (.ins (G.cad c) dx gs) → ¬ S.B a → VDf G S H fs gs → VD G S H (.ins c fs) (.ref a)
  | ref {i : Nat} : i < S.n → VD G S H (.ref i) (.ref (S.r i))
inductive VDs (G : Cg) (S : Rho) (H : Hp) : List D → List V → Prop
  | nil : VDs G S H [] []
  | cons {d : D} {v : V} {l : List D} {vs : List V} : VD G S H d v → VDs G S H l vs → VDs G S H (d :: l) (v :: vs)
inductive VDk (G : Cg) (S : Rho) (H : Hp) : List (Key × D) → List (Key × V) → Prop
  | nil : VDk G S H [] []
  | cons {k : Key} {d : D} {v : V} {l : List (Key × D)} {vs : List (Key × V)} : VD G S H d v → VDk G S H l vs → VDk G S H ((k, d) :: l) ((k, v) :: vs)
inductive VDf (G : Cg) (S : Rho) (H : Hp) : List (Str × D) → List (Str × V) → Prop
  | nil : VDf G S H [] []
  | cons {k : Str} {d : D} {v : V} {l : List (Str × D)} {vs : List (Str × V)} : VD G S H d v → VDf G S H l vs → VDf G S H ((k, d) :: l) ((k, v) :: vs)
end
/-- an object of the small heap at a -/
inductive OD (G : Cg) (S : Rho) (H : Hp) (a : Addr) : O → Prop
  | lst {l : List D} {vs : List V} : H a = some (.lst vs) → VDs G S H l vs → OD G S H a (.lst l)
  | dct {l : List (Key × D)} {vs : List (Key × V)} : H a = some (.dK vs) → VDk G S H l vs → OD G S H a (.dct l)
  | ins {c : Nat} {fs : List (Str × D)} {dx : Addr} {gs : List (Str × V)} : H a = some (.ins (G.cad c) dx gs) → VDf G S H fs gs → OD G S H a (.ins c fs)
  | lckL {l : List D} {vs : List V} : H a = some (.lst vs) → VDs G S H l vs → OD G S H a (.lck (.lst l))
  | lckD {l : List (Key × D)} {vs : List (Key × V)} {ob : Obj} : H a = some (.frz ob (.dK vs)) → VDk G S H l vs → OD G S H a (.lck (.dct l))
theorem VDs.length {G : Cg} {S : Rho} {H : Hp} : ∀ {l : List D} {vs : List V}, VDs G S H l vs → l.length = vs.length
  | _, _, .nil => rfl
  | _, _, .cons _ t => congrArg Nat.succ t.length
theorem VDs.append {G : Cg} {S : Rho} {H : Hp} : ∀ {l m : List D} {vs ws : List V}, VDs G S H l vs → VDs G S H m ws → VDs G S H (l ++ m) (vs ++ ws)
  | _, _, _, _, .nil, b => b
  | _, _, _, _, .cons a t, b => .cons a (t.append b)
theorem VDs.drop {G : Cg} {S : Rho} {H : Hp} : ∀ {l : List D} {vs : List V} (n : Nat), VDs G S H l vs → VDs G S H (l.drop n) (vs.drop n)
  | _, _, 0, t => t
  | _, _, _ + 1, .nil => .nil
  | _, _, n + 1, .cons _ t => t.drop n
theorem VDs.take {G : Cg} {S : Rho} {H : Hp} : ∀ {l : List D} {vs : List V} (n : Nat), VDs G S H l vs → VDs G S H (l.take n) (vs.take n)
  | _, _, 0, _ => .nil
  | _, _, _ + 1, .nil => .nil
  | _, _, n + 1, .cons a t => .cons a (t.take n)
theorem VDs.get {G : Cg} {S : Rho} {H : Hp} : ∀ {l : List D} {vs : List V} {i : Nat} {d : D}, VDs G S H l vs → l[i]? = some d → ∃ v, vs[i]? = some v ∧ VD G S H d v
  | _, _, _, _, .nil, e => by simp at e
  | _, _, 0, _, .cons a _, e => by simp at e; subst e; exact ⟨_, rfl, a⟩
  | _, _, i + 1, d, .cons _ t, e => by
    obtain ⟨v, h1, h2⟩ := VDs.get (i := i) (d := d) t (by simpa using e)
    exact ⟨v, by simpa using h1, h2⟩
theorem VDs.set {G : Cg} {S : Rho} {H : Hp} {d : D} {v : V} (r : VD G S H d v) : ∀ {l : List D} {vs : List V} (i : Nat), VDs G S H l vs → VDs G S H (l.set i d) (vs.set i v)
  | _, _, _, .nil => .nil
  | _, _, 0, .cons _ t => .cons r t
  | _, _, i + 1, .cons q t => .cons q (VDs.set r i t)
theorem VDs.ints {G : Cg} {S : Rho} {H : Hp} : ∀ (ns : List Int), VDs G S H (ns.map D.int) (ns.map V.int)
  | [] => .nil
  | n :: ns => .cons (.int n) (VDs.ints ns)
structure Rel (G : Cg) (S : Rho) (h : Hh) (H : Hp) : Prop where
  len : h.length = S.n
  bad : ∀ i, i < S.n → S.B (S.r i)
  inj : ∀ i j, i < S.n → j < S.n → S.r i = S.r j → i = j
  live : ∀ b, S.B b → H b ≠ none
  obj : ∀ i o, h[i]? = some o → OD G S H (S.r i) o
/-- how the heap goes on -/
structure Nx (G : Cg) (S : Rho) (H : Hp) (S' : Rho) (H' : Hp) : Prop where
  n : S.n ≤ S'.n
  r : ∀ i, i < S.n → S'.r i = S.r i
  new : ∀ i, S.n ≤ i → i < S'.n → H (S'.r i) = none
  up : ∀ b, S.B b → S'.B b
  dn : ∀ b, S'.B b → S.B b ∨ H b = none
  keep : ∀ b u, (∀ i, i < S.n → S.r i ≠ b) → H b = some u → H' b = some u
  there : ∀ b, H b ≠ none → H' b ≠ none
  seqT : ∀ a xs, SqT G.K H a xs → SqT G.K H' a xs
  seqF : ∀ a xs, SqF G.K H a xs → SqF G.K H' a xs
  frz : ∀ b o u, H b = some (.frz o u) → H' b = some (.frz o u)
section
variable {G : Cg} {S S1 S2 : Rho} {H H1 H2 : Hp}
theorem Nx.refl : Nx G S H S H := ⟨Nat.le_refl _, fun _ _ => rfl, fun i a b => absurd b (Nat.not_lt.mpr a), fun _ z => z, fun _ z => .inl z, fun _ _ _ e => e, fun _ e => e, fun _ _ e => e, fun _ _ e => e, fun _ _ _ e => e⟩
theorem Nx.trans (a : Nx G S H S1 H1) (b : Nx G S1 H1 S2 H2) : Nx G S H S2 H2 where
  n := Nat.le_trans a.n b.n
  r := fun i hi => (b.r i (Nat.lt_of_lt_of_le hi a.n)).trans (a.r i hi)
  new := fun i h1 h2 => by
    by_cases hi : i < S1.n
    · rw [b.r i hi]; exact a.new i h1 hi
    · have q := b.new i (Nat.not_lt.mp hi) h2
      cases e : H (S2.r i) with
      | none => rfl
      | some u => exact absurd q (a.there _ (by rw [e]; simp))
  up := fun c z => b.up c (a.up c z)
  dn := fun c z => by
    rcases b.dn c z with z | z
    · exact a.dn c z
    · cases e : H c with
      | none => exact .inr rfl
      | some u => exact absurd z (a.there c (by rw [e]; simp))
  keep := fun c u h e => b.keep c u (fun i hi z => by
    by_cases hn : i < S.n
    · exact h i hn ((a.r i hn).symm.trans z)
    · have q := a.new i (Nat.not_lt.mp hn) hi
      rw [z, e] at q; cases q) (a.keep c u h e)
  there := fun c e => b.there c (a.there c e)
  seqT := fun c xs e => b.seqT c xs (a.seqT c xs e)
  seqF := fun c xs e => b.seqF c xs (a.seqF c xs e)
  frz := fun c o u e => b.frz c o u (a.frz c o u e)
theorem Nx.badNe (R : ∀ i, i < S.n → S.B (S.r i)) {a : Addr} (nb : ¬ S.B a) : ∀ i, i < S.n → S.r i ≠ a := fun i hi e => nb (e ▸ R i hi)
theorem Nx.nb (N : Nx G S H S1 H1) {a : Addr} (nb : ¬ S.B a) (e : H a ≠ none) : ¬ S1.B a := fun z => by
  rcases N.dn a z with z | z
  · exact nb z
  · exact e z
theorem Rd.ne_none {a : Addr} {u : HO} (r : Rd H a u) : H a ≠ none := by
  rcases r with r | ⟨o, r⟩ <;> rw [r] <;> simp
theorem Nx.rd (N : Nx G S H S1 H1) (R : ∀ i, i < S.n → S.B (S.r i)) {a : Addr} {u : HO} (nb : ¬ S.B a) (e : Rd H a u) : Rd H1 a u := by
  rcases e with e | ⟨o, e⟩
  · exact .inl (N.keep a _ (Nx.badNe R nb) e)
  · exact .inr ⟨o, N.keep a _ (Nx.badNe R nb) e⟩
mutual
theorem VD.mono (N : Nx G S H S1 H1) (R : ∀ i, i < S.n → S.B (S.r i)) : ∀ {d : D} {v : V}, VD G S H d v → VD G S1 H1 d v
  | _, _, .non => .non
  | _, _, .bl b => .bl b
  | _, _, .int b => .int b
  | _, _, .str b => .str b
  | _, _, .tup a b => .tup (N.seqT _ _ a) (VDs.mono N R b)
  | _, _, .scr a => .scr (N.seqF _ _ a)
  | _, _, .lst a b c => .lst (N.keep _ _ (Nx.badNe R b) a) (N.nb b (by rw [a]; simp)) (VDs.mono N R c)
  | _, _, .dct a b c => .dct (N.rd R b a) (N.nb b (Rd.ne_none a)) (VDk.mono N R c)
  | _, _, .ins a b c => .ins (N.keep _ _ (Nx.badNe R b) a) (N.nb b (by rw [a]; simp)) (VDf.mono N R c)
  | _, _, .ref hi => by rw [← N.r _ hi]; exact .ref (Nat.lt_of_lt_of_le hi N.n)
theorem VDs.mono (N : Nx G S H S1 H1) (R : ∀ i, i < S.n → S.B (S.r i)) : ∀ {d : List D} {v : List V}, VDs G S H d v → VDs G S1 H1 d v
  | _, _, .nil => .nil
  | _, _, .cons a b => .cons (VD.mono N R a) (VDs.mono N R b)
theorem VDk.mono (N : Nx G S H S1 H1) (R : ∀ i, i < S.n → S.B (S.r i)) : ∀ {d : List (Key × D)} {v : List (Key × V)}, VDk G S H d v → VDk G S1 H1 d v
  | _, _, .nil => .nil
  | _, _, .cons a b => .cons (VD.mono N R a) (VDk.mono N R b)
theorem VDf.mono (N : Nx G S H S1 H1) (R : ∀ i, i < S.n → S.B (S.r i)) : ∀ {d : List (Str × D)} {v : List (Str × V)}, VDf G S H d v → VDf G S1 H1 d v
  | _, _, .nil => .nil
  | _, _, .cons a b => .cons (VD.mono N R a) (VDf.mono N R b)
end
end
/-- slots -/
structure EnR (G : Cf) (S : Rho) (H : Hp) (e : En) (σ : L2.St) : Prop where
  len : e.length = σ.length
  at_ : ∀ (i : Nat) (d : D), e[i]? = some (some d) → ∃ v : V, σ[i]? = some (some v) ∧ VD G S H d v
  cur : ∀ (i c : Nat) (a : Addr), G.cur = some (i, c, a) → σ[i]? = some (some (.ref a)) ∧ e[i]? = some none
theorem EnR.mono {G : Cf} {S S1 : Rho} {H H1 : Hp} {e : En} {σ : St} (E : EnR G S H e σ) (N : Nx G S H S1 H1) (R : ∀ i, i < S.n → S.B (S.r i)) : EnR G S1 H1 e σ :=
  ⟨E.len, fun i d h => let ⟨v, a, b⟩ := E.at_ i d h; ⟨v, a, b.mono N R⟩, E.cur⟩
/-- an exception's own dict -/
def ExD (G : Cg) (S : Rho) (H : Hp) (fs : List (Str × D)) (d : Option Addr) : Prop := (fs = [] ∧ d = none) ∨ (fs ≠ [] ∧ ∃ dd gs, d = some dd ∧ H dd = some (.xd gs) ∧ VDf G S H fs gs)

abbrev Wq := Value → Option Addr → Hp → Prop
def Pst (G : Cg) (W : Wq) (S : Rho) (H : Hp) {α β : Type} (rel : Rho → Hp → α → β → Prop) (r : R α) (Q : β → Hp → Prop) : Prop := match r with
  | .ok a h' => ∀ S' H' v, Nx G S H S' H' → Rel G S' h' H' → rel S' H' a v → Q v H'
  | .exc c fs h' => ∀ S' H' d, Nx G S H S' H' → Rel G S' h' H' → ExD G S' H' fs d → W (.ref (G.cad c)) d H'
  | .fail => False
theorem Pst.mono {G : Cg} {W : Wq} {S S1 : Rho} {H H1 : Hp} {α β : Type} {rel : Rho → Hp → α → β → Prop} {r : R α} {Q : β → Hp → Prop} (P : Pst G W S H rel r Q) (N : Nx G S H S1 H1) : Pst G W S1 H1 rel r Q := by
  cases r with
  | ok a h' => exact fun S' H' v n R x => P S' H' v (N.trans n) R x
  | exc c fs h' => exact fun S' H' d n R x => P S' H' d (N.trans n) R x
  | fail => exact P
theorem Pst.bind {G : Cg} {W : Wq} {S : Rho} {H : Hp} {α β γ δ : Type} {rel : Rho → Hp → α → β → Prop} {rel' : Rho → Hp → γ → δ → Prop} {r : R α} {k : α → Hh → R γ} {Q : δ → Hp → Prop} {Q' : β → Hp → Prop}
    (P : Pst G W S H rel' (r.bind k) Q) (step : ∀ a h1 S1 H1 v, r = .ok a h1 → Nx G S H S1 H1 → Rel G S1 h1 H1 → rel S1 H1 a v → Pst G W S1 H1 rel' (k a h1) Q → Q' v H1) : Pst G W S H rel r Q' := by
  cases r with
  | ok a h1 => exact fun S1 H1 v N R x => step a h1 S1 H1 v rfl N R x (Pst.mono (r := k a h1) P N)
  | exc c fs h' => exact P
  | fail => exact P
theorem Pst.imp {G : Cg} {W : Wq} {S : Rho} {H : Hp} {α β : Type} {rel : Rho → Hp → α → β → Prop} {r : R α} {Q Q' : β → Hp → Prop} (P : Pst G W S H rel r Q) (f : ∀ v H', Q v H' → Q' v H') : Pst G W S H rel r Q' := by
  cases r with
  | ok a h' => exact fun S' H' v n R x => f _ _ (P S' H' v n R x)
  | exc c fs h' => exact P
  | fail => exact P
/-- a value that stands already -/
theorem Pst.here {G : Cg} {W : Wq} {S : Rho} {H : Hp} {α β : Type} {rel : Rho → Hp → α → β → Prop} {a : α} {h : Hh} {v : β} {Q : β → Hp → Prop} (P : Pst G W S H rel (.ok a h) Q) (R : Rel G S h H) (x : rel S H a v) : Q v H := P S H v .refl R x

/-- readings -/
abbrev relV (G : Cg) : Rho → Hp → D → V → Prop := fun S H => VD G S H
abbrev relVs (G : Cg) : Rho → Hp → List D → List V → Prop := fun S H => VDs G S H
abbrev relB : Rho → Hp → Bool → Bool → Prop := fun _ _ a b => a = b
def tX (G : Cf) (W : WX) {α β : Type} (rel : Rho → Hp → α → β → Prop) (f : En → Hh → R α) : L2.St → Hp → (β → Hp → Prop) → Prop := fun σ H Q => ∃ S h e, Rel G S h H ∧ EnR G S H e σ ∧ Pst G (fun c d H => W c d σ H) S H rel (f e h) Q
abbrev tE (G : Cf) (W : WX) (f : En → Hh → R D) : TE := tX G W (relV G) f
abbrev tT (G : Cf) (W : WX) (f : En → Hh → R Bool) : TT := tX G W relB f
abbrev tA (G : Cf) (W : WX) (f : En → Hh → R (List D)) : TA := tX G W (relVs G) f
def PstS (G : Cf) (W : WX) (S : Rho) (H : Hp) (r : RS) (Z : Ends) : Prop := match r with
  | .nx e h => ∀ S' H' σ', Nx G S H S' H' → Rel G S' h H' → EnR G S' H' e σ' → Z.nx σ' H'
  | .rt d h => ∀ S' H' v, Nx G S H S' H' → Rel G S' h H' → VD G S' H' d v → Z.rt v H'
  | .bk e h => ∀ S' H' σ', Nx G S H S' H' → Rel G S' h H' → EnR G S' H' e σ' → Z.bk σ' H'
  | .ct e h => ∀ S' H' σ', Nx G S H S' H' → Rel G S' h H' → EnR G S' H' e σ' → Z.ct σ' H'
  | .exc c fs e h => ∀ S' H' σ' d, Nx G S H S' H' → Rel G S' h H' → EnR G S' H' e σ' → ExD G S' H' fs d → W (.ref (G.cad c)) d σ' H'
  | .fail => False
theorem PstS.mono {G : Cf} {W : WX} {S S1 : Rho} {H H1 : Hp} {r : RS} {Z : Ends} (P : PstS G W S H r Z) (N : Nx G S H S1 H1) : PstS G W S1 H1 r Z := by
  cases r with
  | nx e h => exact fun S' H' v n R x => P S' H' v (N.trans n) R x
  | rt e h => exact fun S' H' v n R x => P S' H' v (N.trans n) R x
  | bk e h => exact fun S' H' v n R x => P S' H' v (N.trans n) R x
  | ct e h => exact fun S' H' v n R x => P S' H' v (N.trans n) R x
  | exc c fs e h => exact fun S' H' σ' d n R x y => P S' H' σ' d (N.trans n) R x y
  | fail => exact P
def tS (G : Cf) (W : WX) (f : En → Hh → RS) : TS := fun Z σ H => ∃ S h e, Rel G S h H ∧ EnR G S H e σ ∧ PstS G W S H (f e h) Z
theorem PE.imp {X : Cx} {e : Expr} {t t' : TE} (p : PE X e t) (h : ∀ σ H Q, t' σ H Q → t σ H Q) : PE X e t' := ⟨fun pins s σ H Q I q => p.run pins s σ H Q I (h σ H Q q)⟩
theorem PT.imp {X : Cx} {e : Expr} {t t' : TT} (p : PT X e t) (h : ∀ σ H Q, t' σ H Q → t σ H Q) : PT X e t' := ⟨fun pins s σ H Q I q => p.run pins s σ H Q I (h σ H Q q)⟩
theorem PW.imp {X : Cx} {e : Expr} {t t' : TT} (p : PW X e t) (h : ∀ σ H Q, t' σ H Q → t σ H Q) : PW X e t' := ⟨fun w pins s σ H Q I q => p.run w pins s σ H Q I (h σ H Q q)⟩
theorem PA.imp {X : Cx} {e : List Expr} {t t' : TA} (p : PA X e t) (h : ∀ σ H Q, t' σ H Q → t σ H Q) : PA X e t' := ⟨fun ps pins s σ H Q I q => p.run ps pins s σ H Q I (h σ H Q q)⟩
theorem PS.imp {X : Cx} {e : Stmt} {t t' : TS} (p : PS X e t) (h : ∀ Z σ H, t' Z σ H → t Z σ H) : PS X e t' := ⟨fun pins s σ H Z I q => p.run pins s σ H Z I (h Z σ H q)⟩
theorem PSs.imp {X : Cx} {e : List Stmt} {t t' : TS} (p : PSs X e t) (h : ∀ Z σ H, t' Z σ H → t Z σ H) : PSs X e t' := ⟨fun pins s σ H Z I q => p.run pins s σ H Z I (h Z σ H q)⟩
/-- every tracked object is as it was -/
theorem Nx.same {G : Cg} {S : Rho} {H H1 : Hp} (k : ∀ b u, H b = some u → H1 b = some u) : Nx G S H S H1 where
  n := Nat.le_refl _
  r := fun _ _ => rfl
  new := fun i a b => absurd b (Nat.not_lt.mpr a)
  up := fun _ z => z
  dn := fun _ z => .inl z
  keep := fun b u _ e => k b u e
  there := fun b e => by
    cases q : H b with
    | none => exact absurd q e
    | some u => rw [k b u q]; simp
  seqT := fun a xs e => by
    rcases e with (e | ⟨o, e⟩) | e
    · exact .inl (.inl (k _ _ e))
    · exact .inl (.inr ⟨o, k _ _ e⟩)
    · exact .inr e
  seqF := fun a xs e => by
    rcases e with ⟨o, e⟩ | e
    · exact .inl ⟨o, k _ _ e⟩
    · exact .inr e
  frz := fun b o u e => k _ _ e
theorem OD.mono {G : Cg} {S S1 : Rho} {H H1 : Hp} {a : Addr} {o : O} (h : OD G S H a o) (N : Nx G S H S1 H1) (R : ∀ i, i < S.n → S.B (S.r i)) (e : ∀ u, H a = some u → H1 a = some u) : OD G S1 H1 a o := by
  cases h with
  | lst q v => exact .lst (e _ q) (v.mono N R)
  | dct q v => exact .dct (e _ q) (v.mono N R)
  | ins q v => exact .ins (e _ q) (v.mono N R)
  | lckL q v => exact .lckL (e _ q) (v.mono N R)
  | lckD q v => exact .lckD (e _ q) (v.mono N R)
theorem Rel.same {G : Cg} {S : Rho} {h : Hh} {H H1 : Hp} (R : Rel G S h H) (k : ∀ b u, H b = some u → H1 b = some u) : Rel G S h H1 :=
  ⟨R.len, R.bad, R.inj, fun b z => (Nx.same (G := G) (S := S) k).there b (R.live b z), fun i o e => (R.obj i o e).mono (.same k) R.bad fun u q => k _ u q⟩
theorem keeps_new {H : Hp} {p : Addr} {o : HO} (hp : H p = none) : ∀ b u, H b = some u → upd H p o b = some u := fun b u e => by rw [upd_ne (ne_of_none e hp)]; exact e
theorem Rel.nb {G : Cg} {S : Rho} {h : Hh} {H : Hp} (R : Rel G S h H) {p : Addr} (hp : H p = none) : ¬ S.B p := fun z => R.live p z hp
/-- a new tuple, a new frozen list -/
theorem new_tup {G : Cg} {S : Rho} {h : Hh} {H : Hp} {l : List D} {vs : List V} {p : Addr} (R : Rel G S h H) (r : VDs G S H l vs) (hp : H p = none) :
    Nx G S H S (upd H p (.tup vs)) ∧ Rel G S h (upd H p (.tup vs)) ∧ VD G S (upd H p (.tup vs)) (.tup l) (.ref p) :=
  ⟨.same (keeps_new hp), R.same (keeps_new hp), .tup (SqT.of upd_same) (r.mono (.same (keeps_new hp)) R.bad)⟩
theorem new_lst {G : Cg} {S : Rho} {h : Hh} {H : Hp} {l : List D} {vs : List V} {p : Addr} (R : Rel G S h H) (r : VDs G S H l vs) (hp : H p = none) :
    Nx G S H S (upd H p (.lst vs)) ∧ Rel G S h (upd H p (.lst vs)) ∧ VD G S (upd H p (.lst vs)) (.lst l) (.ref p) :=
  ⟨.same (keeps_new hp), R.same (keeps_new hp), .lst upd_same (R.nb hp) (r.mono (.same (keeps_new hp)) R.bad)⟩
theorem new_dct {G : Cg} {S : Rho} {h : Hh} {H : Hp} {l : List (Key × D)} {vs : List (Key × V)} {p : Addr} (R : Rel G S h H) (r : VDk G S H l vs) (hp : H p = none) :
    Nx G S H S (upd H p (.dK vs)) ∧ Rel G S h (upd H p (.dK vs)) ∧ VD G S (upd H p (.dK vs)) (.dct l) (.ref p) :=
  ⟨.same (keeps_new hp), R.same (keeps_new hp), .dct (.inl upd_same) (R.nb hp) (r.mono (.same (keeps_new hp)) R.bad)⟩
/-- a new object of the small heap -/
def Rho.push (S : Rho) (p : Addr) : Rho := ⟨fun i => if i = S.n then p else S.r i, S.n + 1, fun b => S.B b ∨ b = p⟩
theorem Nx.push {G : Cg} {S : Rho} {H : Hp} {p : Addr} {o : HO} (hp : H p = none) : Nx G S H (S.push p) (upd H p o) where
  n := Nat.le_succ _
  r := fun i hi => if_neg (Nat.ne_of_lt hi)
  new := fun i h1 h2 => by
    have e : i = S.n := Nat.le_antisymm (Nat.le_of_lt_succ h2) h1
    subst e
    show H (if S.n = S.n then p else S.r S.n) = none
    rw [if_pos rfl]; exact hp
  up := fun b z => .inl z
  dn := fun b z => z.elim .inl fun e => .inr (by rw [e]; exact hp)
  keep := fun b u _ e => keeps_new hp b u e
  there := (Nx.same (G := G) (S := S) (keeps_new hp)).there
  seqT := (Nx.same (G := G) (S := S) (keeps_new hp)).seqT
  seqF := (Nx.same (G := G) (S := S) (keeps_new hp)).seqF
  frz := (Nx.same (G := G) (S := S) (keeps_new hp)).frz
theorem Rel.push {G : Cg} {S : Rho} {h : Hh} {H : Hp} {p : Addr} {u : HO} {o : O} (R : Rel G S h H) (hp : H p = none) (ho : OD G (S.push p) (upd H p u) p o) : Rel G (S.push p) (h ++ [o]) (upd H p u) where
  len := by rw [List.length_append, R.len]; rfl
  bad := fun i hi => by
    show S.B (if i = S.n then p else S.r i) ∨ (if i = S.n then p else S.r i) = p
    by_cases e : i = S.n
    · rw [if_pos e]; exact .inr rfl
    · rw [if_neg e]; exact .inl (R.bad i (by have h2 : i < S.n + 1 := hi; omega))
  inj := fun i j hi hj e => by
    have hi2 : i < S.n + 1 := hi
    have hj2 : j < S.n + 1 := hj
    have e2 : (if i = S.n then p else S.r i) = (if j = S.n then p else S.r j) := e
    have np : ∀ k, k < S.n → S.r k ≠ p := fun k hk z => R.nb hp (z ▸ R.bad k hk)
    by_cases a : i = S.n
    · by_cases b : j = S.n
      · rw [a, b]
      · rw [if_pos a, if_neg b] at e2
        exact absurd e2.symm (np j (by omega))
    · by_cases b : j = S.n
      · rw [if_neg a, if_pos b] at e2
        exact absurd e2 (np i (by omega))
      · rw [if_neg a, if_neg b] at e2
        exact R.inj i j (by omega) (by omega) e2
  live := fun b z => by
    rcases z with z | z
    · exact (Nx.same (G := G) (S := S) (keeps_new hp)).there b (R.live b z)
    · rw [z, upd_same]; simp
  obj := fun i q e => by
    by_cases hi : i < S.n
    · have e2 : h[i]? = some q := by rw [List.getElem?_append_left (by rw [R.len]; exact hi)] at e; exact e
      have r : (S.push p).r i = S.r i := if_neg (Nat.ne_of_lt hi)
      rw [r]
      exact (R.obj i q e2).mono (.push hp) R.bad fun u z => keeps_new hp _ u z
    · have hl := R.len
      rw [List.getElem?_append_right (by omega)] at e
      by_cases z : i = S.n
      · subst z
        rw [hl, Nat.sub_self] at e
        cases e
        have r : (S.push p).r S.n = p := if_pos rfl
        rw [r]; exact ho
      · rw [List.getElem?_eq_none (by simp; omega)] at e
        cases e
/-- an object of the small heap is written -/
theorem Nx.write {G : Cg} {S : Rho} {h : Hh} {H : Hp} {i : Nat} {u o : HO} (R : Rel G S h H) (hi : i < S.n) (he : H (S.r i) = some u) (hm : ∀ xs, u ≠ .tup xs) (hf : ∀ ob v, u ≠ .frz ob v) : Nx G S H S (upd H (S.r i) o) where
  n := Nat.le_refl _
  r := fun _ _ => rfl
  new := fun i a b => absurd b (Nat.not_lt.mpr a)
  up := fun _ z => z
  dn := fun _ z => .inl z
  keep := fun b v n e => by rw [upd_ne (fun z => n i hi z.symm)]; exact e
  there := fun b e => by
    by_cases z : b = S.r i
    · rw [z, upd_same]; simp
    · rw [upd_ne z]; exact e
  seqT := fun a xs e => by
    rcases e with (e | ⟨ob, e⟩) | e
    · exact .inl (.inl (by rw [upd_ne (fun z => by rw [z, he] at e; exact hm xs (Option.some.inj e))]; exact e))
    · exact .inl (.inr ⟨ob, by rw [upd_ne (fun z => by rw [z, he] at e; exact hf ob _ (Option.some.inj e))]; exact e⟩)
    · exact .inr e
  seqF := fun a xs e => by
    rcases e with ⟨ob, e⟩ | e
    · exact .inl ⟨ob, by rw [upd_ne (fun z => by rw [z, he] at e; exact hf ob _ (Option.some.inj e))]; exact e⟩
    · exact .inr e
  frz := fun b ob v e => by rw [upd_ne (fun z => by rw [z, he] at e; exact hf ob v (Option.some.inj e))]; exact e
theorem Rel.write {G : Cg} {S : Rho} {h : Hh} {H : Hp} {i : Nat} {u v : HO} {o : O} (R : Rel G S h H) (hi : i < S.n) (he : H (S.r i) = some u) (hm : ∀ xs, u ≠ .tup xs) (hf : ∀ ob v, u ≠ .frz ob v) (ho : OD G S (upd H (S.r i) v) (S.r i) o) :
    Rel G S (h.set i o) (upd H (S.r i) v) where
  len := by rw [List.length_set]; exact R.len
  bad := R.bad
  inj := R.inj
  live := fun b z => (Nx.write (G := G) (o := v) R hi he hm hf).there b (R.live b z)
  obj := fun j q e => by
    by_cases z : j = i
    · subst z
      rw [List.getElem?_set_self (by rw [R.len]; exact hi)] at e
      cases e
      exact ho
    · rw [List.getElem?_set_ne (fun y => z y.symm)] at e
      have hj : j < S.n := by rw [← R.len]; exact (List.getElem?_eq_some_iff.mp e).1
      exact (R.obj j q e).mono (.write R hi he hm hf) R.bad fun w y => by rw [upd_ne (fun t => z (R.inj j i hj hi t))]; exact y
end Sb

/-! Sb2: expressions. -/
namespace Sb
open L2 PySem PySem.Spec PyProof.Rows
abbrev F (α : Type) := En → Hh → R α
def opt {α : Type} (h : Hh) : Option α → R α
  | some a => .ok a h
  | none => .fail
def fits (n : Nat) : Bool := decide (n ≤ 16777216)
theorem fits_ok {n : Nat} (h : fits n = true) : n ≤ sizeLine := by rw [sizeLine_eq]; exact of_decide_eq_true h

/-! ### names, constants -/
def dVar (i : Nat) : F D := fun e h => match e[i]? with
  | some (some d) => .ok d h
  | _ => .fail
def dC (d : D) : F D := fun _ h => .ok d h
section
variable {X : Cx} {G : Cf} {W : WX} {a b c : Expr} {f g k : F D} {pos : Pos}
theorem tE_var {i : Nat} {σ : L2.St} {H : Hp} {Q : VK} (h : tE G W (dVar i) σ H Q) : tVar i σ H Q := by
  obtain ⟨S, h, e, R, E, P⟩ := h
  unfold dVar at P
  split at P
  · rename_i d q
    obtain ⟨v, hv, r⟩ := E.at_ i d q
    exact ⟨v, hv, P.here R r⟩
  · exact P.elim
theorem tE_c {d : D} {v : V} (hv : ∀ S H, VD G S H d v) {σ : L2.St} {H : Hp} {Q : VK} (h : tE G W (dC d) σ H Q) : tC v σ H Q := by
  obtain ⟨S, h, e, R, E, P⟩ := h
  exact P.here R (hv S H)

/-! ### two, one operands by values -/
def dB (f g : F D) (op : Hh → D → D → Option D) : F D := fun e h => (f e h).bind fun x h1 => (g e h1).bind fun y h2 => opt h2 (op h2 x y)
def dU (f : F D) (op : Hh → D → Option D) : F D := fun e h => (f e h).bind fun x h1 => opt h1 (op h1 x)
def rD (G : Cg) (op : Hh → D → D → Option D) : R2 := fun x y H Q => ∃ S h d e z, Rel G S h H ∧ VD G S H d x ∧ VD G S H e y ∧ op h d e = some z ∧ ∀ H' v, Nx G S H S H' → Rel G S h H' → VD G S H' z v → Q v H'
def rU1 (G : Cg) (op : Hh → D → Option D) : V → Hp → VK → Prop := fun x H Q => ∃ S h d z, Rel G S h H ∧ VD G S H d x ∧ op h d = some z ∧ ∀ H' v, Nx G S H S H' → Rel G S h H' → VD G S H' z v → Q v H'
theorem tE_op {op : Hh → D → D → Option D} {σ : L2.St} {H : Hp} {Q : VK} (h : tE G W (dB f g op) σ H Q) : tOp (rD G op) (tE G W f) (tE G W g) σ H Q := by
  obtain ⟨S, h, e, R, E, P⟩ := h
  refine ⟨S, h, e, R, E, P.bind fun x h1 S1 H1 v _ N1 R1 v1 P1 => ?_⟩
  have E1 := E.mono N1 R.bad
  refine ⟨S1, h1, e, R1, E1, P1.bind fun y h2 S2 H2 w _ N2 R2 v2 P2 => ?_⟩
  cases q : op h2 x y with
  | none => rw [q] at P2; exact P2.elim
  | some z =>
    rw [q] at P2
    exact ⟨S2, h2, x, y, z, R2, v1.mono N2 R1.bad, v2, q, fun H' v n r x => P2 S2 H' v n r x⟩
theorem tE_op1 {op : Hh → D → Option D} {σ : L2.St} {H : Hp} {Q : VK} (h : tE G W (dU f op) σ H Q) : tUn (rU1 G op) (tE G W f) σ H Q := by
  obtain ⟨S, h, e, R, E, P⟩ := h
  refine ⟨S, h, e, R, E, P.bind fun x h1 S1 H1 v _ N1 R1 v1 P1 => ?_⟩
  cases q : op h1 x with
  | none => rw [q] at P1; exact P1.elim
  | some z =>
    rw [q] at P1
    exact ⟨S1, h1, x, z, R1, v1, q, fun H' v n r x => P1 S1 H' v n r x⟩
theorem e_op {op : Hh → D → D → Option D} {o : Operator} (ho : OpR X (binaryOp o) (rD G op)) (ha : PE X a (tE G W f)) (hb : PE X b (tE G W g)) : PE X (.BinOp a o b pos) (tE G W (dB f g op)) :=
  PE.imp (pe_op ho ha hb) fun _ _ _ h => tE_op h
theorem e_un {op : Hh → D → Option D} {o : UnaryOp} (ho : UnR X (unaryOp o) (rU1 G op)) (ha : PE X a (tE G W f)) : PE X (.UnaryOp o a pos) (tE G W (dU f op)) :=
  PE.imp (pe_un ho ha) fun _ _ _ h => tE_op1 h
theorem e_cmp {op : Hh → D → D → Option D} {o : CmpOp} (ho : OpR X (compareOp o) (rD G op)) (ha : PE X a (tE G W f)) (hb : PE X b (tE G W g)) (hm : behindInMarks o b = false) : PE X (.Compare a [o] [b] pos) (tE G W (dB f g op)) :=
  PE.imp (pe_cmpR ho ha hb hm) fun _ _ _ h => tE_op h
/-- .. as a test -/
def asB (d : D) (h : Hh) : R Bool := match d with
  | .bl b => .ok b h
  | _ => .fail
def dT (f : F D) : F Bool := fun e h => (f e h).bind asB
theorem tT_of {t : TE} (ht : ∀ σ H Q, tE G W f σ H Q → t σ H Q) {σ : L2.St} {H : Hp} {Q : Bool → Hp → Prop} (h : tT G W (dT f) σ H Q) : tTest t σ H Q := by
  obtain ⟨S, h, e, R, E, P⟩ := h
  refine ht _ _ _ ⟨S, h, e, R, E, P.bind fun x h1 S1 H1 v _ N1 R1 v1 P1 => ?_⟩
  cases v1 with
  | bl b => exact ⟨b, rfl, P1.here R1 rfl⟩
  | _ => exact P1.elim
theorem t_cmp {op : Hh → D → D → Option D} {o : CmpOp} (ho : OpR X (compareOp o) (rD G op)) (ha : PE X a (tE G W f)) (hb : PE X b (tE G W g)) (hm : behindInMarks o b = false) : PT X (.Compare a [o] [b] pos) (tT G W (dT (dB f g op))) :=
  PT.imp (pt_cmpR ho ha hb hm) fun _ _ _ h => tT_of (fun _ _ _ z => tE_op z) h
theorem t_val (h : PE X a (tE G W f)) (he : ∀ whole, isTrue a X.env whole = (do let v ← whole; standAt a.pos; holding [v] (truthy v))) : PT X a (tT G W (dT f)) :=
  PT.imp (pt_val h he) fun _ _ _ q => tT_of (t := tE G W f) (fun _ _ _ z => z) q

/-! ### chains -/
def dCh (f g k : F D) (op op' : Hh → D → D → Option D) : F D := fun e h => (f e h).bind fun x h1 => (g e h1).bind fun y h2 => (opt h2 (op h2 x y)).bind fun z h3 => (asB z h3).bind fun b h4 =>
  if b = true then (k e h4).bind fun w h5 => opt h5 (op' h5 y w) else .ok (.bl false) h4
theorem tE_ch {op op' : Hh → D → D → Option D} {σ : L2.St} {H : Hp} {Q : VK} (h : tE G W (dCh f g k op op') σ H Q) : tChain (rD G op) (rD G op') (tE G W f) (tE G W g) (tE G W k) σ H Q := by
  obtain ⟨S, h, e, R, E, P⟩ := h
  refine ⟨S, h, e, R, E, P.bind fun x h1 S1 H1 v _ N1 R1 v1 P1 => ?_⟩
  have E1 := E.mono N1 R.bad
  refine ⟨S1, h1, e, R1, E1, P1.bind fun y h2 S2 H2 w _ N2 R2 v2 P2 => ?_⟩
  have E2 := E1.mono N2 R1.bad
  cases q : op h2 x y with
  | none => rw [q] at P2; exact P2.elim
  | some z =>
    rw [q] at P2
    refine ⟨S2, h2, x, y, z, R2, v1.mono N2 R1.bad, v2, q, fun H3 v3 N3 R3 x3 => ?_⟩
    have E3 := E2.mono N3 R2.bad
    have P3 := Pst.mono (r := (asB z h2).bind _) P2 N3
    cases x3 with
    | bl b =>
      refine ⟨b, rfl, ?_⟩
      cases b with
      | false => exact P3.here R3 (.bl false)
      | true =>
        refine ⟨S2, h2, e, R3, E3, Pst.bind (r := k e h2) P3 fun w h5 S5 H5 u _ N5 R5 v5 P5 => ?_⟩
        cases q5 : op' h5 y w with
        | none => rw [q5] at P5; exact P5.elim
        | some z5 =>
          rw [q5] at P5
          exact ⟨S5, h5, y, w, z5, R5, (v2.mono N3 R2.bad).mono N5 R3.bad, v5, q5, fun H' v n r x => P5 S5 H' v n r x⟩
    | _ => exact P3.elim
def noSet : Expr → Bool
  | .Set _ _ _ => false
  | _ => true
theorem marks_of {b : Expr} (h : noSet b = true) (o : CmpOp) : behindInMarks o b = false := by
  cases b <;> first | rfl | cases h
theorem e_ch {op op' : Hh → D → D → Option D} {o o' : CmpOp} (ho : OpR X (compareOp o) (rD G op)) (ho' : OpR X (compareOp o') (rD G op')) (ha : PE X a (tE G W f)) (hb : PE X b (tE G W g)) (hc : PE X c (tE G W k)) (hm : noSet c = true) :
    PE X (.Compare a [o, o'] [b, c] pos) (tE G W (dCh f g k op op')) := PE.imp (pe_chain ho ho' ha hb hc (marks_of hm o')) fun _ _ _ h => tE_ch h
theorem t_ch {op op' : Hh → D → D → Option D} {o o' : CmpOp} (ho : OpR X (compareOp o) (rD G op)) (ho' : OpR X (compareOp o') (rD G op')) (ha : PE X a (tE G W f)) (hb : PE X b (tE G W g)) (hc : PE X c (tE G W k)) (hm : noSet c = true) :
    PT X (.Compare a [o, o'] [b, c] pos) (tT G W (dT (dCh f g k op op'))) := PT.imp (pt_chain ho ho' ha hb hc (marks_of hm o')) fun _ _ _ h => tT_of (fun _ _ _ z => tE_ch z) h

/-! ### and, or, not, if -/
def dAnd (f g : F D) : F D := fun e h => (f e h).bind fun x h1 => (asB x h1).bind fun b h2 => if b = true then g e h2 else .ok (.bl false) h2
def dOr (f g : F D) : F D := fun e h => (f e h).bind fun x h1 => (asB x h1).bind fun b h2 => if b = true then .ok (.bl true) h2 else g e h2
def dNot (f : F D) : F D := fun e h => (f e h).bind fun x h1 => (asB x h1).bind fun b h2 => .ok (.bl (!b)) h2
def dIf (t : F Bool) (f g : F D) : F D := fun e h => (t e h).bind fun b h1 => if b = true then f e h1 else g e h1
def bAnd (s t : F Bool) : F Bool := fun e h => (s e h).bind fun b h1 => if b = true then t e h1 else .ok false h1
def bOr (s t : F Bool) : F Bool := fun e h => (s e h).bind fun b h1 => if b = true then .ok true h1 else t e h1
def bNot (s : F Bool) : F Bool := fun e h => (s e h).bind fun b h1 => .ok (!b) h1
variable {rest : List Expr} {s t : F Bool}
theorem e_and (ha : PE X a (tE G W f)) (hb : PE X (.BoolOp .And (b :: rest) pos) (tE G W g)) : PE X (.BoolOp .And (a :: b :: rest) pos) (tE G W (dAnd f g)) :=
  PE.imp (pe_and ha hb) fun σ H Q ⟨S, h, e, R, E, P⟩ => ⟨S, h, e, R, E, P.bind fun x h1 S1 H1 v _ N1 R1 v1 P1 => by
    cases v1 with
    | bl c =>
      refine ⟨c, rfl, ?_⟩
      cases c with
      | true => exact ⟨S1, h1, e, R1, E.mono N1 R.bad, P1⟩
      | false => exact P1.here R1 (.bl false)
    | _ => exact P1.elim⟩
theorem e_or (ha : PE X a (tE G W f)) (hb : PE X (.BoolOp .Or (b :: rest) pos) (tE G W g)) : PE X (.BoolOp .Or (a :: b :: rest) pos) (tE G W (dOr f g)) :=
  PE.imp (pe_or ha hb) fun σ H Q ⟨S, h, e, R, E, P⟩ => ⟨S, h, e, R, E, P.bind fun x h1 S1 H1 v _ N1 R1 v1 P1 => by
    cases v1 with
    | bl c =>
      refine ⟨c, rfl, ?_⟩
      cases c with
      | false => exact ⟨S1, h1, e, R1, E.mono N1 R.bad, P1⟩
      | true => exact P1.here R1 (.bl true)
    | _ => exact P1.elim⟩
theorem e_not (ha : PE X a (tE G W f)) : PE X (.UnaryOp .Not a pos) (tE G W (dNot f)) :=
  PE.imp (pe_not ha) fun σ H Q ⟨S, h, e, R, E, P⟩ => ⟨S, h, e, R, E, P.bind fun x h1 S1 H1 v _ N1 R1 v1 P1 => by
    cases v1 with
    | bl c => exact ⟨c, rfl, P1.here R1 (.bl _)⟩
    | _ => exact P1.elim⟩
theorem e_if (ht : PT X c (tT G W t)) (ha : PE X a (tE G W f)) (hb : PE X b (tE G W g)) : PE X (.IfExp c a b pos) (tE G W (dIf t f g)) :=
  PE.imp (pe_ifExp ht ha hb) fun σ H Q ⟨S, h, e, R, E, P⟩ => ⟨S, h, e, R, E, P.bind fun x h1 S1 H1 v _ N1 R1 v1 P1 => by
    subst v1
    cases x with
    | true => exact ⟨S1, h1, e, R1, E.mono N1 R.bad, P1⟩
    | false => exact ⟨S1, h1, e, R1, E.mono N1 R.bad, P1⟩⟩
theorem t_and (ha : PT X a (tT G W s)) (hb : PW X (.BoolOp .And (b :: rest) pos) (tT G W t)) : PW X (.BoolOp .And (a :: b :: rest) pos) (tT G W (bAnd s t)) :=
  PW.imp (pw_and ha hb) fun σ H Q ⟨S, h, e, R, E, P⟩ => ⟨S, h, e, R, E, P.bind fun x h1 S1 H1 v _ N1 R1 v1 P1 => by
    subst v1
    cases x with
    | true => exact ⟨S1, h1, e, R1, E.mono N1 R.bad, P1⟩
    | false => exact P1.here R1 rfl⟩
theorem t_or (ha : PT X a (tT G W s)) (hb : PW X (.BoolOp .Or (b :: rest) pos) (tT G W t)) : PW X (.BoolOp .Or (a :: b :: rest) pos) (tT G W (bOr s t)) :=
  PW.imp (pw_or ha hb) fun σ H Q ⟨S, h, e, R, E, P⟩ => ⟨S, h, e, R, E, P.bind fun x h1 S1 H1 v _ N1 R1 v1 P1 => by
    subst v1
    cases x with
    | false => exact ⟨S1, h1, e, R1, E.mono N1 R.bad, P1⟩
    | true => exact P1.here R1 rfl⟩
theorem t_not (ha : PT X a (tT G W s)) : PT X (.UnaryOp .Not a pos) (tT G W (bNot s)) :=
  PT.imp (pt_not ha) fun σ H Q ⟨S, h, e, R, E, P⟩ => ⟨S, h, e, R, E, P.bind fun x h1 S1 H1 v _ N1 R1 v1 P1 => by
    subst v1
    exact P1.here R1 rfl⟩

/-! ### argument lists, displays -/
def dNil : F (List D) := fun _ h => .ok [] h
def dCons (f : F D) (r : F (List D)) : F (List D) := fun e h => (f e h).bind fun x h1 => (r e h1).bind fun l h2 => .ok (x :: l) h2
variable {es : List Expr} {r : F (List D)}
def noStar : Expr → Bool
  | .Starred _ _ => false
  | _ => true
theorem star_of {e : Expr} (h : noStar e = true) (env : Env) (es : List Expr) : starEach (e :: es) env = (false, eval e env) :: starEach es env := by
  cases e <;> first | rfl | cases h
theorem stars_of {pos : Pos} {env : Env} : ∀ {es : List Expr}, es.all noStar = true → (backTo pos (starEach es env)).any (·.1) = false
  | [], _ => rfl
  | e :: es, h => by
    have h2 : noStar e = true ∧ es.all noStar = true := Bool.and_eq_true_iff.mp h
    rw [star_of h2.1]
    show (false || (backTo pos (starEach es env)).any (·.1)) = false
    rw [stars_of h2.2]; rfl
theorem a_nil : PA X [] (tA G W dNil) := PA.imp pa_nil fun σ H Q ⟨S, h, e, R, E, P⟩ => P.here R .nil
theorem a_cons (ha : PE X a (tE G W f)) (hr : PA X es (tA G W r)) (hs : noStar a = true) : PA X (a :: es) (tA G W (dCons f r)) :=
  PA.imp (pa_cons ha hr (star_of hs _ _)) fun σ H Q ⟨S, h, e, R, E, P⟩ => ⟨S, h, e, R, E, P.bind fun x h1 S1 H1 v _ N1 R1 v1 P1 =>
    ⟨S1, h1, e, R1, E.mono N1 R.bad, P1.bind fun l h2 S2 H2 w _ N2 R2 v2 P2 => P2.here R2 (.cons (v1.mono N2 R1.bad) v2)⟩⟩
def dTup (r : F (List D)) : F D := fun e h => (r e h).bind fun l h1 => if fits l.length = true then .ok (.tup l) h1 else .fail
def dLst (r : F (List D)) : F D := fun e h => (r e h).bind fun l h1 => if fits l.length = true then .ok (.lst l) h1 else .fail
/-- a list that will be changed -/
def dNew (r : F (List D)) : F D := fun e h => (r e h).bind fun l h1 => if fits l.length = true then .ok (.ref h1.length) (h1 ++ [.lst l]) else .fail
theorem e_tup {x1} (hr : PA X es (tA G W r)) : PE X (.Tuple es x1 pos) (tE G W (dTup r)) :=
  PE.imp (pe_tup hr) fun σ H Q ⟨S, h, e, R, E, P⟩ => ⟨S, h, e, R, E, P.bind fun l h1 S1 H1 vs _ N1 R1 v1 P1 => by
    by_cases q : fits l.length = true
    · rw [if_pos q] at P1
      refine ⟨by rw [← v1.length]; exact fits_ok q, fun p hp => ?_⟩
      obtain ⟨n, r, x⟩ := new_tup R1 v1 hp
      exact P1 S1 _ _ n r x
    · rw [if_neg q] at P1; exact P1.elim⟩
theorem e_lst (hr : PA X es (tA G W r)) : PE X (.List es pos) (tE G W (dLst r)) :=
  PE.imp (pe_lst hr) fun σ H Q ⟨S, h, e, R, E, P⟩ => ⟨S, h, e, R, E, P.bind fun l h1 S1 H1 vs _ N1 R1 v1 P1 => by
    by_cases q : fits l.length = true
    · rw [if_pos q] at P1
      refine ⟨by rw [← v1.length]; exact fits_ok q, fun p hp => ?_⟩
      obtain ⟨n, r, x⟩ := new_lst R1 v1 hp
      exact P1 S1 _ _ n r x
    · rw [if_neg q] at P1; exact P1.elim⟩
theorem new_ref {G : Cg} {S : Rho} {h : Hh} {H : Hp} {u : HO} {o : O} {p : Addr} (R : Rel G S h H) (hp : H p = none) (ho : OD G (S.push p) (upd H p u) p o) :
    Nx G S H (S.push p) (upd H p u) ∧ Rel G (S.push p) (h ++ [o]) (upd H p u) ∧ VD G (S.push p) (upd H p u) (.ref h.length) (.ref p) := by
  refine ⟨.push hp, R.push hp ho, ?_⟩
  have e : (S.push p).r h.length = p := by rw [R.len]; exact if_pos rfl
  have z := VD.ref (G := G) (S := S.push p) (H := upd H p u) (i := h.length) (by rw [R.len]; exact Nat.lt_succ_self _)
  rw [e] at z
  exact z
theorem e_new (hr : PA X es (tA G W r)) : PE X (.List es pos) (tE G W (dNew r)) :=
  PE.imp (pe_lst hr) fun σ H Q ⟨S, h, e, R, E, P⟩ => ⟨S, h, e, R, E, P.bind fun l h1 S1 H1 vs _ N1 R1 v1 P1 => by
    by_cases q : fits l.length = true
    · rw [if_pos q] at P1
      refine ⟨by rw [← v1.length]; exact fits_ok q, fun p hp => ?_⟩
      obtain ⟨n, r, x⟩ := new_ref R1 hp (o := .lst l) (.lst upd_same (v1.mono (.push hp) R1.bad))
      exact P1 _ _ _ n r x
    · rw [if_neg q] at P1; exact P1.elim⟩
end
end Sb

/-! SbM: a tuple times a number. -/
namespace Sb
open L2 PySem PySem.Spec PyProof.Rows
theorem tuple_mulS (l : Addr) (items : Array Value) (n : Nat) (dd : Option Addr) (sl : Array (Option Value)) (x : Int) (u : Tok) (c0 : (decide (x < -(2 ^ 63)) || decide (x ≥ 2 ^ 63)) = false) (c1 : (items.isEmpty || x == 1) = true) :
    Meets (Builtin.«tuple.__mul__» ⟨[.ref l, .int x u], []⟩) (fun _ R s => s.heap.get? l = some { cls := .type "tuple", dict := dd, data := .seq items n, slots := sl } ∧ R (.ok (.ret (.ref l))) s) :=
  .of_wp fun prog w A R s h => by
    obtain ⟨hp, g, d, tk, os⟩ := s
    obtain ⟨hl, h⟩ := h
    have f1 := AutoSeq1.idx_int
    wp_walk using wpAny_loadPart' hl
    repeat (first
      | (refine wpAny_ite_false (decide_eq_false (by rw [c0]; exact Bool.false_ne_true)) ?_; wp_walk using wpAny_loadPart' hl)
      | (refine wpAny_ite_true (decide_eq_true (by rw [c1])) ?_; wp_walk using wpAny_loadPart' hl))
    exact ⟨_, rfl, h⟩
theorem tuple_mulZ (l : Addr) (items : Array Value) (n : Nat) (dd : Option Addr) (sl : Array (Option Value)) (x : Int) (u : Tok) (c0 : (decide (x < -(2 ^ 63)) || decide (x ≥ 2 ^ 63)) = false) (c1 : (items.isEmpty || x == 1) = false) (c2 : (decide (x ≤ 0) || items.isEmpty) = true) :
    Meets (Builtin.«tuple.__mul__» ⟨[.ref l, .int x u], []⟩) (fun _ R s => s.heap.get? l = some { cls := .type "tuple", dict := dd, data := .seq items n, slots := sl } ∧
      R (.ok (.ret (Value.ref s.heap.objs.size))) { s with heap := s.heap.push { cls := Value.type "tuple", data := Data.seq #[] }, toks := s.toks }) :=
  .of_wp fun prog w A R s h => by
    obtain ⟨hp, g, d, tk, os⟩ := s
    obtain ⟨hl, h⟩ := h
    have f1 := AutoSeq1.idx_int
    wp_walk using wpAny_loadPart' hl
    repeat (first
      | (refine wpAny_ite_false (decide_eq_false (by rw [c0]; exact Bool.false_ne_true)) ?_; wp_walk using wpAny_loadPart' hl)
      | (refine wpAny_ite_false (decide_eq_false (by rw [c1]; exact Bool.false_ne_true)) ?_; wp_walk using wpAny_loadPart' hl)
      | (refine wpAny_ite_true (decide_eq_true (by rw [c2])) ?_; wp_walk using wpAny_loadPart' hl))
    exact ⟨_, rfl, h⟩
def rMulT (K : PySem.W.Frag) : R2 := fun x y H Q => ∃ l k xs, x = .ref l ∧ y = .int k ∧ SqT K H l xs ∧ 0 ≤ k ∧ k ≤ 1000 ∧ xs.length ≤ 1000 ∧ ((xs = [] ∨ k = 1) → Q (.ref l) H) ∧ (¬ (xs = [] ∨ k = 1) → ∀ p, H p = none → Q (.ref p) (upd H p (.tup (List.replicate k.toNat xs).flatten)))
theorem op_mulT {X : Cx} : OpR X (binaryOp .Mult) (rMulT X.K) := by
  intro pins s σ H x y v u Q I rx ry h
  obtain ⟨l, k, xs, rfl, rfl, hT, h1, h2, hz, qs, qn⟩ := h
  by_cases big : xs ≠ [] ∧ 2 ≤ k
  · exact op_repT pins s σ H _ _ v u Q I rx ry ⟨l, k, xs, rfl, rfl, hT, big.1, big.2, h2, hz, qn (fun z => by
      rcases z with z | z
      · exact big.1 z
      · omega)⟩
  cases rx
  obtain ⟨t, rfl⟩ := ry
  obtain ⟨its, r, ⟨⟨cls, dd, data, sl⟩, ho, hc, n, hd⟩, hs⟩ := I.tuple hT
  simp only at hc hd
  subst hc hd
  have hle : its.length = xs.length := r.length.symm
  have c0 : (decide (k < -(2 ^ 63)) || decide (k ≥ 2 ^ 63)) = false := by
    rw [decide_eq_false (by omega), decide_eq_false (by omega)] <;> rfl
  have hem : its.toArray.isEmpty = xs.isEmpty := by
    cases its <;> cases xs <;> first | rfl | (simp at hle)
  by_cases same : xs = [] ∨ k = 1
  · have c1 : (its.toArray.isEmpty || k == 1) = true := by
      rw [hem]
      rcases same with z | z
      · rw [z]; rfl
      · rw [z]; simp
    refine wpAny_binaryOp_repeat_ref (T := "tuple") (U := "int") (by decide) ⟨_, ho, rfl⟩ (fun s' => typeIs_int s' k t) noFill_tuple_mul F.fills_int_mul F.slot_int_rmul repeat_tuple F.slot_int_index.lookup
      (call_meets F.slot_int_rmul (typeIs_int s k t) F.entry_int_rmul (F.args_int_rmul_2 _ _) (int_rmul_tuple k t l its.toArray n dd sl)
        ⟨ho, rfl, ⟨_, ho, rfl⟩, call_meets F.slot_tuple_mul ⟨_, ho, rfl⟩ F.entry_tuple_mul (F.args_tuple_mul_2 _ _) (tuple_mulS l its.toArray n dd sl k t c0 c1) ⟨ho, ?_⟩⟩)
    exact ⟨.ref l, H, I, rfl, qs same⟩
  · have hk : k = 0 := by
      have : ¬ 2 ≤ k := fun z => big ⟨fun e => same (.inl e), z⟩
      have : k ≠ 1 := fun z => same (.inr z)
      omega
    subst hk
    have hne : xs ≠ [] := fun e => same (.inl e)
    have c1 : (its.toArray.isEmpty || (0 : Int) == 1) = false := by
      rw [hem]
      cases xs with
      | nil => exact absurd rfl hne
      | cons _ _ => rfl
    have c2 : (decide ((0 : Int) ≤ 0) || its.toArray.isEmpty) = true := rfl
    refine wpAny_binaryOp_repeat_ref (T := "tuple") (U := "int") (by decide) ⟨_, ho, rfl⟩ (fun s' => typeIs_int s' 0 t) noFill_tuple_mul F.fills_int_mul F.slot_int_rmul repeat_tuple F.slot_int_index.lookup
      (call_meets F.slot_int_rmul (typeIs_int s 0 t) F.entry_int_rmul (F.args_int_rmul_2 _ _) (int_rmul_tuple 0 t l its.toArray n dd sl)
        ⟨ho, rfl, ⟨_, ho, rfl⟩, call_meets F.slot_tuple_mul ⟨_, ho, rfl⟩ F.entry_tuple_mul (F.args_tuple_mul_2 _ _) (tuple_mulZ l its.toArray n dd sl 0 t c0 c1 c2) ⟨ho, ?_⟩⟩)
    refine ⟨.ref s.heap.objs.size, _, I.laid (t' := s.toks) (o := .tup (List.replicate (0 : Int).toNat xs).flatten) (fun b ob q => Heap.get?_push_of_some _ q) (Nat.le_refl _) ?_, rfl, qn same _ (I.hok.fresh (Nat.le_refl _))⟩
    exact ⟨by simp, _, (.nil : Vals [] []), IsTup.new _ _⟩
end Sb

/-! SbE: == and != of nested lists, tuples, dicts that are alike. -/
namespace Sb
open L2 PySem PySem.Spec PyProof.Rows
open PySem.SeqAt (EqIn)
section
open PySem.SeqAt
open AutoSeq1 (wpAny_loadPart')
open MeetsSeq MeetsSeq2 MeetsSeq3 SeqRoads2
variable {prog : Program} {w : World}
theorem neLoop (l b : Addr) (xs ys : Array Value) (n n2 : Nat) (d1 d2 : Option Addr) (sl sl2 : Array (Option Value)) (hsz : xs.size = ys.size) (k : Nat) :
    ∀ i : Nat, xs.size - i = k → MeetsIn prog w (Builtin.«list.__eq__.loop» ⟨[.ref l, .ref b, rawInt i, rawInt 3], []⟩)
      (fun A R s => s.heap.get? l = some { cls := .type "list", dict := d1, data := .seq xs n, slots := sl } ∧ s.heap.get? b = some { cls := .type "list", dict := d2, data := .seq ys n2, slots := sl2 } ∧
        (∀ j (h1 : j < xs.size) (h2 : j < ys.size), EqIn prog w A.in1 s xs[j] ys[j] true) ∧ R (.ok (.ret (.bool false))) s) := by
  induction k with
  | zero =>
    intro i hk A R s h
    obtain ⟨hp, g, d, tk, os⟩ := s; obtain ⟨hl, hb, he, h⟩ := h
    wp_walk using wpAny_loadPart' hl, wpAny_loadPart' hb
    have hi1 : xs[((i : Nat) : Int).toNat]? = none := by simp; omega
    have hi2 : ys[((i : Nat) : Int).toNat]? = none := by simp; omega
    rw [hi1, hi2]
    wp_walk using wpAny_loadPart' hl, wpAny_loadPart' hb
    show R (.ok (.ret (.bool (xs.size != ys.size)))) _
    rw [hsz]
    simpa using h
  | succ k ih =>
    intro i hk A R s h
    obtain ⟨hp, g, d, tk, os⟩ := s; obtain ⟨hl, hb, he, h⟩ := h
    wp_walk using wpAny_loadPart' hl, wpAny_loadPart' hb
    have hlt : i < xs.size := by omega
    have hlt2 : i < ys.size := by omega
    have hi1 : xs[((i : Nat) : Int).toNat]? = some xs[i] := by simp [hlt]
    have hi2 : ys[((i : Nat) : Int).toNat]? = some ys[i] := by simp [hlt2]
    have hc : ((i : Int) + 1) = ((i + 1 : Nat) : Int) := by push_cast; rfl
    rw [hi1, hi2]
    refine wpAny_bind (he i hlt hlt2 _ _ ?_)
    wp_walk
    rw [hc]
    exact ⟨plainId_quiet plain_eq_loop _, codeAny_builtin entry_eq_loop (by
      rw [Around.under_plainId plain_eq_loop _]
      exact ih (i + 1) (by omega) A R _ ⟨hl, hb, he, h⟩)⟩
theorem neList (l b : Addr) (xs ys : Array Value) (n n2 : Nat) (d1 d2 : Option Addr) (sl sl2 : Array (Option Value)) (hsz : xs.size = ys.size) :
    MeetsIn prog w (Builtin.«list.__ne__» ⟨[.ref l, .ref b], []⟩)
      (fun A R s => s.heap.get? l = some { cls := .type "list", dict := d1, data := .seq xs n, slots := sl } ∧ s.heap.get? b = some { cls := .type "list", dict := d2, data := .seq ys n2, slots := sl2 } ∧
        (∀ j (h1 : j < xs.size) (h2 : j < ys.size), EqIn prog w A.in1 s xs[j] ys[j] true) ∧ R (.ok (.ret (.bool false))) s) := by
  intro A R s h
  obtain ⟨hp, g, d, tk, os⟩ := s; obtain ⟨hl, hb, he, h⟩ := h
  have f3 := AutoSeq1.sub_list_list
  have hne : ¬ (xs.size != ys.size) = true := by simp [hsz]
  wp_walk using wpAny_loadPart' hl, wpAny_loadPart' hb
  exact ⟨plainId_quiet plain_eq_loop _, codeAny_builtin entry_eq_loop (by
    rw [Around.under_plainId plain_eq_loop _]
    exact neLoop l b xs ys n n2 d1 d2 sl sl2 hsz _ 0 rfl A R _ ⟨hl, hb, he, h⟩)⟩
theorem rcNe_lists {A : Around} {s : Shared} {E : Value → Shared → Prop} {l b : Addr} {xs ys : Array Value} {Q : Value → Shared → Prop} (hl : s.heap.IsList l xs) (hb : s.heap.IsList b ys) (hsz : xs.size = ys.size) (hu : A.units < cLine)
    (he : ∀ j (h1 : j < xs.size) (h2 : j < ys.size), EqIn prog w A.in1 s xs[j] ys[j] true) (h : Q (.bool false) s) : wpAny (model prog w) A (compareOp .NotEq (.ref l) (.ref b)) Q E s := by
  obtain ⟨⟨cls, dd, data, sl⟩, ho, hc, n, hd⟩ := id hl
  obtain ⟨⟨cls2, dd2, data2, sl2⟩, ho2, hc2, n2, hd2⟩ := id hb
  simp only at hc hd hc2 hd2
  subst hc hd hc2 hd2
  show wpAny (model prog w) A (richCompare .NotEq (.ref l) (.ref b)) Q E s
  exact wpAny_richCompare_same_room (T := "list") (op := .NotEq) ⟨_, ho, rfl⟩ ⟨_, ho2, rfl⟩ F.slot_list_ne (call_meetsIn F.slot_list_ne ⟨_, ho, rfl⟩ F.entry_list_ne (F.args_list_ne_2 _ _) (neList l b xs ys n n2 dd dd2 sl sl2 hsz)
    ⟨ho, ho2, he, show Value.bool false ≠ Value.notImplemented ∧ Q (.bool false) s from ⟨(fun x => nomatch x), h⟩⟩) hu
end
end Sb

/-! Sb3: operators, comparisons, subscripts, slices by values. -/
namespace Sb
open L2 PySem PySem.Spec PyProof.Rows
section
variable {G : Cg} {S : Rho} {H : Hp} {h : Hh}
/-! ### the list that a value is -/
/-- the items of a list that may be joined, changed: a frozen one, one of the small heap -/
def asM (h : Hh) : D → Option (List D)
  | .lst l => some l
  | .ref i => match h[i]? with
    | some (.lst l) => some l
    | some (.lck (.lst l)) => some l
    | _ => none
  | _ => none
/-- .. or the script -/
def asL (h : Hh) (d : D) : Option (List D) := match d with
  | .scr ns => some (ns.map .int)
  | d => asM h d
theorem asM_at {d : D} {v : V} {l : List D} (R : Rel G S h H) (x : VD G S H d v) (e : asM h d = some l) : ∃ a vs, v = .ref a ∧ H a = some (.lst vs) ∧ VDs G S H l vs := by
  cases x with
  | lst a b c => cases e; exact ⟨_, _, rfl, a, c⟩
  | @ref i hi =>
    have e2 : (match h[i]? with | some (.lst l) => some l | some (.lck (.lst l)) => some l | _ => none) = some l := e
    split at e2
    · rename_i l' q
      cases e2
      cases R.obj i _ q with
      | lst q v => exact ⟨_, _, rfl, q, v⟩
    · rename_i l' q
      cases e2
      cases R.obj i _ q with
      | lckL q v => exact ⟨_, _, rfl, q, v⟩
    · cases e2
  | _ => cases e
theorem asL_at {d : D} {v : V} {l : List D} (R : Rel G S h H) (x : VD G S H d v) (e : asL h d = some l) : ∃ a vs, v = .ref a ∧ SqL G.K H a vs ∧ VDs G S H l vs := by
  cases d with
  | scr ns =>
    cases x with
    | scr q => cases e; exact ⟨_, _, rfl, q.sq, VDs.ints ns⟩
  | _ =>
    obtain ⟨a, vs, e1, e2, e3⟩ := asM_at R x e
    exact ⟨a, vs, e1, SqL.of e2, e3⟩
/-- the pairs of a dict -/
def asK (h : Hh) : D → Option (List (Key × D))
  | .dct l => some l
  | .ref i => match h[i]? with
    | some (.dct l) => some l
    | some (.lck (.dct l)) => some l
    | _ => none
  | _ => none
theorem asK_at {d : D} {v : V} {l : List (Key × D)} (R : Rel G S h H) (x : VD G S H d v) (e : asK h d = some l) : ∃ a vs, v = .ref a ∧ Rd H a (.dK vs) ∧ VDk G S H l vs := by
  cases x with
  | dct a b c => cases e; exact ⟨_, _, rfl, a, c⟩
  | @ref i hi =>
    have e2 : (match h[i]? with | some (.dct l) => some l | some (.lck (.dct l)) => some l | _ => none) = some l := e
    split at e2
    · rename_i l' q
      cases e2
      cases R.obj i _ q with
      | dct q v => exact ⟨_, _, rfl, .inl q, v⟩
    · rename_i l' q
      cases e2
      cases R.obj i _ q with
      | lckD q v => exact ⟨_, _, rfl, .inr ⟨_, q⟩, v⟩
    · cases e2
  | _ => cases e
def valD (l : List (Key × D)) (k : Key) : Option D := (l.find? fun kv => decide (kv.1 = k)).map (·.2)
def putD (l : List (Key × D)) (k : Key) (v : D) : List (Key × D) := if (l.any fun kv => decide (kv.1 = k)) = true then l.map (fun kv => if kv.1 = k then (kv.1, v) else kv) else l ++ [(k, v)]
def dropD (l : List (Key × D)) (k : Key) : List (Key × D) := l.filter fun kv => decide (kv.1 ≠ k)
theorem VDk.val (k : Key) : ∀ {l : List (Key × D)} {vs : List (Key × V)}, VDk G S H l vs → (valD l k = none ∧ valV vs k = none) ∨ ∃ d v, valD l k = some d ∧ valV vs k = some v ∧ VD G S H d v
  | _, _, .nil => .inl ⟨rfl, rfl⟩
  | _, _, @VDk.cons _ _ _ j d v l vs a t => by
    by_cases e : j = k
    · exact .inr ⟨d, v, by simp [valD, List.find?_cons, e], by rw [valV_pos (p := (j, v)) e], a⟩
    · rw [valV_neg (p := (j, v)) e]
      have e2 : valD ((j, d) :: l) k = valD l k := by simp [valD, List.find?_cons, e]
      rw [e2]
      exact VDk.val k t
theorem VDk.length : ∀ {l : List (Key × D)} {vs : List (Key × V)}, VDk G S H l vs → l.length = vs.length
  | _, _, .nil => rfl
  | _, _, .cons _ t => congrArg Nat.succ t.length
theorem VDk.any (k : Key) : ∀ {l : List (Key × D)} {vs : List (Key × V)}, VDk G S H l vs → (l.any fun kv => decide (kv.1 = k)) = (vs.any fun kv => decide (kv.1 = k))
  | _, _, .nil => rfl
  | _, _, .cons _ t => by rw [List.any_cons, List.any_cons, VDk.any k t]
theorem VDk.append : ∀ {l m : List (Key × D)} {vs ws : List (Key × V)}, VDk G S H l vs → VDk G S H m ws → VDk G S H (l ++ m) (vs ++ ws)
  | _, _, _, _, .nil, b => b
  | _, _, _, _, .cons a t, b => .cons a (t.append b)
theorem VDk.repl (k : Key) {d : D} {v : V} (r : VD G S H d v) : ∀ {l : List (Key × D)} {vs : List (Key × V)}, VDk G S H l vs → VDk G S H (l.map fun kv => if kv.1 = k then (kv.1, d) else kv) (vs.map fun kv => if kv.1 = k then (kv.1, v) else kv)
  | _, _, .nil => .nil
  | _, _, @VDk.cons _ _ _ j d' v' l vs a t => by
    rw [List.map_cons, List.map_cons]
    by_cases e : j = k
    · rw [if_pos e, if_pos e]; exact .cons r (VDk.repl k r t)
    · rw [if_neg e, if_neg e]; exact .cons a (VDk.repl k r t)
theorem VDk.put (k : Key) {d : D} {v : V} (r : VD G S H d v) {l : List (Key × D)} {vs : List (Key × V)} (t : VDk G S H l vs) : VDk G S H (putD l k d) (putK vs k v) := by
  unfold putD putK
  rw [t.any k]
  split
  · exact VDk.repl k r t
  · exact t.append (.cons r .nil)
theorem VDk.drop (k : Key) : ∀ {l : List (Key × D)} {vs : List (Key × V)}, VDk G S H l vs → VDk G S H (dropD l k) (dropK vs k)
  | _, _, .nil => .nil
  | _, _, @VDk.cons _ _ _ j d v l vs a t => by
    unfold dropD dropK
    by_cases e : j = k
    · rw [List.filter_cons_of_neg (by simpa using e), List.filter_cons_of_neg (by simpa using e)]; exact VDk.drop k t
    · rw [List.filter_cons_of_pos (by simpa using e), List.filter_cons_of_pos (by simpa using e)]; exact .cons a (VDk.drop k t)
def keyD : D → Option Key
  | .int i => some (.inl i)
  | .str x => some (.inr x)
  | _ => none
theorem keyD_at {d : D} {v : V} {k : Key} (x : VD G S H d v) (e : keyD d = some k) : v = kV k := by
  cases x <;> cases e <;> rfl
/-! ### data for == -/
mutual
def toPy : D → Option PyData
  | .non => some .none
  | .bl b => some (.bool b)
  | .int i => some (.int i)
  | .str x => some (.str x)
  | .tup l => (toPys l).map .tuple
  | .lst l => (toPys l).map .list
  | _ => none
def toPys : List D → Option (List PyData)
  | [] => some []
  | d :: l => match toPy d, toPys l with
    | some x, some xs => some (x :: xs)
    | _, _ => none
end
mutual
theorem toPy_at : ∀ {d : D} {v : V} {p : PyData}, VD G S H d v → toPy d = some p → Dp G.K H v p
  | _, _, p, .non, e => by cases e; exact .non
  | _, _, p, .bl b, e => by cases e; exact .bl b
  | _, _, p, .int b, e => by cases e; exact .int b
  | _, _, p, .str b, e => by cases e; exact .str b
  | _, _, p, .tup (l := l) a b, e => by
    have e2 : (toPys l).map PyData.tuple = some p := e
    obtain ⟨ps, e3, rfl⟩ := Option.map_eq_some_iff.mp e2
    exact .tup a (toPys_at b e3)
  | _, _, p, .lst (l := l) a n b, e => by
    have e2 : (toPys l).map PyData.list = some p := e
    obtain ⟨ps, e3, rfl⟩ := Option.map_eq_some_iff.mp e2
    exact .lst (SqL.of a) (toPys_at b e3)
  | _, _, p, .scr a, e => by cases e
  | _, _, p, .dct a b c, e => by cases e
  | _, _, p, .ins a b c, e => by cases e
  | _, _, p, .ref a, e => by cases e
theorem toPys_at : ∀ {l : List D} {vs : List V} {ps : List PyData}, VDs G S H l vs → toPys l = some ps → DpAll G.K H vs ps
  | _, _, ps, .nil, e => by cases e; exact .nil
  | _, _, ps, .cons (d := d) (l := l) a t, e => by
    have e2 : (match toPy d, toPys l with | some x, some xs => some (x :: xs) | _, _ => none) = some ps := e
    split at e2
    · rename_i x xs q1 q2
      cases e2
      exact .cons (toPy_at a q1) (toPys_at t q2)
    · cases e2
end
/-- a list of the small heap, read -/
def deref (h : Hh) (d : D) : D := match d with
  | .ref i => match asM h (.ref i) with
    | some l => .lst l
    | none => .ref i
  | d => d
theorem deref_at {d : D} {v : V} {p : PyData} (R : Rel G S h H) (x : VD G S H d v) (e : toPy (deref h d) = some p) : Dp G.K H v p := by
  cases d with
  | ref i =>
    unfold deref at e
    simp only at e
    split at e
    · rename_i l q
      have e2 : (toPys l).map PyData.list = some p := e
      obtain ⟨ps, e3, rfl⟩ := Option.map_eq_some_iff.mp e2
      obtain ⟨a, vs, rfl, e4, e5⟩ := asM_at R x q
      exact .lst (SqL.of e4) (toPys_at e5 e3)
    · cases e
  | _ => exact toPy_at x e
end
/-! ### operators -/
def mulOk (i j : Int) : Bool := decide (i.natAbs < 2 ^ 64) || decide (j.natAbs < 2 ^ 64) || decide (i.natAbs.log2 + j.natAbs.log2 < 1000000)
def opAdd (h : Hh) (x y : D) : Option D := match x, y with
  | .int i, .int j => some (.int (i + j))
  | .str a, .str b => if fits (a.length + b.length) = true then some (.str (a ++ b)) else none
  | .tup a, .tup b => if fits (a.length + b.length) = true then some (.tup (a ++ b)) else none
  | x, y => match asM h x, asM h y with
    | some a, some b => if fits (a.length + b.length) = true then some (.lst (a ++ b)) else none
    | _, _ => none
def opSub (_ : Hh) (x y : D) : Option D := match x, y with
  | .int i, .int j => some (.int (i - j))
  | _, _ => none
def opMul (h : Hh) (x y : D) : Option D := match x, y with
  | .int i, .int j => if mulOk i j = true then some (.int (i * j)) else none
  | .tup a, .int k => if 0 ≤ k ∧ k ≤ 1000 ∧ a.length ≤ 1000 then some (.tup (List.replicate k.toNat a).flatten) else none
  | x, .int k => match asM h x with
    | some a => if 0 ≤ k ∧ k ≤ 1000 ∧ a.length ≤ 1000 then some (.lst (List.replicate k.toNat a).flatten) else none
    | none => none
  | _, _ => none
def opDiv (_ : Hh) (x y : D) : Option D := match x, y with
  | .int i, .int j => if 0 < j ∧ j.natAbs.log2 < 9000 then some (.int (i / j)) else none
  | _, _ => none
def opMod (_ : Hh) (x y : D) : Option D := match x, y with
  | .int i, .int j => if 0 < j then some (.int (i % j)) else none
  | _, _ => none
def opPow (_ : Hh) (x y : D) : Option D := match x, y with
  | .int i, .int j => if 0 ≤ j ∧ j ≤ 1000000 ∧ i.natAbs < 2 ^ 64 then some (.int (i ^ j.toNat)) else none
  | _, _ => none
def opShr (_ : Hh) (x y : D) : Option D := match x, y with
  | .int i, .int j => if 0 ≤ j then some (.int (i / 2 ^ j.toNat)) else none
  | _, _ => none
def opAnd (_ : Hh) (x y : D) : Option D := match x, y with
  | .int i, .int j => some (.int (Builtin.bitAnd i j))
  | _, _ => none
def opNeg (_ : Hh) (x : D) : Option D := match x with
  | .int i => some (.int (-i))
  | _ => none
def binD : Operator → Option (Hh → D → D → Option D)
  | .Add => some opAdd
  | .Sub => some opSub
  | .Mult => some opMul
  | .FloorDiv => some opDiv
  | .Mod => some opMod
  | .Pow => some opPow
  | .RShift => some opShr
  | .BitAnd => some opAnd
  | _ => none
section
variable {X : Cx} {G : Cg}
theorem ints_of {f : Value → Value → Sem Value} {op : Hh → D → D → Option D} {r : R2} (ho : OpR X f r) (hi : ∀ h d e z, op h d e = some z → ∃ i j k, d = .int i ∧ e = .int j ∧ z = .int k ∧ ∀ H (Q : VK), Q (.int k) H → r (.int i) (.int j) H Q) : OpR X f (rD G op) := by
  intro pins s σ H x y v u Q I rx ry hq
  obtain ⟨S, h, d, e, z, R, vx, vy, q, k⟩ := hq
  obtain ⟨i, j, n, rfl, rfl, rfl, f⟩ := hi h d e z q
  cases vx
  cases vy
  exact ho pins s σ H _ _ v u Q I rx ry (f H Q (k H _ .refl R (.int n)))
theorem or_sub : OpR X (binaryOp .Sub) (rD G opSub) := ints_of op_sub fun h d e z q => by
  unfold opSub at q
  split at q
  · cases q; exact ⟨_, _, _, rfl, rfl, rfl, fun H Q z => ⟨_, _, rfl, rfl, z⟩⟩
  · cases q
theorem or_div : OpR X (binaryOp .FloorDiv) (rD G opDiv) := ints_of op_fdivW fun h d e z q => by
  unfold opDiv at q
  split at q
  · split at q
    · rename_i c
      cases q; exact ⟨_, _, _, rfl, rfl, rfl, fun H Q z => ⟨_, _, rfl, rfl, c, z⟩⟩
    · cases q
  · cases q
theorem or_mod : OpR X (binaryOp .Mod) (rD G opMod) := ints_of op_mod fun h d e z q => by
  unfold opMod at q
  split at q
  · split at q
    · rename_i c
      cases q; exact ⟨_, _, _, rfl, rfl, rfl, fun H Q z => ⟨_, _, rfl, rfl, c, z⟩⟩
    · cases q
  · cases q
theorem or_pow : OpR X (binaryOp .Pow) (rD G opPow) := ints_of op_pow fun h d e z q => by
  unfold opPow at q
  split at q
  · split at q
    · rename_i c
      cases q; exact ⟨_, _, _, rfl, rfl, rfl, fun H Q z => ⟨_, _, rfl, rfl, c, z⟩⟩
    · cases q
  · cases q
theorem or_shr : OpR X (binaryOp .RShift) (rD G opShr) := ints_of op_shr fun h d e z q => by
  unfold opShr at q
  split at q
  · split at q
    · rename_i c
      cases q; exact ⟨_, _, _, rfl, rfl, rfl, fun H Q z => ⟨_, _, rfl, rfl, c, z⟩⟩
    · cases q
  · cases q
theorem or_and : OpR X (binaryOp .BitAnd) (rD G opAnd) := ints_of op_and fun h d e z q => by
  unfold opAnd at q
  split at q
  · cases q; exact ⟨_, _, _, rfl, rfl, rfl, fun H Q z => ⟨_, _, rfl, rfl, z⟩⟩
  · cases q
theorem ur_neg : UnR X (unaryOp .USub) (rU1 G opNeg) := by
  intro pins s σ H x v Q I rx hq
  obtain ⟨S, h, d, z, R, vx, q, k⟩ := hq
  unfold opNeg at q
  split at q
  · cases q
    cases vx
    exact un_neg pins s σ H _ v Q I rx ⟨_, rfl, k H _ .refl R (.int _)⟩
  · cases q
theorem small_of {i : Int} (h : i.natAbs < 2 ^ 64) : -(2 ^ 64) < i ∧ i < 2 ^ 64 := by
  constructor <;> omega
theorem or_mul (hK : G.K = X.K) : OpR X (binaryOp .Mult) (rD G opMul) := by
  intro pins s σ H x y v u Q I rx ry hq
  obtain ⟨S, h, d, e, z, R, vx, vy, q, k⟩ := hq
  unfold opMul at q
  split at q
  · rename_i i j
    split at q
    · rename_i c
      cases q
      cases vx
      cases vy
      have fin := k H _ .refl R (.int (i * j))
      unfold mulOk at c
      simp only [Bool.or_eq_true, decide_eq_true_eq] at c
      rcases c with (c | c) | c
      · exact op_mul pins s σ H _ _ v u Q I rx ry ⟨_, _, rfl, rfl, .inl (small_of c), fin⟩
      · exact op_mul pins s σ H _ _ v u Q I rx ry ⟨_, _, rfl, rfl, .inr (small_of c), fin⟩
      · exact op_mulW pins s σ H _ _ v u Q I rx ry ⟨_, _, rfl, rfl, c, fin⟩
    · cases q
  · rename_i l j
    split at q
    · rename_i c
      cases q
      cases vy
      cases vx with
      | tup ha r =>
        rw [hK] at ha
        have rr : ∀ n : Nat, VDs G S H (List.replicate n l).flatten (List.replicate n _).flatten := fun n => by
          induction n with
          | zero => exact .nil
          | succ n ih => rw [List.replicate_succ, List.replicate_succ]; exact r.append ih
        refine op_mulT pins s σ H _ _ v u Q I rx ry ⟨_, j, _, rfl, rfl, ha, c.1, c.2.1, by rw [← r.length]; exact c.2.2, fun z => ?_, fun z p hp => ?_⟩
        · have e : (List.replicate j.toNat l).flatten = l := by
            rcases z with z | z
            · have : l = [] := List.eq_nil_of_length_eq_zero (by rw [r.length, z]; rfl)
              rw [this]
              induction j.toNat with
              | zero => rfl
              | succ n ih => rw [List.replicate_succ]; exact ih
            · rw [z]; simp
          rw [e] at k
          exact k H _ .refl R (.tup (by rw [hK]; exact ha) r)
        · obtain ⟨n1, r1, x1⟩ := new_tup R (rr j.toNat) hp
          exact k _ _ n1 r1 x1
    · cases q
  · rename_i j _ _
    split at q
    · rename_i l ql
      split at q
      · rename_i c
        cases q
        cases vy
        obtain ⟨a, vs, rfl, ha, r⟩ := asM_at R vx ql
        obtain ⟨c1, c2, c3⟩ := c
        have hn : j.toNat ≤ 1000 := by omega
        have hl : vs.length ≤ 1000 := by rw [← r.length]; exact c3
        have hb : vs.length * j.toNat ≤ 1000 * 1000 := Nat.mul_le_mul hl hn
        refine op_rep pins s σ H _ _ v u Q I rx ry ⟨a, j, vs, rfl, rfl, ha, by omega, by omega, by rw [sizeLine_eq]; omega, fun p hp => ?_⟩
        have rr : ∀ n : Nat, VDs G S H (List.replicate n l).flatten (List.replicate n vs).flatten := fun n => by
          induction n with
          | zero => exact .nil
          | succ n ih => rw [List.replicate_succ, List.replicate_succ]; exact r.append ih
        obtain ⟨n1, r1, x1⟩ := new_lst R (rr j.toNat) hp
        exact k _ _ n1 r1 x1
      · cases q
    · cases q
  · cases q
theorem or_add (hK : G.K = X.K) : OpR X (binaryOp .Add) (rD G opAdd) := by
  intro pins s σ H x y v u Q I rx ry hq
  obtain ⟨S, h, d, e, z, R, vx, vy, q, k⟩ := hq
  unfold opAdd at q
  split at q
  · cases q
    cases vx
    cases vy
    exact op_add pins s σ H _ _ v u Q I rx ry ⟨_, _, rfl, rfl, k H _ .refl R (.int _)⟩
  · split at q
    · rename_i c
      cases q
      cases vx
      cases vy
      exact op_add_str pins s σ H _ _ v u Q I rx ry ⟨_, _, rfl, rfl, fits_ok c, k H _ .refl R (.str _)⟩
    · cases q
  · split at q
    · rename_i c
      cases q
      cases vx with
      | tup hx rx' =>
        cases vy with
        | tup hy ry' =>
          rw [hK] at hx hy
          have l1 := rx'.length
          have l2 := ry'.length
          have c2 := fits_ok c
          refine op_catA pins s σ H _ _ v u Q I rx ry ⟨_, _, _, _, rfl, rfl, hx, hy, by omega, fun e => ?_, fun _ e => ?_, fun _ _ p hp => ?_⟩
          · subst e
            cases rx'
            exact k H _ .refl R (.tup (by rw [hK]; exact hy) ry')
          · subst e
            cases ry'
            rw [List.append_nil] at k
            exact k H _ .refl R (.tup (by rw [hK]; exact hx) rx')
          · obtain ⟨n1, r1, x1⟩ := new_tup R (rx'.append ry') hp
            exact k _ _ n1 r1 x1
    · cases q
  · split at q
    · rename_i a b q1 q2
      split at q
      · rename_i c
        cases q
        obtain ⟨p1, vs, rfl, h1, r1⟩ := asM_at R vx q1
        obtain ⟨p2, ws, rfl, h2, r2⟩ := asM_at R vy q2
        have l1 := r1.length
        have l2 := r2.length
        have c2 := fits_ok c
        refine op_cat pins s σ H _ _ v u Q I rx ry ⟨p1, p2, vs, ws, rfl, rfl, h1, h2, by omega, fun p hp => ?_⟩
        obtain ⟨n1, rr, x1⟩ := new_lst R (r1.append r2) hp
        exact k _ _ n1 rr x1
      · cases q
    · cases q
theorem or_bin (hK : G.K = X.K) : ∀ {o : Operator} {op : Hh → D → D → Option D}, binD o = some op → OpR X (binaryOp o) (rD G op)
  | .Add, _, e => by cases e; exact or_add hK
  | .Sub, _, e => by cases e; exact or_sub
  | .Mult, _, e => by cases e; exact or_mul hK
  | .FloorDiv, _, e => by cases e; exact or_div
  | .Mod, _, e => by cases e; exact or_mod
  | .Pow, _, e => by cases e; exact or_pow
  | .RShift, _, e => by cases e; exact or_shr
  | .BitAnd, _, e => by cases e; exact or_and
  | .MatMult, _, e => by cases e
  | .Div, _, e => by cases e
  | .LShift, _, e => by cases e
  | .BitOr, _, e => by cases e
  | .BitXor, _, e => by cases e
end

/-! ### comparisons -/
def eqD (h : Hh) (x y : D) : Option Bool := match toPy (deref h x), toPy (deref h y) with
  | some a, some b => if SeqAt.shaped a = true ∧ SeqAt.shaped b = true then some (PyData.eqv a b) else none
  | _, _ => none
def isNon : D → Bool
  | .non => true
  | _ => false
/-- whether x is in the items of y -/
def inD (h : Hh) (x y : D) : Option Bool := match y with
  | .str t => match x with
    | .str s => some (!(Builtin.Str.occurrences t s 0 t.length 1).isEmpty)
    | _ => none
  | y => match asK h y with
    | some l => match keyD x with
      | some k => some (valD l k).isSome
      | none => none
    | none => match toPy x, toPy (deref h y) with
      | some d, some (.list ds) => if SeqAt.shaped d = true ∧ SeqAt.shaped (.list ds) = true then some (ds.any fun z => PyData.eqv z d) else none
      | some d, some (.tuple ds) => if SeqAt.shaped d = true ∧ SeqAt.shaped (.tuple ds) = true then some (ds.any fun z => PyData.eqv z d) else none
      | _, _ => none
def ltD (p : Int → Int → Bool) (_ : Hh) (x y : D) : Option D := match x, y with
  | .int i, .int j => some (.bl (p i j))
  | _, _ => none
def isD (x y : D) : Option Bool := match y with
  | .non => some (isNon x)
  | .bl b => match x with
    | .bl a => some (a == b)
    | _ => none
  | _ => none
def sameF : D → D → Bool
  | .non, .non => true
  | .bl a, .bl b => a == b
  | .int i, .int j => decide (i = j)
  | .str x, .str y => decide (x = y)
  | _, _ => false
/-- two dicts that are alike -/
def eqKD (l m : List (Key × D)) : Bool := decide (l.length = m.length) && l.all fun p => match valD m p.1 with
  | some d => sameF p.2 d
  | none => false
/-! things that are alike, deep -/
def all2 (p : D → D → Bool) : List D → List D → Bool
  | [], [] => true
  | a :: l, b :: m => p a b && all2 p l m
  | _, _ => false
def asT : D → Option (List D)
  | .tup l => some l
  | _ => none
def eqT (h : Hh) : Nat → D → D → Bool
  | 0, _, _ => false
  | n + 1, x, y => sameF x y || ((match asT x, asT y with
    | some l, some m => all2 (eqT h n) l m
    | _, _ => false) || ((match asM h x, asM h y with
    | some l, some m => all2 (eqT h n) l m
    | _, _ => false) || match asK h x, asK h y with
    | some l, some m => decide (l.length = m.length) && l.all fun p => match valD m p.1 with
      | some d => eqT h n p.2 d
      | none => false
    | _, _ => false))
def eqLL (h : Hh) (x y : D) : Bool := match asM h x, asM h y with
  | some l, some m => all2 (eqT h 12) l m
  | _, _ => false
def eqDK (h : Hh) (x y : D) : Option Bool := match asK h x, asK h y with
  | some l, some m => if eqKD l m = true then some true else if l.length = m.length then none else some false
  | _, _ => if eqLL h x y = true then some true else none
def cEq (h : Hh) (x y : D) : Option D := match eqD h x y with
  | some b => some (.bl b)
  | none => (eqDK h x y).map fun b => .bl b
def cNe (h : Hh) (x y : D) : Option D := match eqD h x y with
  | some b => some (.bl (!b))
  | none => (eqDK h x y).map fun b => .bl (!b)
def cIs (_ : Hh) (x y : D) : Option D := (isD x y).map .bl
def cNot (_ : Hh) (x y : D) : Option D := (isD x y).map fun b => .bl (!b)
def cIn (h : Hh) (x y : D) : Option D := (inD h x y).map .bl
def cNin (h : Hh) (x y : D) : Option D := (inD h x y).map fun b => .bl (!b)
def cmpD : CmpOp → Hh → D → D → Option D
  | .Eq => cEq
  | .NotEq => cNe
  | .Lt => ltD fun i j => decide (i < j)
  | .LtE => ltD fun i j => decide (i ≤ j)
  | .Gt => ltD fun i j => decide (j < i)
  | .GtE => ltD fun i j => decide (j ≤ i)
  | .Is => cIs
  | .IsNot => cNot
  | .In => cIn
  | .NotIn => cNin
section
variable {X : Cx} {G : Cg}
theorem or_lt {o : CmpOp} {p : Int → Int → Bool} (ho : OpR X (compareOp o) (rI0 fun i j => .bl (p i j))) : OpR X (compareOp o) (rD G (ltD p)) := by
  intro pins s σ H x y v u Q I rx ry hq
  obtain ⟨S, h, d, e, z, R, vx, vy, q, k⟩ := hq
  unfold ltD at q
  split at q
  · cases q
    cases vx
    cases vy
    exact ho pins s σ H _ _ v u Q I rx ry ⟨_, _, rfl, rfl, k H _ .refl R (.bl _)⟩
  · cases q
theorem eqD_at {S : Rho} {h : Hh} {H : Hp} {d e : D} {x y : V} {b : Bool} (R : Rel G S h H) (vx : VD G S H d x) (vy : VD G S H e y) (q : eqD h d e = some b) : ∃ p p', Dp G.K H x p ∧ Dp G.K H y p' ∧ SeqAt.shaped p = true ∧ SeqAt.shaped p' = true ∧ b = PyData.eqv p p' := by
  unfold eqD at q
  split at q
  · rename_i a c q1 q2
    split at q
    · rename_i w
      cases q
      exact ⟨a, c, deref_at R vx q1, deref_at R vy q2, w.1, w.2, rfl⟩
    · cases q
  · cases q
theorem obj_rd {pins : List (Addr × Obj)} {σ : L2.St} {H : Hp} {s : Shared} {a : Addr} {ks : List (Key × V)} (I : Inv X pins σ H s) (r : Rd H a (.dK ks)) : ObjOk X.prog X.w H s.heap a (.dK ks) := by
  rcases r with r | ⟨o, r⟩
  · exact I.hok a _ r
  · exact (show s.heap.get? a = some o ∧ ObjOk X.prog X.w H s.heap a (.dK ks) from I.hok a _ r).2
theorem sameF_at {S : Rho} {H : Hp} {d e : D} {x y : V} (vx : VD G S H d x) (vy : VD G S H e y) (q : sameF d e = true) : x = y ∧ flatB x = true := by
  cases vx <;> cases vy <;> first | exact ⟨rfl, rfl⟩ | (have z := eq_of_beq (show (_ == _) = true from q); subst z; exact ⟨rfl, rfl⟩) | (have z := of_decide_eq_true (show decide _ = true from q); subst z; exact ⟨rfl, rfl⟩) | cases q
theorem VDk.mem {S : Rho} {H : Hp} : ∀ {l : List (Key × D)} {vs : List (Key × V)}, VDk G S H l vs → ∀ p ∈ vs, ∃ d, (p.1, d) ∈ l ∧ VD G S H d p.2
  | _, _, .nil, p, h => by cases h
  | _, _, .cons (k := k) (d := d) x t, p, h => by
    rcases List.mem_cons.mp h with e | h
    · subst e
      exact ⟨d, List.mem_cons_self, x⟩
    · obtain ⟨d', h1, h2⟩ := VDk.mem t p h
      exact ⟨d', List.mem_cons_of_mem _ h1, h2⟩
theorem eqKD_at {S : Rho} {H : Hp} {l m : List (Key × D)} {vs ws : List (Key × V)} (r : VDk G S H l vs) (r' : VDk G S H m ws) (q : eqKD l m = true) : vs.length = ws.length ∧ ∀ p ∈ vs, valV ws p.1 = some p.2 ∧ flatB p.2 = true := by
  unfold eqKD at q
  simp only [Bool.and_eq_true, decide_eq_true_eq, List.all_eq_true] at q
  refine ⟨by rw [← r.length, ← r'.length]; exact q.1, fun p hp => ?_⟩
  obtain ⟨d, h1, h2⟩ := r.mem p hp
  have z := q.2 _ h1
  rcases r'.val p.1 with ⟨e1, _⟩ | ⟨d1, w1, e1, e2, r1⟩
  · rw [e1] at z; cases z
  · rw [e1] at z
    obtain ⟨z1, z2⟩ := sameF_at h2 r1 z
    exact ⟨by rw [e2, z1], z2⟩
theorem kv_mem {ks : List (Key × V)} {va : List (Key × Value)} (ra : KV ks va) : ∀ k v, (k, v) ∈ va → ∃ x, (k, x) ∈ ks ∧ RelV x v := by
  unfold KV at ra
  induction ra with
  | nil => intro k v h; cases h
  | @cons p q ps qs h t ih =>
    intro k v hm
    obtain ⟨h1, h2⟩ := h
    rcases List.mem_cons.mp hm with e | hm
    · subst e
      have h1' : p.1 = k := h1
      exact ⟨p.2, by rw [← h1']; exact List.mem_cons_self, h2⟩
    · obtain ⟨x, a, b⟩ := ih k v hm
      exact ⟨x, List.mem_cons_of_mem _ a, b⟩
theorem all2_at {P : Program} {w : World} {s : Shared} {S : Rho} {H : Hp} {n : Nat} {p : D → D → Bool} (ih : ∀ {d e : D} {x y : V} {v u : Value}, VD G S H d x → VD G S H e y → RelV x v → RelV y u → p d e = true → PySem.W.EqTree P w s n v u true) :
    ∀ {l m : List D} {vs ws : List V}, VDs G S H l vs → VDs G S H m ws → all2 p l m = true → ∀ {its js : List Value}, Vals vs its → Vals ws js → its.length = js.length ∧ ∀ j (h1 : j < its.length) (h2 : j < js.length), PySem.W.EqTree P w s n its[j] js[j] true
  | _, _, _, _, .nil, .nil, _, _, _, .nil, .nil => ⟨rfl, fun j h1 => absurd h1 (Nat.not_lt_zero j)⟩
  | _, _, _, _, .cons a t, .cons b q, h, _, _, .cons a1 t1, .cons b1 q1 => by
    have h2 : (p _ _ && all2 p _ _) = true := h
    obtain ⟨h3, h4⟩ := Bool.and_eq_true_iff.mp h2
    obtain ⟨e, k⟩ := all2_at ih t q h4 t1 q1
    refine ⟨by simp [e], fun j h1 h2 => ?_⟩
    cases j with
    | zero => exact ih a b a1 b1 h3
    | succ j => exact k j (Nat.lt_of_succ_lt_succ h1) (Nat.lt_of_succ_lt_succ h2)
  | _, _, _, _, .nil, .cons _ _, h, _, _, _, _ => by cases h
  | _, _, _, _, .cons _ _, .nil, h, _, _, _, _ => by cases h
theorem range_true (n : Nat) : ((List.range n).all fun _ => true) = true := List.all_eq_true.mpr fun _ _ => rfl
theorem eqT_at (hK : G.K = X.K) {pins : List (Addr × Obj)} {σ : L2.St} {S : Rho} {h : Hh} {H : Hp} {s : Shared} (I : Inv X pins σ H s) (R : Rel G S h H) : ∀ (n : Nat) {d e : D} {x y : V} {v u : Value}, VD G S H d x → VD G S H e y → RelV x v → RelV y u → eqT h n d e = true → PySem.W.EqTree X.prog X.w s n v u true
  | 0, _, _, _, _, _, _, _, _, _, _, q => by cases q
  | n + 1, d, e, x, y, v, u, vx, vy, rx, ry, q => by
    have q2 : (sameF d e || ((match asT d, asT e with
      | some l, some m => all2 (eqT h n) l m
      | _, _ => false) || ((match asM h d, asM h e with
      | some l, some m => all2 (eqT h n) l m
      | _, _ => false) || match asK h d, asK h e with
      | some l, some m => decide (l.length = m.length) && l.all fun p => match valD m p.1 with
        | some d => eqT h n p.2 d
        | none => false
      | _, _ => false))) = true := q
    rcases (Bool.or_eq_true _ _).mp q2 with qa | qa
    · obtain ⟨rfl, f⟩ := sameF_at vx vy qa
      exact .leaf fun A _ => eqAt_same rx ry f
    · clear q2
      rcases (Bool.or_eq_true _ _).mp qa with qb | qb
      · clear qa
        split at qb
        · rename_i l m e1 e2
          unfold asT at e1 e2
          split at e1
          · cases e1
            split at e2
            · cases e2
              cases vx with
              | @tup _ a vs q1 r1 =>
                cases vy with
                | @tup _ b ws q3 r3 =>
                  rw [hK] at q1 q3
                  obtain rfl : v = Value.ref a := rx
                  obtain rfl : u = Value.ref b := ry
                  by_cases ab : a = b
                  · subst ab; exact .same
                  · obtain ⟨its, w1, p1, _⟩ := I.tuple q1
                    obtain ⟨js, w2, p2, _⟩ := I.tuple q3
                    obtain ⟨hl, hj⟩ := all2_at (fun a b c d e => eqT_at hK I R n a b c d e) r1 r3 qb w1 w2
                    have z := PySem.W.EqTree.tuples (prog := X.prog) (w := X.w) (n := n) (e := fun _ => true) ab p1 p2 (fun j h1 h2 => by
                      have := hj j (by simpa using h1) (by simpa using h2)
                      simpa using this)
                    rw [range_true] at z
                    have e : (its.toArray.size == js.toArray.size) = true := by simp [hl]
                    rw [e] at z
                    exact z
            · cases e2
          · cases e1
        · cases qb
      · clear qa
        rcases (Bool.or_eq_true _ _).mp qb with qc | qc
        · clear qb
          split at qc
          · rename_i l m e1 e2
            obtain ⟨a, vs, rfl, ea, ra⟩ := asM_at R vx e1
            obtain ⟨b, ws, rfl, eb, rb⟩ := asM_at R vy e2
            obtain rfl : v = Value.ref a := rx
            obtain rfl : u = Value.ref b := ry
            by_cases ab : a = b
            · subst ab; exact .same
            · obtain ⟨its, w1, p1, _⟩ := I.list (.inl (.inl ea))
              obtain ⟨js, w2, p2, _⟩ := I.list (.inl (.inl eb))
              obtain ⟨hl, hj⟩ := all2_at (fun a b c d e => eqT_at hK I R n a b c d e) ra rb qc w1 w2
              have z := PySem.W.EqTree.lists (prog := X.prog) (w := X.w) (n := n) (e := fun _ => true) ab p1.isList p2.isList (by simp [hl]) (fun j h1 h2 => by
                have := hj j (by simpa using h1) (by simpa using h2)
                simpa using this)
              rw [range_true] at z
              exact z
          · cases qc
        · clear qb
          split at qc
          · rename_i l m e1 e2
            obtain ⟨q3, q4⟩ := Bool.and_eq_true_iff.mp qc
            have hlen := of_decide_eq_true q3
            rw [List.all_eq_true] at q4
            obtain ⟨a, ks, rfl, ea, ra⟩ := asK_at R vx e1
            obtain ⟨b, ls, rfl, eb, rb⟩ := asK_at R vy e2
            obtain rfl : v = Value.ref a := rx
            obtain rfl : u = Value.ref b := ry
            by_cases ab : a = b
            · subst ab; exact .same
            · obtain ⟨_, ya, va, wa, da⟩ := obj_rd I ea
              obtain ⟨_, yb, vb, wb, db⟩ := obj_rd I eb
              have at_ : ∀ k v, (k, v) ∈ va → ∃ y, valueAt vb k = some y ∧ PySem.W.EqTree X.prog X.w s n v y true := fun k v hm => by
                obtain ⟨x, hx, rv⟩ := kv_mem wa k v hm
                obtain ⟨d', hd, vd⟩ := ra.mem _ hx
                have z := q4 _ hd
                rcases rb.val k with ⟨e3, _⟩ | ⟨d1, w1, e3, e4, r1⟩
                · rw [e3] at z; cases z
                · rw [e3] at z
                  have rr : RelO (some w1) (valueAt vb k) := by rw [← e4]; exact wb.val k
                  obtain ⟨y, hy, ry⟩ := rr.some_of
                  exact ⟨y, hy, eqT_at hK I R n vd r1 rv ry z⟩
              have z := PySem.W.EqTree.dicts (prog := X.prog) (w := X.w) (knd := mixKind X.prog X.w) (n := n) (e := fun _ => true) ab ya yb da db (fun k v y hm hv => by
                obtain ⟨y', hy, t⟩ := at_ k v hm
                rw [hv] at hy
                cases hy
                exact t)
              have lv : va.length = vb.length := by rw [← wa.length, ← wb.length, ← ra.length, ← rb.length]; exact hlen
              have al : (va.all fun p => (valueAt vb p.1).isSome && true) = true := List.all_eq_true.mpr fun p hp => by
                obtain ⟨y, hy, _⟩ := at_ p.1 p.2 hp
                rw [hy]; rfl
              rw [al, lv] at z
              simpa using z
          · cases qc
theorem or_eq (hK : G.K = X.K) (hu : X.A.units + 65 < cLine) : OpR X (compareOp .Eq) (rD G cEq) := by
  intro pins s σ H x y v u Q I rx ry hq
  obtain ⟨S, h, d, e, z, R, vx, vy, q, k⟩ := hq
  unfold cEq at q
  split at q
  · rename_i b q1
    cases q
    obtain ⟨p, p', h1, h2, h3, h4, rfl⟩ := eqD_at R vx vy q1
    rw [hK] at h1 h2
    exact op_eqD (by omega) pins s σ H _ _ v u Q I rx ry ⟨p, p', h1, h2, h3, h4, k H _ .refl R (.bl _)⟩
  · obtain ⟨_, q1, rfl⟩ := Option.map_eq_some_iff.mp q
    unfold eqDK at q1
    split at q1
    · rename_i l m ql qm
      split at q1
      · rename_i c
        cases q1
        obtain ⟨a, ks, rfl, ea, ra⟩ := asK_at R vx ql
        obtain ⟨b, ls, rfl, eb, rb⟩ := asK_at R vy qm
        obtain ⟨hlen, hp⟩ := eqKD_at ra rb c
        obtain rfl : v = Value.ref a := rx
        obtain rfl : u = Value.ref b := ry
        obtain ⟨_, ya, va, ra, da⟩ := obj_rd I ea
        obtain ⟨_, yb, vb, rb, db⟩ := obj_rd I eb
        have hl : va.length = vb.length := by rw [← ra.length, ← rb.length]; exact hlen
        exact PySem.W.keq_eq (knd := mixKind X.prog X.w) (r := true) ya yb da db (by omega) (fun _ => hits_all rb ra hp) (fin_bl I (k H _ .refl R (.bl true)) (by simp [hl]))
      · split at q1
        · cases q1
        · rename_i c
          cases q1
          obtain ⟨a, ks, rfl, ea, ra⟩ := asK_at R vx ql
          obtain ⟨b, ls, rfl, eb, rb⟩ := asK_at R vy qm
          obtain rfl : v = Value.ref a := rx
          obtain rfl : u = Value.ref b := ry
          obtain ⟨_, ya, va, ra', da⟩ := obj_rd I ea
          obtain ⟨_, yb, vb, rb', db⟩ := obj_rd I eb
          have hl : ¬ va.length = vb.length := by rw [← ra'.length, ← rb'.length, ← ra.length, ← rb.length]; exact c
          exact PySem.W.keq_eq (knd := mixKind X.prog X.w) (r := true) ya yb da db (by omega) (fun z => absurd z hl) (fin_bl I (k H _ .refl R (.bl false)) (by simp [hl]))
    · split at q1
      · rename_i c
        cases q1
        unfold eqLL at c
        split at c
        · rename_i l m e1 e2
          obtain ⟨a, vs, rfl, ea, ra⟩ := asM_at R vx e1
          obtain ⟨b, ws, rfl, eb, rb⟩ := asM_at R vy e2
          obtain rfl : v = Value.ref a := rx
          obtain rfl : u = Value.ref b := ry
          obtain ⟨its, w1, p1, _⟩ := I.list (.inl (.inl ea))
          obtain ⟨js, w2, p2, _⟩ := I.list (.inl (.inl eb))
          obtain ⟨hl, hj⟩ := all2_at (fun a b c d e => eqT_at hK I R 12 a b c d e) ra rb c w1 w2
          exact PySem.W.eq_listsT (e := fun _ => true) p1.isList p2.isList (by simp [hl]) (fun j h1 h2 => by
            have := hj j (by simpa using h1) (by simpa using h2)
            simpa using this) (by omega) (by rw [range_true]; exact ⟨.bl true, H, I, rfl, k H _ .refl R (.bl true)⟩)
        · cases c
      · cases q1
theorem or_ne (hK : G.K = X.K) (hu : X.A.units + 65 < cLine) : OpR X (compareOp .NotEq) (rD G cNe) := by
  intro pins s σ H x y v u Q I rx ry hq
  obtain ⟨S, h, d, e, z, R, vx, vy, q, k⟩ := hq
  unfold cNe at q
  split at q
  · rename_i b q1
    cases q
    obtain ⟨p, p', h1, h2, h3, h4, rfl⟩ := eqD_at R vx vy q1
    rw [hK] at h1 h2
    exact op_neD (by omega) pins s σ H _ _ v u Q I rx ry ⟨p, p', h1, h2, h3, h4, k H _ .refl R (.bl _)⟩
  · obtain ⟨_, q1, rfl⟩ := Option.map_eq_some_iff.mp q
    unfold eqDK at q1
    split at q1
    · rename_i l m ql qm
      split at q1
      · rename_i c
        cases q1
        obtain ⟨a, ks, rfl, ea, ra⟩ := asK_at R vx ql
        obtain ⟨b, ls, rfl, eb, rb⟩ := asK_at R vy qm
        obtain ⟨hlen, hp⟩ := eqKD_at ra rb c
        obtain rfl : v = Value.ref a := rx
        obtain rfl : u = Value.ref b := ry
        obtain ⟨_, ya, va, ra, da⟩ := obj_rd I ea
        obtain ⟨_, yb, vb, rb, db⟩ := obj_rd I eb
        have hl : va.length = vb.length := by rw [← ra.length, ← rb.length]; exact hlen
        exact PySem.W.keq_ne (knd := mixKind X.prog X.w) (r := true) ya yb da db (by omega) (fun _ => hits_all rb ra hp) (fin_bl I (k H _ .refl R (.bl false)) (by simp [hl]))
      · split at q1
        · cases q1
        · rename_i c
          cases q1
          obtain ⟨a, ks, rfl, ea, ra⟩ := asK_at R vx ql
          obtain ⟨b, ls, rfl, eb, rb⟩ := asK_at R vy qm
          obtain rfl : v = Value.ref a := rx
          obtain rfl : u = Value.ref b := ry
          obtain ⟨_, ya, va, ra', da⟩ := obj_rd I ea
          obtain ⟨_, yb, vb, rb', db⟩ := obj_rd I eb
          have hl : ¬ va.length = vb.length := by rw [← ra'.length, ← rb'.length, ← ra.length, ← rb.length]; exact c
          exact PySem.W.keq_ne (knd := mixKind X.prog X.w) (r := true) ya yb da db (by omega) (fun z => absurd z hl) (fin_bl I (k H _ .refl R (.bl true)) (by simp [hl]))
    · split at q1
      · rename_i c
        cases q1
        unfold eqLL at c
        split at c
        · rename_i l m e1 e2
          obtain ⟨a, vs, rfl, ea, ra⟩ := asM_at R vx e1
          obtain ⟨b, ws, rfl, eb, rb⟩ := asM_at R vy e2
          obtain rfl : v = Value.ref a := rx
          obtain rfl : u = Value.ref b := ry
          obtain ⟨its, w1, p1, _⟩ := I.list (.inl (.inl ea))
          obtain ⟨js, w2, p2, _⟩ := I.list (.inl (.inl eb))
          obtain ⟨hl, hj⟩ := all2_at (fun a b c d e => eqT_at hK I R 12 a b c d e) ra rb c w1 w2
          exact rcNe_lists p1.isList p2.isList (by simp [hl]) (by omega) (fun j h1 h2 => by
            have := hj j (by simpa using h1) (by simpa using h2)
            exact (by simpa using this : PySem.W.EqTree X.prog X.w s 12 _ _ true).at X.A.in1 (by show X.A.units + 1 + 12 < cLine; omega)) ⟨.bl false, H, I, rfl, k H _ .refl R (.bl false)⟩
        · cases c
      · cases q1
theorem isNon_at {S : Rho} {H : Hp} {d : D} {x : V} (vx : VD G S H d x) : decide (x = .non) = isNon d := by
  cases vx <;> first | rfl | exact decide_eq_false (fun z => by cases z)
theorem beq_dec (a b : Bool) : (a == b) = decide (a = b) := by cases a <;> cases b <;> rfl
theorem or_is : OpR X (compareOp .Is) (rD G cIs) := by
  intro pins s σ H x y v u Q I rx ry hq
  obtain ⟨S, h, d, e, z, R, vx, vy, q, k⟩ := hq
  obtain ⟨b, q0, rfl⟩ := Option.map_eq_some_iff.mp q
  replace q := q0
  unfold isD at q
  split at q
  · cases q
    cases vy
    exact op_isN pins s σ H _ _ v u Q I rx ry ⟨rfl, k H _ .refl R (by rw [isNon_at vx]; exact .bl _)⟩
  · split at q
    · cases q
      cases vx
      cases vy
      exact op_isBl pins s σ H _ _ v u Q I rx ry ⟨_, _, rfl, rfl, k H _ .refl R (by rw [beq_dec]; exact .bl _)⟩
    · cases q
  · cases q
theorem or_not : OpR X (compareOp .IsNot) (rD G cNot) := by
  intro pins s σ H x y v u Q I rx ry hq
  obtain ⟨S, h, d, e, z, R, vx, vy, q, k⟩ := hq
  obtain ⟨b, q0, rfl⟩ := Option.map_eq_some_iff.mp q
  replace q := q0
  unfold isD at q
  split at q
  · cases q
    cases vy
    exact op_notN pins s σ H _ _ v u Q I rx ry ⟨rfl, k H _ .refl R (by rw [isNon_at vx]; exact .bl _)⟩
  · split at q
    · cases q
      cases vx
      cases vy
      exact op_notBl pins s σ H _ _ v u Q I rx ry ⟨_, _, rfl, rfl, k H _ .refl R (by rw [beq_dec]; exact .bl _)⟩
    · cases q
  · cases q
/-- the ways of in -/
theorem inD_at {S : Rho} {h : Hh} {H : Hp} {d e : D} {x y : V} {b : Bool} (R : Rel G S h H) (vx : VD G S H d x) (vy : VD G S H e y) (q : inD h d e = some b) :
    (∃ s t, x = .str s ∧ y = .str t ∧ b = !(Builtin.Str.occurrences t s 0 t.length 1).isEmpty) ∨ (∃ a o, y = .ref a ∧ DGet H a x o ∧ b = o.isSome) ∨
      (∃ p ds, Dp G.K H x p ∧ Dp G.K H y (.list ds) ∧ SeqAt.shaped p = true ∧ SeqAt.shaped (.list ds) = true ∧ b = ds.any fun z => PyData.eqv z p) ∨
      ∃ p ds, Dp G.K H x p ∧ Dp G.K H y (.tuple ds) ∧ SeqAt.shaped p = true ∧ SeqAt.shaped (.tuple ds) = true ∧ b = ds.any fun z => PyData.eqv z p := by
  unfold inD at q
  split at q
  · split at q
    · cases q
      cases vx
      cases vy
      exact .inl ⟨_, _, rfl, rfl, rfl⟩
    · cases q
  · split at q
    · rename_i l ql
      split at q
      · rename_i j qk
        cases q
        obtain ⟨a, vs, rfl, ha, r⟩ := asK_at R vy ql
        have ek := keyD_at vx qk
        subst ek
        refine .inr (.inl ⟨a, valV vs j, rfl, .inl ⟨vs, j, ha, rfl, rfl⟩, ?_⟩)
        rcases r.val j with ⟨e1, e2⟩ | ⟨d1, v1, e1, e2, _⟩ <;> rw [e1, e2] <;> rfl
      · cases q
    · split at q
      · rename_i p ds q1 q2
        split at q
        · rename_i c
          cases q
          exact .inr (.inr (.inl ⟨p, ds, toPy_at vx q1, deref_at R vy q2, c.1, c.2, rfl⟩))
        · cases q
      · rename_i p ds q1 q2
        split at q
        · rename_i c
          cases q
          exact .inr (.inr (.inr ⟨p, ds, toPy_at vx q1, deref_at R vy q2, c.1, c.2, rfl⟩))
        · cases q
      · cases q
theorem or_in (hK : G.K = X.K) (hu : X.A.units + 65 < cLine) : OpR X (compareOp .In) (rD G cIn) := by
  intro pins s σ H x y v u Q I rx ry hq
  obtain ⟨S, h, d, e, z, R, vx, vy, q, k⟩ := hq
  obtain ⟨b, q0, rfl⟩ := Option.map_eq_some_iff.mp q
  replace q := q0
  have fin := k H _ .refl R (.bl b)
  rcases inD_at R vx vy q with ⟨s1, t1, rfl, rfl, rfl⟩ | ⟨a, o, rfl, g, rfl⟩ | ⟨p, ds, h1, h2, h3, h4, rfl⟩ | ⟨p, ds, h1, h2, h3, h4, rfl⟩
  · exact op_in_str pins s σ H _ _ v u Q I rx ry ⟨_, _, rfl, rfl, fin⟩
  · obtain rfl : u = Value.ref a := ry
    exact d_in (by omega) I g rx fun s3 I3 => ⟨.bl o.isSome, H, I3, rfl, fin⟩
  · rw [hK] at h1 h2
    exact op_inD hu pins s σ H _ _ v u Q I rx ry ⟨p, ds, h1, h2, h3, h4, fin⟩
  · rw [hK] at h1 h2
    obtain ⟨as, r1⟩ := Dp.reads I p x v h1 rx
    obtain ⟨bs, r2⟩ := Dp.reads I (.tuple ds) y u h2 ry
    exact SeqAt.in_tuple_reads r2 r1 (SeqAt.canLay_of_shaped h4) (SeqAt.canLay_of_shaped h3) (room_in_shaped h3 hu) ⟨.bl _, H, I, rfl, fin⟩
theorem or_nin (hK : G.K = X.K) (hu : X.A.units + 65 < cLine) : OpR X (compareOp .NotIn) (rD G cNin) := by
  intro pins s σ H x y v u Q I rx ry hq
  obtain ⟨S, h, d, e, z, R, vx, vy, q, k⟩ := hq
  obtain ⟨b, q0, rfl⟩ := Option.map_eq_some_iff.mp q
  replace q := q0
  have fin := k H _ .refl R (.bl (!b))
  rcases inD_at R vx vy q with ⟨s1, t1, rfl, rfl, rfl⟩ | ⟨a, o, rfl, g, rfl⟩ | ⟨p, ds, h1, h2, h3, h4, rfl⟩ | ⟨p, ds, h1, h2, h3, h4, rfl⟩
  · exact op_notin_str pins s σ H _ _ v u Q I rx ry ⟨_, _, rfl, rfl, fin⟩
  · obtain rfl : u = Value.ref a := ry
    exact d_notIn (by omega) I g rx fun s3 I3 => ⟨.bl (!o.isSome), H, I3, rfl, fin⟩
  · rw [hK] at h1 h2
    exact op_notInD hu pins s σ H _ _ v u Q I rx ry ⟨p, ds, h1, h2, h3, h4, fin⟩
  · rw [hK] at h1 h2
    obtain ⟨as, r1⟩ := Dp.reads I p x v h1 rx
    obtain ⟨bs, r2⟩ := Dp.reads I (.tuple ds) y u h2 ry
    exact SeqAt.notIn_tuple_reads r2 r1 (SeqAt.canLay_of_shaped h4) (SeqAt.canLay_of_shaped h3) (room_in_shaped h3 hu) ⟨.bl _, H, I, rfl, fin⟩
theorem or_cmp (hK : G.K = X.K) (hu : X.A.units + 65 < cLine) : ∀ o : CmpOp, OpR X (compareOp o) (rD G (cmpD o))
  | .Eq => or_eq hK hu
  | .NotEq => or_ne hK hu
  | .Lt => or_lt op_lt
  | .LtE => or_lt op_le
  | .Gt => or_lt op_gt
  | .GtE => or_lt op_ge
  | .Is => or_is
  | .IsNot => or_not
  | .In => or_in hK hu
  | .NotIn => or_nin hK hu
end
end Sb

/-! Sb4: subscripts, slices, built-in functions and methods. -/
namespace Sb
open L2 PySem PySem.Spec PyProof.Rows
/-! ### subscripts -/
def opIdx (h : Hh) (x y : D) : Option D := match asK h x with
  | some l => match keyD y with
    | some k => valD l k
    | none => none
  | none => match y with
    | .int i => match x with
      | .str s => if fits s.length = true then (atI s.cps.toList i).map fun c => .str ⟨#[c]⟩ else none
      | .tup l => atI l i
      | x => match asL h x with
        | some l => atI l i
        | none => none
    | .bl b => match asL h x with
      | some l => atI l (if b = true then 1 else 0)
      | none => none
    | _ => none
theorem VDs.atI {G : Cg} {S : Rho} {H : Hp} {l : List D} {vs : List V} {i : Int} {d : D} (r : VDs G S H l vs) (e : L2.atI l i = some d) : ∃ v, L2.atI vs i = some v ∧ VD G S H d v := by
  unfold L2.atI at e ⊢
  rw [← r.length]
  cases q : ixN l.length i with
  | none => rw [q] at e; cases e
  | some j =>
    rw [q] at e
    exact r.get (i := j) e
theorem ix_dict {X : Cx} (hu : X.A.units + 1 < cLine) : IxR X (fun x y H Q => ∃ a v, x = .ref a ∧ DGet H a y (some v) ∧ Q v H) := by
  intro value slice pins s σ H x y v u Q I rx ry h hs
  obtain ⟨a, z, rfl, g, q⟩ := h
  obtain rfl : v = Value.ref a := rx
  exact tail_any (dict_typeIs I g) PySem.F.slot_dict_getitem.lookup (d_getItem hu I g ry fun w' s' I' rw' => ⟨z, H, I', rw', q⟩) hs
section
variable {M : Model} {A : Around} {E : Value → Shared → Prop} {s : Shared}
theorem lsub_bool {b : Bool} {Q : Option Int → Shared → Prop} (h : Q (some (if b = true then 1 else 0)) s) : wpAny M A (Builtin.List.listSubscript? (.bool b)) Q E s := by
  unfold Builtin.List.listSubscript?
  refine wpAny_bind (wpAny_specialOf (T := "bool") (PySem.typeIs_bool s b) F.slot_bool_index.lookup ?_)
  show wpAny M A (asIndex (.bool b) >>= _) Q E s
  cases b
  · refine wpAny_bind (wpAny_of_eq (a := 0) rfl ?_)
    show wpAny M A (if (!Builtin.List.listFitsIndex 0) = true then _ else _) Q E s
    rw [if_neg (by decide)]
    exact wpAny_pure h
  · refine wpAny_bind (wpAny_of_eq (a := 1) rfl ?_)
    show wpAny M A (if (!Builtin.List.listFitsIndex 1) = true then _ else _) Q E s
    rw [if_neg (by decide)]
    exact wpAny_pure h
end
section
variable {prog : Program} {w : World} {A : Around} {E : Value → Shared → Prop} {s : Shared}
theorem getItem_bool {l : Addr} {items : Array Value} {b : Bool} {x : Value} {Q : Value → Shared → Prop} (hl : s.heap.IsList l items)
    (hx : items[if b = true then 1 else 0]? = some x) (h : Q x s) : wpAny (model prog w) A (getItem (.ref l) (.bool b)) Q E s := by
  obtain ⟨o, ho, hc, ne, hd⟩ := id hl
  unfold getItem
  try with_reducible refine wpAny_holding ?_
  first | refine wpAny_bind (wpAny_pure ?_) | skip
  refine wpAny_bind (wpAny_sequenceKey hl.typeIs (by decide) ?_)
  refine wpAny_bind (wpAny_callSpecial?_slot (name := Str.ofString "__getitem__") hl.typeIs slot_list_getitem
    (wpAny_call_entry slot_list_getitem hl.typeIs entry_list_getitem ?_ (args_list_getitem _ _)))
  show wpAny _ _ (Builtin.List.listSubscript? (.bool b) >>= _) _ _ s
  refine wpAny_bind (lsub_bool ?_)
  cases b
  · have hx' : items[0]? = some x := hx
    show wpAny _ _ ((seqItemAt l 0 >>= fun r => pure (r.map (0, ·))) >>= _) _ _ s
    refine wpAny_bind (wpAny_bind (wpAny_seqItemAt ho hd (wpAny_pure ?_)))
    rw [hx']
    first
      | exact wpAny_bind (wpAny_pure (wpAny_pure ⟨x, rfl, wpAny_pure h⟩))
      | exact wpAny_pure ⟨x, rfl, wpAny_pure h⟩
  · have hx' : items[1]? = some x := hx
    show wpAny _ _ ((seqItemAt l 1 >>= fun r => pure (r.map (1, ·))) >>= _) _ _ s
    refine wpAny_bind (wpAny_bind (wpAny_seqItemAt ho hd (wpAny_pure ?_)))
    rw [hx']
    first
      | exact wpAny_bind (wpAny_pure (wpAny_pure ⟨x, rfl, wpAny_pure h⟩))
      | exact wpAny_pure ⟨x, rfl, wpAny_pure h⟩
end
theorem ix_lbool {X : Cx} : IxR X (fun x y H Q => ∃ p xs b v, x = .ref p ∧ y = .bl b ∧ SqL X.K H p xs ∧ atI xs (if b = true then 1 else 0) = some v ∧ Q v H) := by
  intro value slice pins s σ H x y v u Q I rx ry h hs
  obtain ⟨p, xs, b, z, rfl, rfl, hq, he, q⟩ := h
  cases rx
  obtain rfl : u = Value.bool b := ry
  obtain ⟨its, r, pl, hz⟩ := I.list hq
  obtain ⟨j, h1, h2, h3, h4, h5⟩ := atI_get he
  obtain ⟨w, ew, rw'⟩ := r.get h2
  have hj : (if b = true then 1 else 0) = j := by
    rw [seqIndex_of (by split <;> omega) h5] at h1
    have := Option.some.inj h1
    rw [← this]
    split <;> rfl
  exact subscriptTail_builtinR (x := w) pl.isList.typeIs slot_list_getitem.lookup
    (getItem_bool (Q := fun r s' => r = w ∧ EP X pins σ Q r s') pl.isList (by rw [hj]; simpa using ew) ⟨rfl, ⟨z, H, I, rw', q⟩⟩) hs
theorem ix_all {X : Cx} {G : Cg} (hK : G.K = X.K) (hu : X.A.units + 1 < cLine) : IxR X (rD G opIdx) := by
  intro value slice pins s σ H x y v u Q I rx ry hq hs
  obtain ⟨S, h, d, e, z, R, vx, vy, q, k⟩ := hq
  unfold opIdx at q
  split at q
  · rename_i l ql
    split at q
    · rename_i j qk
      obtain ⟨a, vs, rfl, ha, r⟩ := asK_at R vx ql
      have ek := keyD_at vy qk
      subst ek
      rcases r.val j with ⟨e1, _⟩ | ⟨d1, v1, e1, e2, r1⟩
      · rw [e1] at q; cases q
      · rw [e1] at q
        cases q
        exact ix_dict hu value slice pins s σ H _ _ v u Q I rx ry ⟨a, v1, rfl, .inl ⟨vs, j, ha, rfl, e2.symm⟩, k H _ .refl R r1⟩ hs
    · cases q
  · split at q
    · rename_i i
      cases vy
      split at q
      · rename_i t
        split at q
        · rename_i c
          obtain ⟨c1, e1, rfl⟩ := Option.map_eq_some_iff.mp q
          cases vx
          exact ix_str value slice pins s σ H _ _ v u Q I rx ry ⟨_, _, c1, rfl, rfl, fits_ok c, e1, k H _ .refl R (.str _)⟩ hs
        · cases q
      · rename_i l
        cases vx with
        | tup ha r =>
          obtain ⟨v1, e1, r1⟩ := r.atI q
          rw [hK] at ha
          exact ix_tup value slice pins s σ H _ _ v u Q I rx ry ⟨_, _, _, v1, rfl, rfl, ha, e1, k H _ .refl R r1⟩ hs
      · split at q
        · rename_i l ql
          obtain ⟨a, vs, rfl, ha, r⟩ := asL_at R vx ql
          obtain ⟨v1, e1, r1⟩ := r.atI q
          rw [hK] at ha
          exact ix_list value slice pins s σ H _ _ v u Q I rx ry ⟨_, _, _, v1, rfl, rfl, ha, e1, k H _ .refl R r1⟩ hs
        · cases q
    · rename_i b
      cases vy
      split at q
      · rename_i l ql
        obtain ⟨a, vs, rfl, ha, r⟩ := asL_at R vx ql
        obtain ⟨v1, e1, r1⟩ := r.atI q
        rw [hK] at ha
        exact ix_lbool value slice pins s σ H _ _ v u Q I rx ry ⟨_, _, _, v1, rfl, rfl, ha, e1, k H _ .refl R r1⟩ hs
      · cases q
    · cases q
def noSlice : Expr → Bool
  | .Slice _ _ _ _ => false
  | _ => true
theorem plain_of {b : Expr} (h : noSlice b = true) : PlainIx b := by
  cases b <;> first | exact fun _ _ => rfl | cases h
section
variable {X : Cx} {G : Cf} {W : WX} {a b : Expr} {f g : F D} {pos : Pos}
theorem e_idx (hK : G.K = X.K) (hu : X.A.units + 1 < cLine) (ha : PE X a (tE G W f)) (hb : PE X b (tE G W g)) (hs : noSlice b = true) : PE X (.Subscript a b pos) (tE G W (dB f g opIdx)) :=
  PE.imp (pe_ix (ix_all hK hu) ha hb (plain_of hs)) fun _ _ _ h => tE_op h
end
/-! ### slices -/
def cut {α : Type} (xs : List α) (lo hi : Option Int) : List α := (xs.drop (HT.sIx xs.length 0 lo)).take (HT.sIx xs.length xs.length hi - HT.sIx xs.length 0 lo)
theorem VDs.cut {G : Cg} {S : Rho} {H : Hp} {l : List D} {vs : List V} (r : VDs G S H l vs) (lo hi : Option Int) : VDs G S H (Sb.cut l lo hi) (cutV vs lo hi) := by
  unfold Sb.cut cutV
  rw [r.length]
  exact (r.drop _).take _
theorem cut_whole {α : Type} {xs : List α} {n : Nat} {lo hi : Option Int} (e : xs.length = n) (h1 : HT.sIx n 0 lo = 0) (h2 : HT.sIx n n hi = n) : Sb.cut xs lo hi = xs := by
  unfold Sb.cut
  rw [e, h1, h2, List.drop_zero, Nat.sub_zero, ← e, List.take_length]
def opSl (h : Hh) (x : D) (lo hi : Option Int) : Option D := match x with
  | .str s => if fits s.length = true then some (.str (cutS s lo hi)) else none
  | .tup l => some (.tup (cut l lo hi))
  | x => match asL h x with
    | some l => some (.lst (cut l lo hi))
    | none => none
def pNone : F (Option Int) := fun _ h => .ok none h
def pSome (f : F D) : F (Option Int) := fun e h => (f e h).bind fun d h1 => match d with
  | .int i => .ok (some i) h1
  | _ => .fail
def dSl (f : F D) (lo hi : F (Option Int)) : F D := fun e h => (f e h).bind fun x h1 => (lo e h1).bind fun l h2 => (hi e h2).bind fun u h3 => opt h3 (opSl h3 x l u)
def relO : Rho → Hp → Option Int → Option Int → Prop := fun _ _ a b => a = b
abbrev tO (G : Cf) (W : WX) (f : F (Option Int)) : TO := tX G W relO f
def rSl (G : Cg) : V → Option Int → Option Int → Hp → VK → Prop := fun x lo hi H Q => ∃ S h d z, Rel G S h H ∧ VD G S H d x ∧ opSl h d lo hi = some z ∧ ∀ H' v, Nx G S H S H' → Rel G S h H' → VD G S H' z v → Q v H'
theorem sl_all {X : Cx} {G : Cg} (hK : G.K = X.K) : SlR X (rSl G) := by
  intro pins s σ H x v vl vu lo hi sl Q I rx hs pl pu hq
  obtain ⟨S, h, d, z, R, vx, q, k⟩ := hq
  unfold opSl at q
  split at q
  · split at q
    · rename_i c
      cases q
      cases vx
      exact sl_str pins s σ H _ v vl vu lo hi sl Q I rx hs pl pu ⟨_, rfl, fits_ok c, k H _ .refl R (.str _)⟩
    · cases q
  · cases q
    cases vx with
    | tup ha r =>
      have hK2 := ha
      rw [hK] at hK2
      refine sl_tupA pins s σ H _ v vl vu lo hi sl Q I rx hs pl pu ⟨_, _, rfl, hK2, fun hw => ?_, fun _ p hp => ?_⟩
      · rw [cut_whole r.length hw.1 hw.2] at k
        exact k H _ .refl R (.tup ha r)
      · obtain ⟨n1, rr, x1⟩ := new_tup R (r.cut lo hi) hp
        exact k _ _ n1 rr x1
  · split at q
    · rename_i l ql
      cases q
      obtain ⟨a, vs, rfl, ha, r⟩ := asL_at R vx ql
      rw [hK] at ha
      refine sl_list pins s σ H _ v vl vu lo hi sl Q I rx hs pl pu ⟨a, vs, rfl, ha, fun p hp => ?_⟩
      obtain ⟨n1, rr, x1⟩ := new_lst R (r.cut lo hi) hp
      exact k _ _ n1 rr x1
    · cases q
section
variable {X : Cx} {G : Cf} {W : WX} {a b : Expr} {f g : F D} {pos p2 : Pos} {lo hi : Option Expr} {fl fh : F (Option Int)}
theorem o_none : PO X none (tO G W pNone) := ⟨fun pins s σ H Q I ⟨S, h, e, R, E, P⟩ => po_none.run pins s σ H Q I (P.here R rfl)⟩
theorem o_some (ha : PE X a (tE G W f)) : PO X (some a) (tO G W (pSome f)) := ⟨fun pins s σ H Q I ⟨S, h, e, R, E, P⟩ => (po_some ha).run pins s σ H Q I ⟨S, h, e, R, E, P.bind fun x h1 S1 H1 v _ N1 R1 v1 P1 => by
  cases v1 with
  | int i => exact ⟨i, rfl, P1.here R1 rfl⟩
  | _ => exact P1.elim⟩⟩
theorem e_slice (hK : G.K = X.K) (ha : PE X a (tE G W f)) (hl : PO X lo (tO G W fl)) (hh : PO X hi (tO G W fh)) : PE X (.Subscript a (.Slice lo hi none p2) pos) (tE G W (dSl f fl fh)) :=
  PE.imp (pe_slice (sl_all hK) ha hl hh) fun σ H Q ⟨S, h, e, R, E, P⟩ => ⟨S, h, e, R, E, P.bind fun x h1 S1 H1 v _ N1 R1 v1 P1 =>
    have E1 := E.mono N1 R.bad
    ⟨S1, h1, e, R1, E1, P1.bind fun l h2 S2 H2 l' _ N2 R2 e2 P2 =>
      ⟨S2, h2, e, R2, E1.mono N2 R1.bad, P2.bind fun u h3 S3 H3 u' _ N3 R3 e3 P3 => by
        subst e2 e3
        cases q : opSl h3 x l u with
        | none => rw [q] at P3; exact P3.elim
        | some z =>
          rw [q] at P3
          exact ⟨S3, h3, x, z, R3, (v1.mono N2 R1.bad).mono N3 R2.bad, q, fun H' v n r y => P3 S3 H' v n r y⟩⟩⟩⟩
end
/-! ### built-in functions -/
def rC (G : Cg) (op : Hh → List D → Option D) : List V → Hp → VK → Prop := fun vs H Q => ∃ S h ds z, Rel G S h H ∧ VDs G S H ds vs ∧ op h ds = some z ∧ ∀ H' v, Nx G S H S H' → Rel G S h H' → VD G S H' z v → Q v H'
def dBi (r : F (List D)) (op : Hh → List D → Option D) : F D := fun e h => (r e h).bind fun l h1 => opt h1 (op h1 l)
theorem tE_bi {G : Cf} {W : WX} {r : F (List D)} {op : Hh → List D → Option D} {σ : L2.St} {H : Hp} {Q : VK} (h : tE G W (dBi r op) σ H Q) : tCB (rC G op) (tA G W r) σ H Q := by
  obtain ⟨S, h, e, R, E, P⟩ := h
  refine ⟨S, h, e, R, E, P.bind fun l h1 S1 H1 vs _ N1 R1 v1 P1 => ?_⟩
  cases q : op h1 l with
  | none => rw [q] at P1; exact P1.elim
  | some z =>
    rw [q] at P1
    exact ⟨S1, h1, l, z, R1, v1, q, fun H' v n r x => P1 S1 H' v n r x⟩
section
variable {X : Cx} {G : Cf} {W : WX} {e : Expr} {es : List Expr} {r : F (List D)} {p pos : Pos} {x : Str} {op : Hh → List D → Option D}
theorem e_callB {id : String} (hc : CallR X (.builtin id) (rC G op)) (hg : Gl X x) (hm : X.mg x = none) (hv : bootBuiltins x = some (.builtin id)) (ha : PA X (e :: es) (tA G W r)) (hs : (e :: es).all noStar = true) (hn : x ≠ "__name__") (hdb : (x == ("__debug__" : Str)) = false) :
    PE X (.Call (.Name x p) (e :: es) [] pos) (tE G W (dBi r op)) :=
  have h2 : noStar e = true ∧ es.all noStar = true := Bool.and_eq_true_iff.mp hs
  PE.imp (pe_callB hc hg hm hv ha hn hdb (star_of h2.1 _ _) (stars_of h2.2)) fun _ _ _ h => tE_bi h
theorem e_callTy {T : String} (hc : CallR X (.type T) (rC G op)) (hg : Gl X x) (hm : X.mg x = none) (hv : bootBuiltins x = some (.type T)) (ha : PA X (e :: es) (tA G W r)) (hs : (e :: es).all noStar = true) (hn : x ≠ "__name__") (hdb : (x == ("__debug__" : Str)) = false) :
    PE X (.Call (.Name x p) (e :: es) [] pos) (tE G W (dBi r op)) :=
  have h2 : noStar e = true ∧ es.all noStar = true := Bool.and_eq_true_iff.mp hs
  PE.imp (pe_callTy hc hg hm hv ha hn hdb (star_of h2.1 _ _) (stars_of h2.2)) fun _ _ _ h => tE_bi h
end
def bLen (h : Hh) : List D → Option D
  | [x] => match x with
    | .str s => if fits s.length = true then some (.int s.length) else none
    | .tup l => some (.int l.length)
    | x => match asL h x with
      | some l => some (.int l.length)
      | none => match asK h x with
        | some l => some (.int l.length)
        | none => none
  | _ => none
def intsD : List D → Option (List Int)
  | [] => some []
  | .int i :: l => (intsD l).map (i :: ·)
  | _ => none
def blsD : List D → Option (List Bool)
  | [] => some []
  | .bl i :: l => (blsD l).map (i :: ·)
  | _ => none
theorem intsD_at {G : Cg} {S : Rho} {H : Hp} : ∀ {l : List D} {vs : List V} {ns : List Int}, VDs G S H l vs → intsD l = some ns → vs = ns.map V.int
  | _, _, _, .nil, e => by cases e; rfl
  | _, _, ns, .cons (d := d) (l := l) a t, e => by
    cases a with
    | int i =>
      have e2 : (intsD l).map (i :: ·) = some ns := e
      obtain ⟨ms, e3, rfl⟩ := Option.map_eq_some_iff.mp e2
      rw [intsD_at t e3]; rfl
    | _ => cases e
theorem blsD_at {G : Cg} {S : Rho} {H : Hp} : ∀ {l : List D} {vs : List V} {ns : List Bool}, VDs G S H l vs → blsD l = some ns → vs = ns.map V.bl
  | _, _, _, .nil, e => by cases e; rfl
  | _, _, ns, .cons (d := d) (l := l) a t, e => by
    cases a with
    | bl i =>
      have e2 : (blsD l).map (i :: ·) = some ns := e
      obtain ⟨ms, e3, rfl⟩ := Option.map_eq_some_iff.mp e2
      rw [blsD_at t e3]; rfl
    | _ => cases e
/-- the items of a list, a tuple -/
def asQ (h : Hh) : D → Option (List D)
  | .tup l => some l
  | x => asL h x
def bSum (h : Hh) : List D → Option D
  | [x] => ((asQ h x).bind intsD).map fun ns => .int ns.sum
  | _ => none
def bAll (h : Hh) : List D → Option D
  | [x] => ((asL h x).bind blsD).map fun ns => .bl (ns.all id)
  | _ => none
def bAny (h : Hh) : List D → Option D
  | [x] => ((asL h x).bind blsD).map fun ns => .bl (ns.any id)
  | _ => none
/-- the greatest, the least of some ints -/
def maxL : List Int → Option Int
  | [] => none
  | i :: l => match maxL l with
    | some m => some (if m > i then m else i)
    | none => some i
def minL : List Int → Option Int
  | [] => none
  | i :: l => match minL l with
    | some m => some (if m < i then m else i)
    | none => some i
def bMax (h : Hh) : List D → Option D
  | [.int i, .int j] => some (.int (if j > i then j else i))
  | [x] => (((asQ h x).bind intsD).bind maxL).map .int
  | _ => none
def bMin (h : Hh) : List D → Option D
  | [.int i, .int j] => some (.int (if j < i then j else i))
  | [x] => (((asQ h x).bind intsD).bind minL).map .int
  | _ => none
theorem maxL_is : ∀ {l : List Int} {m k : Int}, maxL l = some k → m ∈ l → (∀ y ∈ l, y ≤ m) → m = k
  | [], _, _, e, _, _ => by cases e
  | i :: l, m, k, e, hm, h => by
    unfold maxL at e
    split at e
    · rename_i n q
      cases e
      have key : ∀ {l : List Int} {n : Int}, maxL l = some n → n ∈ l ∧ ∀ y ∈ l, y ≤ n := by
        intro l
        induction l with
        | nil => intro n e; cases e
        | cons j l ih =>
          intro n e
          unfold maxL at e
          split at e
          · rename_i n' q'
            cases e
            obtain ⟨a, b⟩ := ih q'
            split
            · rename_i c
              exact ⟨List.mem_cons_of_mem _ a, fun y hy => by rcases List.mem_cons.mp hy with rfl | hy; · omega
                                                              · exact b y hy⟩
            · rename_i c
              exact ⟨List.mem_cons_self, fun y hy => by rcases List.mem_cons.mp hy with rfl | hy; · omega
                                                        · have := b y hy; omega⟩
          · rename_i q'
            cases e
            cases l with
            | nil => exact ⟨List.mem_cons_self, fun y hy => by rw [List.mem_singleton] at hy; omega⟩
            | cons x l => unfold maxL at q'; split at q' <;> cases q'
      obtain ⟨a, b⟩ := key q
      have h1 := h i List.mem_cons_self
      have h2 := h n (List.mem_cons_of_mem _ a)
      rcases List.mem_cons.mp hm with rfl | hm
      · split <;> omega
      · have := b m hm
        split <;> omega
    · rename_i q
      cases e
      cases l with
      | nil => rw [List.mem_singleton] at hm; exact hm
      | cons x l => unfold maxL at q; split at q <;> cases q
theorem minL_is : ∀ {l : List Int} {m k : Int}, minL l = some k → m ∈ l → (∀ y ∈ l, m ≤ y) → m = k
  | [], _, _, e, _, _ => by cases e
  | i :: l, m, k, e, hm, h => by
    unfold minL at e
    split at e
    · rename_i n q
      cases e
      have key : ∀ {l : List Int} {n : Int}, minL l = some n → n ∈ l ∧ ∀ y ∈ l, n ≤ y := by
        intro l
        induction l with
        | nil => intro n e; cases e
        | cons j l ih =>
          intro n e
          unfold minL at e
          split at e
          · rename_i n' q'
            cases e
            obtain ⟨a, b⟩ := ih q'
            split
            · rename_i c
              exact ⟨List.mem_cons_of_mem _ a, fun y hy => by rcases List.mem_cons.mp hy with rfl | hy; · omega
                                                              · exact b y hy⟩
            · rename_i c
              exact ⟨List.mem_cons_self, fun y hy => by rcases List.mem_cons.mp hy with rfl | hy; · omega
                                                        · have := b y hy; omega⟩
          · rename_i q'
            cases e
            cases l with
            | nil => exact ⟨List.mem_cons_self, fun y hy => by rw [List.mem_singleton] at hy; omega⟩
            | cons x l => unfold minL at q'; split at q' <;> cases q'
      obtain ⟨a, b⟩ := key q
      have h1 := h i List.mem_cons_self
      have h2 := h n (List.mem_cons_of_mem _ a)
      rcases List.mem_cons.mp hm with rfl | hm
      · split <;> omega
      · have := b m hm
        split <;> omega
    · rename_i q
      cases e
      cases l with
      | nil => rw [List.mem_singleton] at hm; exact hm
      | cons x l => unfold minL at q; split at q <;> cases q
theorem maxL_ne {l : List Int} {k : Int} (e : maxL l = some k) : 0 < l.length := by
  cases l with
  | nil => cases e
  | cons _ _ => exact Nat.succ_pos _
theorem minL_ne {l : List Int} {k : Int} (e : minL l = some k) : 0 < l.length := by
  cases l with
  | nil => cases e
  | cons _ _ => exact Nat.succ_pos _
def bInt (_ : Hh) : List D → Option D
  | [.int i] => some (.int i)
  | [.bl k] => some (.int (if k then 1 else 0))
  | _ => none
def kD : Key → D
  | .inl n => .int n
  | .inr s => .str s
theorem VDk.keysL {G : Cg} {S : Rho} {H : Hp} : ∀ {l : List (Key × D)} {vs : List (Key × V)}, VDk G S H l vs → VDs G S H (l.map fun p => kD p.1) (vs.map fun p => kV p.1)
  | _, _, .nil => .nil
  | _, _, @VDk.cons _ _ _ k _ _ _ _ _ t => .cons (match k with | .inl n => .int n | .inr s => .str s) t.keysL
def keysI : List (Key × D) → Option (List Int)
  | [] => some []
  | (.inl n, _) :: l => (keysI l).map (n :: ·)
  | _ => none
theorem keysI_at {G : Cg} {S : Rho} {H : Hp} : ∀ {l : List (Key × D)} {vs : List (Key × V)} {ns : List Int}, VDk G S H l vs → keysI l = some ns → vs.map (·.1) = ns.map Sum.inl
  | _, _, _, .nil, e => by cases e; rfl
  | _, _, ns, @VDk.cons _ _ _ k d v l vs _ t, e => by
    cases k with
    | inr s => cases e
    | inl n =>
      have e2 : (keysI l).map (n :: ·) = some ns := e
      obtain ⟨m, e3, rfl⟩ := Option.map_eq_some_iff.mp e2
      rw [List.map_cons, List.map_cons, keysI_at t e3]
def bList (h : Hh) : List D → Option D
  | [x] => match asQ h x with
    | some l => some (.lst l)
    | none => match asK h x with
      | some l => some (.lst (l.map fun p => kD p.1))
      | none => none
  | _ => none
def bTuple (h : Hh) : List D → Option D
  | [x] => (asQ h x).map .tup
  | _ => none
def insI (i : Int) : List Int → List Int
  | [] => [i]
  | j :: l => if i ≤ j then i :: j :: l else j :: insI i l
def sortI : List Int → List Int
  | [] => []
  | i :: l => insI i (sortI l)
def bSorted (h : Hh) : List D → Option D
  | [x] => match asL h x with
    | some l => match intsD l with
      | some ns => some (.lst ((sortI ns).map .int))
      | none => none
    | none => match asK h x with
      | some l => match keysI l with
        | some ns => if ns.length < 64 then some (.lst ((sortI ns).map .int)) else none
        | none => none
      | none => none
  | _ => none
theorem insI_perm (i : Int) : ∀ l, (insI i l).Perm (i :: l)
  | [] => .refl _
  | j :: l => by
    unfold insI
    split
    · exact .refl _
    · exact ((insI_perm i l).cons j).trans (.swap i j l)
theorem sortI_perm : ∀ l, (sortI l).Perm l
  | [] => .refl _
  | i :: l => (insI_perm i _).trans ((sortI_perm l).cons i)
theorem perm_sorted : ∀ {a b : List Int}, a.Perm b → a.Pairwise (· ≤ ·) → b.Pairwise (· ≤ ·) → a = b := fun hp ha hb =>
  List.Perm.eq_of_pairwise (fun _ _ _ _ h1 h2 => Int.le_antisymm h1 h2) ha hb hp
theorem insI_sorted (i : Int) : ∀ {l : List Int}, l.Pairwise (· ≤ ·) → (insI i l).Pairwise (· ≤ ·)
  | [], _ => by simp [insI]
  | j :: l, h => by
    have h1 := List.pairwise_cons.mp h
    unfold insI
    split
    · rename_i c
      refine List.pairwise_cons.mpr ⟨fun k hk => ?_, h⟩
      rcases List.mem_cons.mp hk with e | e
      · omega
      · have := h1.1 k e; omega
    · rename_i c
      refine List.pairwise_cons.mpr ⟨fun k hk => ?_, insI_sorted i h1.2⟩
      rcases List.mem_cons.mp ((insI_perm i l).mem_iff.mp hk) with e | e
      · omega
      · exact h1.1 k e
theorem sortI_sorted : ∀ l, (sortI l).Pairwise (· ≤ ·)
  | [] => .nil
  | i :: l => insI_sorted i (sortI_sorted l)
section
variable {X : Cx} {G : Cg}
theorem asQ_at {S : Rho} {h : Hh} {H : Hp} {d : D} {v : V} {l : List D} (R : Rel G S h H) (x : VD G S H d v) (e : asQ h d = some l) : ∃ a vs, v = .ref a ∧ (SqL G.K H a vs ∨ SqT G.K H a vs) ∧ VDs G S H l vs := by
  cases d with
  | tup l' =>
    cases e
    cases x with
    | tup a r => exact ⟨_, _, rfl, .inr a, r⟩
  | _ =>
    obtain ⟨a, vs, e1, e2, e3⟩ := asL_at R x e
    exact ⟨a, vs, e1, .inl e2, e3⟩
theorem cr_len (hK : G.K = X.K) : CallR X (.builtin "len") (rC G bLen) := by
  intro pins s σ H xs us Q I r hq
  obtain ⟨S, h, ds, z, R, vx, q, k⟩ := hq
  unfold bLen at q
  split at q
  · cases vx with
    | cons v1 t1 =>
      cases t1
      split at q
      · split at q
        · rename_i c
          cases q
          cases v1
          exact call_len pins s σ H _ us Q I r ⟨_, _, rfl, ⟨fits_ok c, rfl⟩, k H _ .refl R (.int _)⟩
        · cases q
      · cases q
        cases v1 with
        | tup ha rr =>
          rw [hK] at ha
          have e := rr.length
          exact call_len pins s σ H _ us Q I r ⟨_, _, rfl, .inr ⟨_, ha, e⟩, k H _ .refl R (.int _)⟩
      · split at q
        · rename_i l ql
          cases q
          obtain ⟨a, vs, rfl, ha, rr⟩ := asL_at R v1 ql
          rw [hK] at ha
          exact call_len pins s σ H _ us Q I r ⟨_, _, rfl, .inl ⟨_, ha, rr.length⟩, k H _ .refl R (.int _)⟩
        · split at q
          · rename_i l ql
            cases q
            obtain ⟨a, vs, rfl, ha, rr⟩ := asK_at R v1 ql
            rw [Vals.ref1 r]
            have fin := k H _ .refl R (.int _)
            rw [rr.length] at fin
            exact d_len I ha fun t s' I' => ⟨.int _, H, I', ⟨t, rfl⟩, fin⟩
          · cases q
  · cases q
theorem sum_tup {prog : Program} {w : World} {A : Around} {E : Value → Shared → Prop} {s : Shared} {a : Addr} {its : List Value} {ns : List Int} {Q : Value → Shared → Prop} (hh : A.handled = none) (hl : IsTup s.heap a its.toArray) (hi : IntsAre its ns)
    (h : ∀ h' tk t', (∀ b o, s.heap.get? b = some o → h'.get? b = some o) → Q (.int ns.sum t') { s with heap := h', toks := tk }) : wpAny (model prog w) A (call (.builtin "sum") [.ref a]) Q E s := by
  obtain ⟨xs, e⟩ := hi.allInts.items
  have hn : numsOf (intItems xs).toList = ns := by rw [← e]; exact hi.numsOf
  rw [nums_intItems] at hn
  rw [e] at hl
  have hl2 : s.heap.IsTuple a (intItems xs) := hl
  have hlt : a < s.heap.objs.size := by obtain ⟨_, e, _⟩ := hl2; exact Heap.lt_size e
  refine call_sum_walkG (wpAny_pyIter_tuple hl2 ?_)
  refine ⟨_, _, _, _, _, _, numAt xs, rfl, Walks.tuple (A := A.in1) hh s.heap.objs.size a (Nat.ne_of_lt hlt) (intItems xs), ⟨⟨_, Heap.get?_push_size _ rfl, rfl, rfl⟩, hl2.push _⟩, fun b hb => ?_, (fun _ _ => intItems_at), fun h' tk t' hk => ?_⟩
  · show b < (s.heap.push _).objs.size
    rw [Heap.size_push]
    rcases List.mem_cons.mp hb with rfl | hb
    · exact Nat.lt_succ_self _
    · have e : b = a := by simpa using hb
      subst e
      exact Nat.lt_succ_of_lt hlt
  · have z := h h' tk t' fun b o e => hk b o (by simpa using Nat.ne_of_lt (Heap.lt_size e)) (Heap.get?_push_of_some _ e)
    rw [preSum_eq, List.take_of_length_le (by simp [intItems]), hn]
    exact z
theorem min_tup {prog : Program} {w : World} {A : Around} {E : Value → Shared → Prop} {s : Shared} {a : Addr} {its : List Value} {ns : List Int} {Q : Value → Shared → Prop} (hh : A.handled = none) (hl : IsTup s.heap a its.toArray) (hi : IntsAre its ns) (hne : 0 < ns.length)
    (h : ∀ h' tk M t', (∀ b o, s.heap.get? b = some o → h'.get? b = some o) → M ∈ ns → (∀ y, y ∈ ns → M ≤ y) → Q (.int M t') { s with heap := h', toks := tk }) : wpAny (model prog w) A (call (.builtin "min") [.ref a]) Q E s := by
  obtain ⟨xs, e⟩ := hi.allInts.items
  have hn : numsOf (intItems xs).toList = ns := by rw [← e]; exact hi.numsOf
  rw [nums_intItems] at hn
  subst hn
  rw [e] at hl
  have hsz : 0 < xs.size := by simpa using hne
  have hl2 : s.heap.IsTuple a (intItems xs) := hl
  have hlt : a < s.heap.objs.size := by obtain ⟨_, e, _⟩ := hl2; exact Heap.lt_size e
  refine call_min_walk (wpAny_pyIter_tuple hl2 ?_)
  refine ⟨_, _, _, _, _, _, _, rfl, Walks.tuple (A := A.in1) hh s.heap.objs.size a (Nat.ne_of_lt hlt) (intItems xs), ⟨⟨_, Heap.get?_push_size _ rfl, rfl, rfl⟩, hl2.push _⟩, fun b hb => ?_, by simpa [intItems] using hsz, CmpOf.ints_lt (numAt xs) (fun _ _ => intItems_at), fun v h' tk hP hk => ?_⟩
  · show b < (s.heap.push _).objs.size
    rw [Heap.size_push]
    rcases List.mem_cons.mp hb with rfl | hb
    · exact Nat.lt_succ_self _
    · have e : b = a := by simpa using hb
      subst e
      exact Nat.lt_succ_of_lt hlt
  · have hv : (intItems xs)[argBest (fun i j => decide (numAt xs i < numAt xs j)) (xs.size - 1)]? = some v := by simpa [intItems] using hP
    obtain ⟨t, rfl⟩ := intItems_at hv
    obtain ⟨h1, h2⟩ := argBest_lt (numAt xs) (xs.size - 1)
    refine h h' tk _ t (fun b o e => hk b o (fun z => by rw [List.mem_singleton] at z; subst z; exact absurd (Heap.lt_size e) (Nat.lt_irrefl _)) (Heap.get?_push_of_some _ e)) ?_ fun y hy => ?_
    · rw [numAt_eq]; exact PySem.getD_mem (by rw [List.length_map, Array.length_toList]; omega)
    · obtain ⟨j, hj, rfl⟩ := mem_getD hy
      rw [List.length_map, Array.length_toList] at hj
      rw [← numAt_eq]; exact h2 j (by omega)
theorem max_tup {prog : Program} {w : World} {A : Around} {E : Value → Shared → Prop} {s : Shared} {a : Addr} {its : List Value} {ns : List Int} {Q : Value → Shared → Prop} (hh : A.handled = none) (hl : IsTup s.heap a its.toArray) (hi : IntsAre its ns) (hne : 0 < ns.length)
    (h : ∀ h' tk M t', (∀ b o, s.heap.get? b = some o → h'.get? b = some o) → M ∈ ns → (∀ y, y ∈ ns → y ≤ M) → Q (.int M t') { s with heap := h', toks := tk }) : wpAny (model prog w) A (call (.builtin "max") [.ref a]) Q E s := by
  obtain ⟨xs, e⟩ := hi.allInts.items
  have hn : numsOf (intItems xs).toList = ns := by rw [← e]; exact hi.numsOf
  rw [nums_intItems] at hn
  subst hn
  rw [e] at hl
  have hsz : 0 < xs.size := by simpa using hne
  have hl2 : s.heap.IsTuple a (intItems xs) := hl
  have hlt : a < s.heap.objs.size := by obtain ⟨_, e, _⟩ := hl2; exact Heap.lt_size e
  refine call_max_walk (wpAny_pyIter_tuple hl2 ?_)
  refine ⟨_, _, _, _, _, _, _, rfl, Walks.tuple (A := A.in1) hh s.heap.objs.size a (Nat.ne_of_lt hlt) (intItems xs), ⟨⟨_, Heap.get?_push_size _ rfl, rfl, rfl⟩, hl2.push _⟩, fun b hb => ?_, by simpa [intItems] using hsz, CmpOf.ints_gt (numAt xs) (fun _ _ => intItems_at), fun v h' tk hP hk => ?_⟩
  · show b < (s.heap.push _).objs.size
    rw [Heap.size_push]
    rcases List.mem_cons.mp hb with rfl | hb
    · exact Nat.lt_succ_self _
    · have e : b = a := by simpa using hb
      subst e
      exact Nat.lt_succ_of_lt hlt
  · have hv : (intItems xs)[argBest (fun i j => decide (numAt xs i > numAt xs j)) (xs.size - 1)]? = some v := by simpa [intItems] using hP
    obtain ⟨t, rfl⟩ := intItems_at hv
    obtain ⟨h1, h2⟩ := argBest_gt (numAt xs) (xs.size - 1)
    refine h h' tk _ t (fun b o e => hk b o (fun z => by rw [List.mem_singleton] at z; subst z; exact absurd (Heap.lt_size e) (Nat.lt_irrefl _)) (Heap.get?_push_of_some _ e)) ?_ fun y hy => ?_
    · rw [numAt_eq]; exact PySem.getD_mem (by rw [List.length_map, Array.length_toList]; omega)
    · obtain ⟨j, hj, rfl⟩ := mem_getD hy
      rw [List.length_map, Array.length_toList] at hj
      rw [← numAt_eq]; exact h2 j (by omega)
theorem cr_sumD (hK : G.K = X.K) (hc : X.calm = true) : CallR X (.builtin "sum") (rC G bSum) := by
  intro pins s σ H xs us Q I r hq
  obtain ⟨S, h, ds, z, R, vx, q, k⟩ := hq
  unfold bSum at q
  split at q
  · cases vx with
    | cons v1 t1 =>
      cases t1
      obtain ⟨ns, q0, rfl⟩ := Option.map_eq_some_iff.mp q
      obtain ⟨l, q1, q2⟩ := Option.bind_eq_some_iff.mp q0
      obtain ⟨a, vs, rfl, ha, rr⟩ := asQ_at R v1 q1
      have e := intsD_at rr q2
      subst e
      have fin := k H _ .refl R (.int _)
      rw [hK] at ha
      rcases ha with ha | ha
      · exact cr_sum hc pins s σ H _ us Q I r ⟨a, ns, rfl, ha, fin⟩
      · obtain ⟨its, rv, ht, _⟩ := I.tuple ha
        rw [Vals.ref1 r]
        exact sum_tup (I.ok.hd hc) ht rv.ints fun h' tk t' hk => ⟨.int _, H, I.kept hk, ⟨_, rfl⟩, fin⟩
  · cases q
theorem cr_allD (hK : G.K = X.K) (hc : X.calm = true) : CallR X (.builtin "all") (rC G bAll) := by
  intro pins s σ H xs us Q I r hq
  obtain ⟨S, h, ds, z, R, vx, q, k⟩ := hq
  unfold bAll at q
  split at q
  · cases vx with
    | cons v1 t1 =>
      cases t1
      obtain ⟨ns, q0, rfl⟩ := Option.map_eq_some_iff.mp q
      obtain ⟨l, q1, q2⟩ := Option.bind_eq_some_iff.mp q0
      obtain ⟨a, vs, rfl, ha, rr⟩ := asL_at R v1 q1
      have e := blsD_at rr q2
      subst e
      rw [hK] at ha
      exact cr_all hc pins s σ H _ us Q I r ⟨a, ns, rfl, ha, k H _ .refl R (.bl _)⟩
  · cases q
theorem cr_anyD (hK : G.K = X.K) (hc : X.calm = true) : CallR X (.builtin "any") (rC G bAny) := by
  intro pins s σ H xs us Q I r hq
  obtain ⟨S, h, ds, z, R, vx, q, k⟩ := hq
  unfold bAny at q
  split at q
  · cases vx with
    | cons v1 t1 =>
      cases t1
      obtain ⟨ns, q0, rfl⟩ := Option.map_eq_some_iff.mp q
      obtain ⟨l, q1, q2⟩ := Option.bind_eq_some_iff.mp q0
      obtain ⟨a, vs, rfl, ha, rr⟩ := asL_at R v1 q1
      have e := blsD_at rr q2
      subst e
      rw [hK] at ha
      exact cr_any hc pins s σ H _ us Q I r ⟨a, ns, rfl, ha, k H _ .refl R (.bl _)⟩
  · cases q
theorem cr_maxD (hK : G.K = X.K) (hc : X.calm = true) : CallR X (.builtin "max") (rC G bMax) := by
  intro pins s σ H xs us Q I r hq
  obtain ⟨S, h, ds, z, R, vx, q, k⟩ := hq
  unfold bMax at q
  split at q
  · cases q
    cases vx with
    | cons v1 t1 => cases t1 with
      | cons v2 t2 =>
        cases t2
        cases v1
        cases v2
        exact call_max2 hc pins s σ H _ us Q I r ⟨_, _, rfl, k H _ .refl R (.int _)⟩
  · obtain ⟨m, e1, rfl⟩ := Option.map_eq_some_iff.mp q
    obtain ⟨ns, e2, e3⟩ := Option.bind_eq_some_iff.mp e1
    obtain ⟨l, e4, e5⟩ := Option.bind_eq_some_iff.mp e2
    cases vx with
    | cons v1 t1 =>
      cases t1
      obtain ⟨a, vs, rfl, ha, rr⟩ := asQ_at R v1 e4
      have ev := intsD_at rr e5
      subst ev
      rw [hK] at ha
      have fin := k H _ .refl R (.int _)
      rcases ha with ha | ha
      · exact cr_max hc pins s σ H _ us Q I r ⟨a, ns, rfl, ha, maxL_ne e3, fun M h1 h2 => by
          have := maxL_is e3 h1 h2
          subst this
          exact fin⟩
      · obtain ⟨its, rv, ht, _⟩ := I.tuple ha
        rw [Vals.ref1 r]
        exact max_tup (I.ok.hd hc) ht rv.ints (maxL_ne e3) fun h' tk M t' hk h1 h2 => by
          have := maxL_is e3 h1 h2
          subst this
          exact ⟨.int _, H, I.kept hk, ⟨_, rfl⟩, fin⟩
  · cases q
theorem cr_minD (hK : G.K = X.K) (hc : X.calm = true) : CallR X (.builtin "min") (rC G bMin) := by
  intro pins s σ H xs us Q I r hq
  obtain ⟨S, h, ds, z, R, vx, q, k⟩ := hq
  unfold bMin at q
  split at q
  · cases q
    cases vx with
    | cons v1 t1 => cases t1 with
      | cons v2 t2 =>
        cases t2
        cases v1
        cases v2
        exact call_min2 hc pins s σ H _ us Q I r ⟨_, _, rfl, k H _ .refl R (.int _)⟩
  · obtain ⟨m, e1, rfl⟩ := Option.map_eq_some_iff.mp q
    obtain ⟨ns, e2, e3⟩ := Option.bind_eq_some_iff.mp e1
    obtain ⟨l, e4, e5⟩ := Option.bind_eq_some_iff.mp e2
    cases vx with
    | cons v1 t1 =>
      cases t1
      obtain ⟨a, vs, rfl, ha, rr⟩ := asQ_at R v1 e4
      have ev := intsD_at rr e5
      subst ev
      rw [hK] at ha
      have fin := k H _ .refl R (.int _)
      rcases ha with ha | ha
      · exact cr_min hc pins s σ H _ us Q I r ⟨a, ns, rfl, ha, minL_ne e3, fun M h1 h2 => by
          have := minL_is e3 h1 h2
          subst this
          exact fin⟩
      · obtain ⟨its, rv, ht, _⟩ := I.tuple ha
        rw [Vals.ref1 r]
        exact min_tup (I.ok.hd hc) ht rv.ints (minL_ne e3) fun h' tk M t' hk h1 h2 => by
          have := minL_is e3 h1 h2
          subst this
          exact ⟨.int _, H, I.kept hk, ⟨_, rfl⟩, fin⟩
  · cases q
theorem cr_intD : CallR X (.type "int") (rC G bInt) := by
  intro pins s σ H xs us Q I r hq
  obtain ⟨S, h, ds, z, R, vx, q, k⟩ := hq
  unfold bInt at q
  split at q
  · cases q
    cases vx with
    | cons v1 t1 =>
      cases t1
      cases v1
      exact call_int1 pins s σ H _ us Q I r (.inl ⟨_, rfl, k H _ .refl R (.int _)⟩)
  · cases q
    cases vx with
    | cons v1 t1 =>
      cases t1
      cases v1
      exact call_int1 pins s σ H _ us Q I r (.inr ⟨_, rfl, k H _ .refl R (.int _)⟩)
  · cases q
theorem cr_listD (hK : G.K = X.K) (hc : X.calm = true) : CallR X (.type "list") (rC G bList) := by
  intro pins s σ H xs us Q I r hq
  obtain ⟨S, h, ds, z, R, vx, q, k⟩ := hq
  unfold bList at q
  split at q
  · cases vx with
    | cons v1 t1 =>
      cases t1
      split at q
      · rename_i l q1
        cases q
        obtain ⟨a, vs, rfl, ha, rr⟩ := asQ_at R v1 q1
        rw [hK] at ha
        refine call_list_of pins s σ H _ us Q I r ⟨a, vs, rfl, ha, fun p hp => ?_⟩
        obtain ⟨n1, r1, x1⟩ := new_lst R rr hp
        exact k _ _ n1 r1 x1
      · split at q
        · rename_i l q1
          cases q
          obtain ⟨a, vs, rfl, ha, rr⟩ := asK_at R v1 q1
          refine call_listD hc pins s σ H _ us Q I r ⟨a, vs, rfl, ha, fun p hp => ?_⟩
          obtain ⟨n1, r1, x1⟩ := new_lst R rr.keysL hp
          exact k _ _ n1 r1 x1
        · cases q
  · cases q
theorem cr_tupleD (hK : G.K = X.K) : CallR X (.type "tuple") (rC G bTuple) := by
  intro pins s σ H xs us Q I r hq
  obtain ⟨S, h, ds, z, R, vx, q, k⟩ := hq
  unfold bTuple at q
  split at q
  · cases vx with
    | cons v1 t1 =>
      cases t1
      obtain ⟨l, q1, rfl⟩ := Option.map_eq_some_iff.mp q
      obtain ⟨a, vs, rfl, ha, rr⟩ := asQ_at R v1 q1
      refine call_tuple_of pins s σ H _ us Q I r ⟨a, vs, rfl, ?_⟩
      rcases ha with ha | ha
      · rw [hK] at ha
        refine .inl ⟨ha, fun p hp => ?_⟩
        obtain ⟨n1, r1, x1⟩ := new_tup R rr hp
        exact k _ _ n1 r1 x1
      · have hb := ha
        rw [hK] at hb
        exact .inr ⟨hb, k H _ .refl R (.tup ha rr)⟩
  · cases q
theorem cr_sortedD (hK : G.K = X.K) (hc : X.calm = true) : CallR X (.builtin "sorted") (rC G bSorted) := by
  intro pins s σ H xs us Q I r hq
  obtain ⟨S, h, ds, z, R, vx, q, k⟩ := hq
  unfold bSorted at q
  split at q
  · cases vx with
    | cons v1 t1 =>
      cases t1
      split at q
      · rename_i l q1
        split at q
        · rename_i ns q2
          cases q
          obtain ⟨a, vs, rfl, ha, rr⟩ := asL_at R v1 q1
          have e := intsD_at rr q2
          subst e
          rw [hK] at ha
          refine cr_sortedI pins s σ H _ us Q I r ⟨a, ns, rfl, ha, fun ns' p hperm hsort hp => ?_⟩
          have e : ns' = sortI ns := perm_sorted (hperm.trans (sortI_perm ns).symm) hsort (sortI_sorted ns)
          subst e
          obtain ⟨n1, r1, x1⟩ := new_lst R (VDs.ints (G := G) (S := S) (H := H) (sortI ns)) hp
          exact k _ _ n1 r1 x1
        · cases q
      · split at q
        · rename_i l q1
          split at q
          · rename_i ns q2
            split at q
            · rename_i q3
              cases q
              obtain ⟨a, vs, rfl, ha, rr⟩ := asK_at R v1 q1
              refine call_sortedDI hc pins s σ H _ us Q I r ⟨a, vs, ns, rfl, ha, keysI_at rr q2, q3, fun ns' p hperm hsort hp => ?_⟩
              have e : ns' = sortI ns := perm_sorted (hperm.trans (sortI_perm ns).symm) hsort (sortI_sorted ns)
              subst e
              obtain ⟨n1, r1, x1⟩ := new_lst R (VDs.ints (G := G) (S := S) (H := H) (sortI ns)) hp
              exact k _ _ n1 r1 x1
            · cases q
          · cases q
        · cases q
  · cases q
end
end Sb

/-! Sb5: methods of built-in types, isinstance, targets, statements, loops. -/
namespace Sb
open L2 PySem PySem.Spec PyProof.Rows
/-! ### methods of built-in types -/
abbrev MOp := Hh → D → List D → Option (D × Hh)
def rM (G : Cg) (op : MOp) : V → List V → Hp → VK → Prop := fun x vs H Q => ∃ S h d ds z h', Rel G S h H ∧ VD G S H d x ∧ VDs G S H ds vs ∧ op h d ds = some (z, h') ∧ ∀ H' v, Nx G S H S H' → Rel G S h' H' → VD G S H' z v → Q v H'
def dM (f : F D) (c : Hh → D → Bool) (r : F (List D)) (op : MOp) : F D := fun e h => (f e h).bind fun x h1 => if c h1 x = true then (r e h1).bind fun l h2 => match op h2 x l with
  | some (z, h3) => .ok z h3
  | none => .fail else .fail
def TyC (X : Cx) (G : Cg) (T : String) (c : Hh → D → Bool) : Prop := ∀ {S h H d v}, Rel G S h H → VD G S H d v → c h d = true → tyV X.K T v H
section
variable {X : Cx} {G : Cf} {W : WX} {o e : Expr} {es : List Expr} {f : F D} {r : F (List D)} {c : Hh → D → Bool} {op : MOp} {T id : String} {name : Str} {apos cpos : Pos}
theorem tE_M {σ : L2.St} {H : Hp} {Q : VK} (ty : TyC X G T c) (h : tE G W (dM f c r op) σ H Q) : tBM X.K T (rM G op) (tE G W f) (tA G W r) σ H Q := by
  obtain ⟨S, h, e, R, E, P⟩ := h
  refine ⟨S, h, e, R, E, P.bind fun x h1 S1 H1 v _ N1 R1 v1 P1 => ?_⟩
  by_cases q : c h1 x = true
  · rw [if_pos q] at P1
    refine ⟨ty R1 v1 q, S1, h1, e, R1, E.mono N1 R.bad, P1.bind fun l h2 S2 H2 vs _ N2 R2 v2 P2 => ?_⟩
    cases q2 : op h2 x l with
    | none => rw [q2] at P2; exact P2.elim
    | some z =>
      obtain ⟨z, h3⟩ := z
      rw [q2] at P2
      exact ⟨S2, h2, x, l, z, h3, R2, v1.mono N2 R1.bad, v2, q2, fun H' v n r x => P2 S2 H' v n r x⟩
  · rw [if_neg q] at P1; exact P1.elim
def noSuper : Expr → Bool
  | .Call _ _ _ _ => false
  | _ => true
/-- attributeBase looks at super() alone -/
def okBase : Expr → Bool
  | .Call (.Name x _) [] [] _ => !decide (x = "super")
  | _ => true
theorem base_of {o : Expr} (h : okBase o = true) (name : Str) (env : Env) (whole : Sem Value) : attributeBase o name env whole = whole := by
  unfold attributeBase
  split
  · rename_i id _ pos
    have h2 : (!decide (id = ("super" : Str))) = true := h
    have h3 : id ≠ "super" := by simpa using h2
    have h4 : (id != ("super" : Str)) = true := by simpa using h3
    rw [h4]
    rfl
  · rfl
theorem few_of {env : Env} {cpos : Pos} : ∀ {es : List Expr}, es.all noStar = true → (backTo cpos (starEach es env)).all (fun x => !x.1) = true
  | [], _ => rfl
  | e :: es, h => by
    have h2 : noStar e = true ∧ es.all noStar = true := Bool.and_eq_true_iff.mp h
    rw [star_of h2.1]
    show (true && (backTo cpos (starEach es env)).all (fun x => !x.1)) = true
    rw [few_of h2.2]; rfl
theorem e_bm (pa : PlainAttrs T) (slot : Slot T name id) (hty : typeOf (.builtin id) = pure (.type "method_descriptor")) (hm : MtR X id (rM G op)) (ty : TyC X G T c) (ho : PE X o (tE G W f)) (ha : PA X (e :: es) (tA G W r))
    (hb : okBase o = true) (hl : (apos.endLine == cpos.line) = true) (hs : (e :: es).all noStar = true) (hn : es.length < 20) : PE X (.Call (.Attribute o name apos) (e :: es) [] cpos) (tE G W (dM f c r op)) :=
  have h2 : noStar e = true ∧ es.all noStar = true := Bool.and_eq_true_iff.mp hs
  PE.imp (pe_bm pa slot hty hm ho ha (base_of hb _ _ _) (by
    rw [few_of hs]
    show (true && true && decide ((e :: es).length + 0 + 0 < 30)) = true
    rw [decide_eq_true (by simp only [List.length_cons]; omega)]
    rfl) hl (star_of h2.1 _ _) (stars_of h2.2)) fun _ _ _ h => tE_M ty h
/-- without arguments -/
theorem e_bm0 (pa : PlainAttrs T) (slot : Slot T name id) (hty : typeOf (.builtin id) = pure (.type "method_descriptor")) (hm : MtR X id (rM G op)) (ty : TyC X G T c) (ho : PE X o (tE G W f))
    (hb : okBase o = true) (hl : (apos.endLine == cpos.line) = true) : PE X (.Call (.Attribute o name apos) [] [] cpos) (tE G W (dM f c dNil op)) :=
  PE.imp (pe_bm0 pa slot hty hm ho (base_of hb _ _ _) hl) fun σ H Q hq => by
    have z := tE_M (X := X) ty hq
    obtain ⟨S, h, en, R, E, P⟩ := z
    refine ⟨S, h, en, R, E, P.imp fun v H' ⟨t, S', h', e', R', E', P'⟩ => ⟨t, P'.here R' .nil⟩⟩
end
def cLst (h : Hh) (d : D) : Bool := (asL h d).isSome
def cStr (_ : Hh) (d : D) : Bool := match d with
  | .str _ => true
  | _ => false
theorem ty_lst {X : Cx} {G : Cg} (hK : G.K = X.K) : TyC X G "list" cLst := fun {S h H d v} R x e => by
  obtain ⟨l, e⟩ := Option.isSome_iff_exists.mp e
  obtain ⟨a, vs, rfl, ha, _⟩ := asL_at R x e
  rw [hK] at ha
  exact .inl ⟨rfl, _, ha⟩
theorem ty_str {X : Cx} {G : Cg} : TyC X G "str" cStr := fun {S h H d v} R x e => by
  cases d <;> first | (cases x; rfl) | cases e
def mAppend : MOp := fun h x ds => match x, ds with
  | .ref i, [y] => match h[i]? with
    | some (.lst l) => if l.length < 16777216 then some (.non, h.set i (.lst (l ++ [y]))) else none
    | _ => none
  | _, _ => none
def mCount : MOp := fun h x ds => match ds with
  | [.int k] => match (asL h x).bind intsD with
    | some ns => some (.int (ns.count k : Nat), h)
    | none => none
  | _ => none
section
variable {X : Cx} {G : Cg}
theorem lst_ref {S : Rho} {h : Hh} {H : Hp} {i : Nat} {v : V} {l : List D} (R : Rel G S h H) (x : VD G S H (.ref i) v) (e : h[i]? = some (.lst l)) : ∃ vs, i < S.n ∧ v = .ref (S.r i) ∧ H (S.r i) = some (.lst vs) ∧ VDs G S H l vs := by
  cases x with
  | ref hi =>
    cases R.obj i _ e with
    | lst q r => exact ⟨_, hi, rfl, q, r⟩
/-- a list of the small heap is written -/
theorem put_lst {S : Rho} {h : Hh} {H : Hp} {i : Nat} {l l' : List D} {vs vs' : List V} (R : Rel G S h H) (hi : i < S.n) (e : H (S.r i) = some (.lst vs)) (r : ∀ {S H}, VDs G S H l vs → VDs G S H l' vs') (rl : VDs G S H l vs)  :
    Nx G S H S (upd H (S.r i) (.lst vs')) ∧ Rel G S (h.set i (.lst l')) (upd H (S.r i) (.lst vs')) := by
  have N : Nx G S H S (upd H (S.r i) (.lst vs')) := Nx.write R hi e (fun _ z => by cases z) (fun _ _ z => by cases z)
  exact ⟨N, R.write hi e (fun _ z => by cases z) (fun _ _ z => by cases z) (.lst upd_same (r (rl.mono N R.bad)))⟩
theorem mt_appendD : MtR X "list.append" (rM G mAppend) := by
  intro pins s σ H x xs v us Q I rx rxs hq
  obtain ⟨S, h, d, ds, z, h', R, vx, vs, q, k⟩ := hq
  unfold mAppend at q
  split at q
  · split at q
    · rename_i l e
      split at q
      · rename_i c
        cases q
        obtain ⟨ws, hi, rfl, hl, rl⟩ := lst_ref R vx e
        cases vs with
        | @cons _ v1 _ _ vy t =>
          cases t
          have N : Nx G S H S (upd H (S.r _) (.lst (ws ++ [v1]))) := Nx.write R hi hl (fun _ z => by cases z) (fun _ _ z => by cases z)
          have R2 := R.write hi hl (fun _ z => by cases z) (fun _ _ z => by cases z) (.lst upd_same ((rl.mono N R.bad).append (.cons (vy.mono N R.bad) .nil)))
          have hl2 : ws.length < sizeLine := by rw [sizeLine_eq, ← rl.length]; exact c
          exact mt_append pins s σ H _ _ v us Q I rx rxs ⟨_, ws, _, rfl, rfl, hl, hl2, k _ _ N R2 .non⟩
      · cases q
    · cases q
  · cases q
theorem mt_countD (hK : G.K = X.K) : MtR X "list.count" (rM G mCount) := by
  intro pins s σ H x xs v us Q I rx rxs hq
  obtain ⟨S, h, d, ds, z, h', R, vx, vs, q, k⟩ := hq
  unfold mCount at q
  split at q
  · split at q
    · rename_i ns e
      cases q
      obtain ⟨l, q1, q2⟩ := Option.bind_eq_some_iff.mp e
      obtain ⟨a, ws, rfl, ha, rl⟩ := asL_at R vx q1
      have e2 := intsD_at rl q2
      subst e2
      rw [hK] at ha
      cases vs with
      | cons vy t =>
        cases t
        cases vy
        exact mt_lcount pins s σ H _ _ v us Q I rx rxs ⟨a, ns, _, rfl, rfl, ha, k H _ .refl R (.int _)⟩
    · cases q
  · cases q
end
/-! ### isinstance of a built-in type -/
inductive BT where
  | non | bl | int | str | tup | lst | dct
  deriving DecidableEq
def BT.name : BT → String
  | .non => "NoneType"
  | .bl => "bool"
  | .int => "int"
  | .str => "str"
  | .tup => "tuple"
  | .lst => "list"
  | .dct => "dict"
def isBT (t T : BT) : Bool := decide (t = T) || (decide (t = .bl) && decide (T = .int))
def tyB (h : Hh) : D → Option BT
  | .non => some .non
  | .bl _ => some .bl
  | .int _ => some .int
  | .str _ => some .str
  | .tup _ => some .tup
  | .lst _ => some .lst
  | .scr _ => some .lst
  | .dct _ => some .dct
  | .ref i => match h[i]? with
    | some (.lst _) => some .lst
    | some (.lck (.lst _)) => some .lst
    | some (.dct _) => some .dct
    | some (.lck (.dct _)) => some .dct
    | _ => none
  | _ => none
def isiD (T : BT) (h : Hh) (d : D) : Option D := (tyB h d).map fun t => .bl (isBT t T)
theorem kit_bt {K : PySem.W.Frag} (t T : BT) : PySem.W.kitOne K (.type t.name) (.type T.name) = some (isBT t T) := kit_ty (by cases t <;> cases T <;> decide +kernel)
theorem tyB_at {X : Cx} {G : Cg} (hK : G.K = X.K) {S : Rho} {h : Hh} {H : Hp} {d : D} {v : V} {t : BT} (R : Rel G S h H) (x : VD G S H d v) (e : tyB h d = some t) : TyX X.K H v (.type t.name) := by
  cases x with
  | non => cases e; exact .base .non
  | bl b => cases e; exact .base (.bl b)
  | int b => cases e; exact .base (.int b)
  | str b => cases e; exact .base (.str b)
  | tup a r =>
    cases e
    rw [hK] at a
    rcases a with (a | ⟨o, a⟩) | ⟨o, its, n, a, c, _⟩
    · exact .base (.tup a)
    · exact .fTuple a
    · exact .kTuple a c
  | scr a =>
    cases e
    rw [hK] at a
    rcases a with ⟨o, a⟩ | ⟨o, its, n, a, c, _⟩
    · exact .base (.frz a)
    · exact .kList a c
  | lst a b c => cases e; exact .base (.lst a)
  | dct a b c =>
    cases e
    rcases a with a | ⟨o, a⟩
    · exact .base (.dK a)
    · exact .fDict a
  | ins a b c => cases e
  | @ref i hi =>
    have e2 : (match h[i]? with
      | some (.lst _) => some BT.lst
      | some (.lck (.lst _)) => some BT.lst
      | some (.dct _) => some BT.dct
      | some (.lck (.dct _)) => some BT.dct
      | _ => none) = some t := e
    clear e
    split at e2
    · rename_i l q
      cases e2
      cases R.obj i _ q with
      | lst q r => exact .base (.lst q)
    · rename_i l q
      cases e2
      cases R.obj i _ q with
      | lckL q r => exact .base (.lst q)
    · rename_i l q
      cases e2
      cases R.obj i _ q with
      | dct q r => exact .base (.dK q)
    · rename_i l q
      cases e2
      cases R.obj i _ q with
      | lckD q r => exact .fDict q
    · cases e2
theorem e_isi {X : Cx} {G : Cf} {W : WX} {a : Expr} {f : F D} {p p2 pos : Pos} {x : Str} (T : BT) (hK : G.K = X.K) (hg : Gl X "isinstance") (hm : X.mg "isinstance" = none) (hg2 : Gl X x) (hm2 : X.mg x = none) (hx : bootBuiltins x = some (.type T.name)) (hnx : x ≠ "__name__") (hdx : (x == ("__debug__" : Str)) = false)
    (ha : PE X a (tE G W f)) (hs : noStar a = true) : PE X (.Call (.Name "isinstance" p) [a, .Name x p2] [] pos) (tE G W (dU f (isiD T))) :=
  PE.imp (pe_callB (id := "isinstance") call_isi hg hm (by decide +kernel) (pa_cons ha (pa_cons (pe_bltn hg2 hm2 hx (v := .ty T.name) rfl hnx hdx) pa_nil (star_of rfl _ _)) (star_of hs _ _)) (by decide) (by decide) (star_of hs _ _) (stars_of rfl)) fun σ H Q hq => by
    obtain ⟨S, h, e, R, E, P⟩ := hq
    refine ⟨S, h, e, R, E, P.bind fun d h1 S1 H1 v _ N1 R1 v1 P1 => ?_⟩
    cases q : tyB h1 d with
    | none =>
      unfold isiD at P1
      rw [q] at P1; exact P1.elim
    | some t =>
      unfold isiD at P1
      rw [q] at P1
      exact ⟨v, .ty T.name, .type t.name, .type T.name, isBT t T, rfl, .ty _, tyB_at hK R1 v1 q, kit_bt t T, P1.here R1 (.bl _)⟩

/-! ### targets -/
inductive Tg where
  | nm (i : Nat) | tp (l : List Tg)
mutual
def bindT : Tg → D → En → Option En
  | .nm i, d, e => some (e.set i (some d))
  | .tp l, d, e => match d with
    | .tup ds => bindTs l ds e
    | _ => none
def bindTs : List Tg → List D → En → Option En
  | [], [], e => some e
  | t :: l, d :: ds, e => match bindT t d e with
    | some e' => bindTs l ds e'
    | none => none
  | _, _, _ => none
end
mutual
def slotsT : Tg → List Nat
  | .nm i => [i]
  | .tp l => slotsTs l
def slotsTs : List Tg → List Nat
  | [] => []
  | t :: l => slotsT t ++ slotsTs l
end
/-- unlike at these slots alone -/
def Agr (vs : List Nat) (σ σ' : L2.St) : Prop := σ'.length = σ.length ∧ ∀ j, j ∉ vs → σ'[j]? = σ[j]?
def gT (G : Cf) (t : Tg) : TG := fun v σ H Q => ∃ S h e d e', Rel G S h H ∧ EnR G S H e σ ∧ VD G S H d v ∧ bindT t d e = some e' ∧ ∀ σ', EnR G S H e' σ' → Agr (slotsT t) σ σ' → Q σ' H
def gTs (G : Cf) (t : List Tg) : TGs := fun vs σ H Q => ∃ S h e ds e', Rel G S h H ∧ EnR G S H e σ ∧ VDs G S H ds vs ∧ bindTs t ds e = some e' ∧ ∀ σ', EnR G S H e' σ' → Agr (slotsTs t) σ σ' → Q σ' H
theorem EnR.set {G : Cf} {S : Rho} {H : Hp} {e : En} {σ : L2.St} {i : Nat} {d : D} {v : V} (E : EnR G S H e σ) (x : VD G S H d v) (hb : ∀ c a, G.cur ≠ some (i, c, a)) : EnR G S H (e.set i (some d)) (σ.set i (some v)) where
  len := by rw [List.length_set, List.length_set]; exact E.len
  at_ := fun j d' q => by
    by_cases hj : i = j
    · subst hj
      by_cases hl : i < e.length
      · rw [List.getElem?_set_self hl] at q
        cases q
        exact ⟨v, List.getElem?_set_self (by rw [← E.len]; exact hl), x⟩
      · rw [List.getElem?_eq_none (by simpa using hl)] at q; cases q
    · rw [List.getElem?_set_ne hj] at q
      rw [List.getElem?_set_ne hj]
      exact E.at_ j d' q
  cur := fun j c a q => by
    by_cases hj : i = j
    · subst hj; exact absurd q (hb c a)
    · rw [List.getElem?_set_ne hj, List.getElem?_set_ne hj]
      exact E.cur j c a q
section
variable {X : Cx} {G : Cf} {pos : Pos}
theorem PG.imp {e : Expr} {t t' : TG} (p : PG X e t) (h : ∀ v σ H Q, t' v σ H Q → t v σ H Q) : PG X e t' := ⟨fun pins s σ H v u Q I r q => p.run pins s σ H v u Q I r (h _ _ _ _ q)⟩
theorem PGs.imp {e : List Expr} {t t' : TGs} (p : PGs X e t) (h : ∀ v σ H Q, t' v σ H Q → t v σ H Q) : PGs X e t' := ⟨fun pins s σ H v u Q I r q => p.run pins s σ H v u Q I r (h _ _ _ _ q)⟩
theorem g_nm {i : Nat} {x : Str} (hN : X.N.Nodup) (hi : X.N[i]? = some x) (hx : Loc X.env.scope x) (hf : X.fn x = true ∨ X.env.scope.names.lookup x = some .local) (hb : ∀ c a, G.cur ≠ some (i, c, a)) : PG X (.Name x pos) (gT G (.nm i)) :=
  PG.imp (pg_name hN hi hx hf) fun v σ H Q ⟨S, h, e, d, e', R, E, x, q, k⟩ => by
    unfold bindT at q
    cases q
    refine k _ (E.set x hb) ⟨List.length_set, fun j hj => ?_⟩
    unfold slotsT at hj
    exact List.getElem?_set_ne (fun z => hj (by simp [z]))
def noStarT : Expr → Bool
  | .Starred _ _ => false
  | _ => true
theorem each_of {e : Expr} (h : noStar e = true) (es : List Expr) (env : Env) : assignEach (e :: es) env = (false, assign e env) :: assignEach es env := by
  cases e <;> first | rfl | cases h
theorem gs_nil : PGs X [] (gTs G []) := PGs.imp pgs_nil fun vs σ H Q ⟨S, h, e, ds, e', R, E, x, q, k⟩ => by
  cases x with
  | nil =>
    unfold bindTs at q
    cases q
    exact ⟨rfl, k _ E ⟨rfl, fun _ _ => rfl⟩⟩
  | cons _ _ => unfold bindTs at q; cases q
theorem gs_cons {a : Expr} {es : List Expr} {t : Tg} {l : List Tg} (ha : PG X a (gT G t)) (hs : PGs X es (gTs G l)) (hn : noStar a = true) : PGs X (a :: es) (gTs G (t :: l)) :=
  PGs.imp (pgs_cons ha hs (by rw [each_of hn]; rfl)) fun vs σ H Q ⟨S, h, e, ds, e', R, E, x, q, k⟩ => by
    cases x with
    | nil => unfold bindTs at q; cases q
    | cons v1 r =>
      unfold bindTs at q
      split at q
      · rename_i e1 q1
        exact ⟨_, _, rfl, S, h, e, _, e1, R, E, v1, q1, fun σ' E' A1 => ⟨S, h, e1, _, e', R, E', r, q, fun σ2 E2 A2 => k σ2 E2 ⟨A2.1.trans A1.1, fun j hj => by
          unfold slotsTs at hj
          rw [List.mem_append, not_or] at hj
          exact (A2.2 j hj.2).trans (A1.2 j hj.1)⟩⟩⟩
      · cases q
theorem each_len {env : Env} : ∀ {es : List Expr}, es.all noStar = true → (assignEach es env).length = es.length ∧ (assignEach es env).findIdx? (·.1) = none
  | [], _ => ⟨rfl, rfl⟩
  | e :: es, h => by
    have h2 : noStar e = true ∧ es.all noStar = true := Bool.and_eq_true_iff.mp h
    obtain ⟨a, b⟩ := each_len (env := env) h2.2
    rw [each_of h2.1]
    refine ⟨congrArg Nat.succ a, ?_⟩
    rw [List.findIdx?_cons]
    simp [b]
theorem bindTs_len : ∀ {l : List Tg} {ds : List D} {e e' : En}, bindTs l ds e = some e' → ds.length = l.length
  | [], [], _, _, _ => rfl
  | [], _ :: _, _, _, h => by unfold bindTs at h; cases h
  | _ :: _, [], _, _, h => by unfold bindTs at h; cases h
  | t :: l, d :: ds, e, e', h => by
    unfold bindTs at h
    split at h
    · exact congrArg Nat.succ (bindTs_len h)
    · cases h
theorem g_tp {es : List Expr} {k : Nat} {l : List Tg} (hK : G.K = X.K) (hc : X.calm = true) (hs : PGs X es (gTs G l)) (hn : es.all noStar = true) (hl : es.length = l.length) : PG X (.Tuple es k pos) (gT G (.tp l)) :=
  PG.imp (pg_tup hc hs (each_len hn).1 (each_len hn).2) fun v σ H Q ⟨S, h, e, d, e', R, E, x, q, k⟩ => by
    unfold bindT at q
    split at q
    · cases x with
      | tup a r =>
        rw [hK] at a
        refine ⟨_, _, rfl, a, ?_, S, h, e, _, e', R, E, r, q, fun σ' E' A => k σ' E' (by unfold slotsT; exact A)⟩
        rw [← r.length, bindTs_len q, hl]
    · cases q
end

/-! ### statements -/
abbrev FS := En → Hh → RS
def R.st {α : Type} (r : R α) (e : En) (k : α → Hh → RS) : RS := match r with
  | .ok a h => k a h
  | .exc c fs h => .exc c fs e h
  | .fail => .fail
theorem PstS.st {G : Cf} {W : WX} {S : Rho} {h : Hh} {H : Hp} {e : En} {σ : L2.St} {α β : Type} {rel : Rho → Hp → α → β → Prop} {r : R α} {k : α → Hh → RS} {Z : Ends} {Q' : β → Hp → Prop} (R0 : Rel G S h H) (E : EnR G S H e σ)
    (P : PstS G W S H (r.st e k) Z) (step : ∀ a h1 S1 H1 v, r = .ok a h1 → Nx G S H S1 H1 → Rel G S1 h1 H1 → rel S1 H1 a v → PstS G W S1 H1 (k a h1) Z → Q' v H1) : Pst G (fun c d H => W c d σ H) S H rel r Q' := by
  cases r with
  | ok a h1 => exact fun S1 H1 v N R x => step a h1 S1 H1 v rfl N R x (PstS.mono (r := k a h1) P N)
  | exc c fs h' => exact fun S' H' d N R x => P S' H' σ d N R (E.mono N R0.bad) x
  | fail => exact P
theorem PstS.next {G : Cf} {W : WX} {S : Rho} {h : Hh} {H : Hp} {e : En} {σ : L2.St} {Z : Ends} (P : PstS G W S H (.nx e h) Z) (R : Rel G S h H) (E : EnR G S H e σ) : Z.nx σ H := P S H σ .refl R E
def sNx : FS := fun e h => .nx e h
def sSeq (a b : FS) : FS := fun e h => match a e h with
  | .nx e1 h1 => b e1 h1
  | r => r
def sAsg (f : F D) (t : Tg) : FS := fun e h => (f e h).st e fun d h1 => match bindT t d e with
  | some e' => .nx e' h1
  | none => .fail
def sDrop (f : F D) : FS := fun e h => (f e h).st e fun _ h1 => .nx e h1
def sRet (f : F D) : FS := fun e h => (f e h).st e fun d h1 => .rt d h1
def sRetN : FS := fun _ h => .rt .non h
def sBrk : FS := fun e h => .bk e h
def sCnt : FS := fun e h => .ct e h
def sIf (t : F Bool) (a b : FS) : FS := fun e h => (t e h).st e fun c h1 => if c = true then a e h1 else b e h1
def sNever : FS := fun _ _ => .fail
section
variable {X : Cx} {G : Cf} {W : WX} {st : Stmt} {rest a b : List Stmt} {ts us : FS} {e c : Expr} {f : F D} {t : F Bool} {pos : Pos} {r : FS}
theorem b_nil : PSs X [] (tS G W sNx) := PSs.imp pss_nil fun Z σ H ⟨S, h, e, R, E, P⟩ => P.next R E
theorem b_cons (h1 : PS X st (tS G W ts)) (h2 : PSs X rest (tS G W us)) : PSs X (st :: rest) (tS G W (sSeq ts us)) :=
  PSs.imp (pss_cons h1 h2) fun Z σ H ⟨S, h, e, R, E, P⟩ => by
    refine ⟨S, h, e, R, E, ?_⟩
    unfold sSeq at P
    cases q : ts e h with
    | nx e1 h1 =>
      rw [q] at P
      exact fun S' H' σ' N R' E' => ⟨S', h1, e1, R', E', PstS.mono (r := us e1 h1) P N⟩
    | rt d h1 => rw [q] at P; exact P
    | bk d h1 => rw [q] at P; exact P
    | ct d h1 => rw [q] at P; exact P
    | exc _ _ _ _ => rw [q] at P; exact P
    | fail => rw [q] at P; exact P
theorem s_pass : PS X (.Pass pos) (tS G W sNx) := PS.imp ps_pass fun Z σ H ⟨S, h, e, R, E, P⟩ => P.next R E
theorem s_brk : PS X (.Break pos) (tS G W sBrk) := PS.imp ps_break fun Z σ H ⟨S, h, e, R, E, P⟩ => P S H σ .refl R E
theorem s_cnt : PS X (.Continue pos) (tS G W sCnt) := PS.imp ps_continue fun Z σ H ⟨S, h, e, R, E, P⟩ => P S H σ .refl R E
theorem s_never : PS X st (tS G W sNever) := PS.imp ps_never fun Z σ H ⟨S, h, e, R, E, P⟩ => P
theorem b_never : PSs X rest (tS G W sNever) := PSs.imp pss_never fun Z σ H ⟨S, h, e, R, E, P⟩ => P
theorem e_never : PE X e (tE G W fun _ _ => .fail) := ⟨fun pins s σ H Q I ⟨S, h, e, R, E, P⟩ => P.elim⟩
/-- not a comprehension -/
def noComp : Expr → Bool
  | .ListComp _ _ _ _ => false
  | .SetComp _ _ _ _ => false
  | .DictComp _ _ _ _ _ => false
  | _ => true
theorem swaps_of {v : Expr} (h : noComp v = true) (t : Option Expr) (l : Nat) (env : Env) : swapsWith v t l env = pure false := by
  cases v <;> first | rfl | cases h
def noTup : Expr → Bool
  | .Tuple _ _ _ => false
  | .List _ _ => false
  | _ => true
theorem stores_of {tg v : Expr} (h : (noTup tg || noTup v) = true) (env : Env) : swappedStores [tg] v env = pure none := by
  cases tg <;> first | rfl | (cases v <;> first | rfl | cases h)
theorem s_asg {tg : Expr} {g : Tg} (he : PE X e (tE G W f)) (hg : PG X tg (gT G g)) (hc : noComp e = true) (ht : (noTup tg || noTup e) = true) (hs : noStar tg = true) : PS X (.Assign [tg] e pos) (tS G W (sAsg f g)) :=
  PS.imp (ps_asg he hg (by unfold swapsWithSole; exact swaps_of hc _ _ _) (stores_of ht _) (by rw [each_of hs]; rfl)) fun Z σ H ⟨S, h, e, R, E, P⟩ =>
    ⟨S, h, e, R, E, P.st R E fun d h1 S1 H1 v _ N1 R1 v1 P1 => by
      cases q : bindT g d e with
      | none => rw [q] at P1; exact P1.elim
      | some e' =>
        rw [q] at P1
        exact ⟨S1, h1, e, d, e', R1, E.mono N1 R.bad, v1, q, fun σ' E' _ => P1.next R1 E'⟩⟩
theorem s_drop (he : PE X e (tE G W f)) (hc : noComp e = true) : PS X (.Expr e pos) (tS G W (sDrop f)) :=
  PS.imp (ps_expr he (swaps_of hc _ _ _)) fun Z σ H ⟨S, h, e, R, E, P⟩ => ⟨S, h, e, R, E, P.st R E fun d h1 S1 H1 v _ N1 R1 v1 P1 => P1.next R1 (E.mono N1 R.bad)⟩
theorem s_ret (he : PE X e (tE G W f)) : PS X (.Return (some e) pos) (tS G W (sRet f)) :=
  PS.imp (ps_ret he) fun Z σ H ⟨S, h, e, R, E, P⟩ => ⟨S, h, e, R, E, P.st R E fun d h1 S1 H1 v _ N1 R1 v1 P1 => P1 S1 H1 v .refl R1 v1⟩
theorem s_retN : PS X (.Return none pos) (tS G W sRetN) := PS.imp ps_retN fun Z σ H ⟨S, h, e, R, E, P⟩ => P S H .non .refl R .non
theorem s_if (hc : PT X c (tT G W t)) (ha : PSs X a (tS G W ts)) (hb : PSs X b (tS G W us)) : PS X (.If c a b pos) (tS G W (sIf t ts us)) :=
  PS.imp (ps_if hc ha hb) fun Z σ H ⟨S, h, e, R, E, P⟩ => ⟨S, h, e, R, E, P.st R E fun d h1 S1 H1 v _ N1 R1 v1 P1 => by
    subst v1
    cases d with
    | true => exact ⟨S1, h1, e, R1, E.mono N1 R.bad, P1⟩
    | false => exact ⟨S1, h1, e, R1, E.mono N1 R.bad, P1⟩⟩
/-! ### while -/
def whl (t : F Bool) (b : FS) : Nat → FS
  | 0, _, _ => .fail
  | n + 1, e, h => (t e h).st e fun c h1 => if c = true then (match b e h1 with
    | .nx e1 h2 => whl t b n e1 h2
    | .ct e1 h2 => whl t b n e1 h2
    | .bk e1 h2 => .nx e1 h2
    | r => r) else .nx e h1
theorem s_while {n : Nat} (hp : PassesOwn (model X.prog X.w) X.A X.env X.xe) (hc : PT X c (tT G W t)) (hb : PSs X a (tS G W ts)) : PS X (.While c a [] pos) (tS G W (whl t ts n)) :=
  PS.imp (ps_while hp hc hb) fun Z σ H h0 => by
    refine ⟨fun m σ H => tS G W (whl t ts m) Z σ H, ⟨n, h0⟩, ?_⟩
    rintro m σ H ⟨S, h, e, R, E, P⟩
    cases m with
    | zero => exact P.elim
    | succ m =>
      refine ⟨S, h, e, R, E, P.st R E fun d h1 S1 H1 v _ N1 R1 v1 P1 => ?_⟩
      subst v1
      have E1 := E.mono N1 R.bad
      cases d with
      | false => exact P1.next R1 E1
      | true =>
        refine ⟨fun σ' H' => tS G W (whl t ts m) Z σ' H', fun σ' H' w => ⟨m, Nat.lt_succ_self m, w⟩, S1, h1, e, R1, E1, ?_⟩
        have P2 : PstS G W S1 H1 (match ts e h1 with | .nx e1 h2 => whl t ts m e1 h2 | .ct e1 h2 => whl t ts m e1 h2 | .bk e1 h2 => .nx e1 h2 | r => r) Z := P1
        cases q : ts e h1 with
        | nx e1 h2 => rw [q] at P2; exact fun S' H' σ' N R' E' => ⟨S', h2, e1, R', E', PstS.mono (r := whl t ts m e1 h2) P2 N⟩
        | ct e1 h2 => rw [q] at P2; exact fun S' H' σ' N R' E' => ⟨S', h2, e1, R', E', PstS.mono (r := whl t ts m e1 h2) P2 N⟩
        | bk e1 h2 => rw [q] at P2; exact P2
        | rt d h1 => rw [q] at P2; exact P2
        | exc _ _ _ _ => rw [q] at P2; exact P2
        | fail => rw [q] at P2; exact P2
end
end Sb

/-! Sb6: what is walked; for; list comprehensions. -/
namespace Sb
open L2 PySem PySem.Spec PyProof.Rows
/-- what is walked: some (some d): the item of that turn; some none: the end; none: nothing is said -/
structure Src where
  n : Nat
  at_ : Hh → Nat → Option (Option D)
def Walks (G : Cg) (J : It) (a : Hh → Nat → Option (Option D)) (S0 : Rho) (H0 : Hp) : Prop := ∀ S h H i, Nx G S0 H0 S H → Rel G S h H →
  (a h i = some none → J.stop i H) ∧ ∀ d, a h i = some (some d) → J.go i H ∧ ∀ x H', J.yld i H x H' → Nx G S H S H' ∧ Rel G S h H' ∧ VD G S H' d x
abbrev relI (G : Cg) : Rho → Hp → Src → It → Prop := fun S H a J => Walks G J a.at_ S H
abbrev tI (G : Cf) (W : WX) (f : F Src) : TI := tX G W (relI G) f
theorem PI.imp {X : Cx} {tg iter : Expr} {t t' : TI} (p : PI X tg iter t) (h : ∀ σ H R, t' σ H R → t σ H R) : PI X tg iter t' := ⟨fun pins s σ H R I q => p.run pins s σ H R I (h σ H R q)⟩
theorem PI.or {X : Cx} {tg iter : Expr} {t t' : TI} (p : PI X tg iter t) (q : PI X tg iter t') : PI X tg iter (fun σ H R => t σ H R ∨ t' σ H R) :=
  ⟨fun pins s σ H R I h => h.elim (p.run pins s σ H R I) (q.run pins s σ H R I)⟩
/-! ### sources -/
def seqAt (d : D) : Hh → Nat → Option (Option D) := fun h i => match asQ h d with
  | some l => some l[i]?
  | none => none
def lenQ (h : Hh) (d : D) : Nat := match asQ h d with
  | some l => l.length
  | none => 0
def iSeq (f : F D) : F Src := fun e h => (f e h).bind fun d h1 => if (asQ h1 d).isSome = true then .ok ⟨lenQ h1 d, seqAt d⟩ h1 else .fail
def rngAt (lo : Int) (n : Nat) : Hh → Nat → Option (Option D) := fun _ i => some (if i < n then some (.int (lo + i)) else none)
def iRange1 (f : F D) : F Src := fun e h => (f e h).bind fun d h1 => match d with
  | .int j => if -(2 ^ 62) ≤ j ∧ j < 2 ^ 62 then .ok ⟨j.toNat, rngAt 0 j.toNat⟩ h1 else .fail
  | _ => .fail
def iRange2 (f g : F D) : F Src := fun e h => (f e h).bind fun d h1 => (g e h1).bind fun d' h2 => match d, d' with
  | .int i, .int j => if -(2 ^ 62) ≤ i ∧ i < 2 ^ 62 ∧ -(2 ^ 62) ≤ j ∧ j < 2 ^ 62 then .ok ⟨(j - i).toNat, rngAt i (j - i).toNat⟩ h2 else .fail
  | _, _ => .fail
theorem walks_rng {G : Cg} {S : Rho} {H : Hp} (lo : Int) (n : Nat) : Walks G (Itr lo n) (rngAt lo n) S H := fun S' h H' i N R => by
  by_cases q : i < n
  · have e0 : rngAt lo n h i = some (some (.int (lo + i))) := by unfold rngAt; rw [if_pos q]
    rw [e0]
    refine ⟨fun z => (by cases z), fun d e => ?_⟩
    cases e
    refine ⟨q, fun x H2 y => ?_⟩
    obtain ⟨rfl, rfl⟩ := y
    exact ⟨.refl, R, .int _⟩
  · have e0 : rngAt lo n h i = some none := by unfold rngAt; rw [if_neg q]
    rw [e0]
    exact ⟨fun _ => Nat.not_lt.mp q, fun d e => by cases e⟩
theorem VDs.get2 {G : Cg} {S : Rho} {H : Hp} {l : List D} {vs : List V} {i : Nat} (r : VDs G S H l vs) : (l[i]? = none ∧ vs.length ≤ i) ∨ ∃ d v, l[i]? = some d ∧ vs[i]? = some v ∧ VD G S H d v := by
  cases q : l[i]? with
  | none => exact .inl ⟨rfl, by rw [← r.length]; exact List.getElem?_eq_none_iff.mp q⟩
  | some d =>
    obtain ⟨v, a, b⟩ := r.get q
    exact .inr ⟨d, v, rfl, a, b⟩
theorem sqL_inj_at {K : PySem.W.Frag} {H : Hp} {a : Addr} {xs : List V} {i : Nat} {x : V} (h : xs[i]? = some x) (y : V) (q : ∀ ys, SqL K H a ys → ys[i]? = some y) (hs : SqL K H a xs) : y = x := by
  have e := q xs hs
  rw [h] at e
  exact (Option.some.inj e).symm
theorem sqT_inj_at {K : PySem.W.Frag} {H : Hp} {a : Addr} {xs : List V} {i : Nat} {x : V} (h : xs[i]? = some x) (y : V) (q : ∀ ys, SqT K H a ys → ys[i]? = some y) (hs : SqT K H a xs) : y = x := by
  have e := q xs hs
  rw [h] at e
  exact (Option.some.inj e).symm
theorem asL_ref_eq {G : Cg} {S : Rho} {h : Hh} {H : Hp} {d : D} {a : Addr} {l : List D} (R : Rel G S h H) (x : VD G S H d (.ref a)) (e : asL h d = some l) : ∃ vs, SqL G.K H a vs ∧ VDs G S H l vs := by
  obtain ⟨b, vs, e1, e2, e3⟩ := asL_at R x e
  cases e1
  exact ⟨vs, e2, e3⟩
theorem walks_lst {G : Cg} {S : Rho} {H : Hp} {d : D} {a : Addr} (bad : ∀ i, i < S.n → S.B (S.r i)) (x : VD G S H d (.ref a)) (hd : ∀ l, d ≠ .tup l) : Walks G (Itl G.K a) (seqAt d) S H := fun S' h H' i N R => by
  have x' := x.mono N bad
  unfold seqAt
  have e : asQ h d = asL h d := by cases d <;> first | rfl | exact absurd rfl (hd _)
  rw [e]
  cases q : asL h d with
  | none => exact ⟨fun z => (by cases z), fun d e => (by cases e)⟩
  | some l =>
    obtain ⟨vs, hs, r⟩ := asL_ref_eq R x' q
    rcases r.get2 (i := i) with ⟨q1, q2⟩ | ⟨d1, v1, q1, q2, r1⟩
    · simp only [q1]
      exact ⟨fun _ => ⟨vs, hs, q2⟩, fun d e => by cases e⟩
    · simp only [q1]
      refine ⟨fun z => (by cases z), fun d e => ?_⟩
      cases e
      refine ⟨⟨vs, v1, hs, q2⟩, fun y H2 z => ?_⟩
      obtain ⟨rfl, z⟩ := z
      rw [sqL_inj_at q2 y z hs]
      exact ⟨.refl, R, r1⟩
theorem walks_tup {G : Cg} {S : Rho} {H : Hp} {l : List D} {a : Addr} (bad : ∀ i, i < S.n → S.B (S.r i)) (x : VD G S H (.tup l) (.ref a)) : Walks G (Itt G.K a) (seqAt (.tup l)) S H := fun S' h H' i N R => by
  have x' := x.mono N bad
  unfold seqAt
  cases x' with
  | tup hs r =>
    rcases r.get2 (i := i) with ⟨q1, q2⟩ | ⟨d1, v1, q1, q2, r1⟩
    · show (some l[i]? = some none → _) ∧ ∀ d, some l[i]? = some (some d) → _
      rw [q1]
      exact ⟨fun _ => ⟨_, hs, q2⟩, fun d e => by cases e⟩
    · show (some l[i]? = some none → _) ∧ ∀ d, some l[i]? = some (some d) → _
      rw [q1]
      refine ⟨fun z => (by cases z), fun d e => ?_⟩
      cases e
      refine ⟨⟨_, v1, hs, q2⟩, fun y H2 z => ?_⟩
      obtain ⟨rfl, z⟩ := z
      rw [sqT_inj_at q2 y z hs]
      exact ⟨.refl, R, r1⟩
section
variable {X : Cx} {G : Cf} {W : WX} {tg a b : Expr} {f g : F D} {p pos : Pos}
theorem i_seq (hK : G.K = X.K) (ha : PE X a (tE G W f)) : PI X tg a (tI G W (iSeq f)) := Sb.PI.imp (Sb.PI.or (pi_list ha) (pi_tup ha)) fun σ H R0 ⟨S, h, e, R, E, P⟩ => by
  have key : ∀ d h1 S1 H1 v, Rel G S1 h1 H1 → VD G S1 H1 d v → Pst G (fun c d H => W c d σ H) S1 H1 (relI G) (if (asQ h1 d).isSome = true then Sb.R.ok ⟨lenQ h1 d, seqAt d⟩ h1 else Sb.R.fail) R0 →
      (∃ l, d = .tup l ∧ ∃ a, v = .ref a ∧ (∃ xs, SqT X.K H1 a xs) ∧ R0 (Itt X.K a) H1) ∨ ((∀ l, d ≠ .tup l) ∧ ∃ a, v = .ref a ∧ (∃ xs, SqL X.K H1 a xs) ∧ R0 (Itl X.K a) H1) := by
    intro d h1 S1 H1 v R1 v1 P1
    by_cases c : (asQ h1 d).isSome = true
    · rw [if_pos c] at P1
      obtain ⟨l, e1⟩ := Option.isSome_iff_exists.mp c
      cases d with
      | tup l' =>
        refine .inl ⟨l', rfl, ?_⟩
        cases v1 with
        | tup hs r =>
          have hs2 := hs
          rw [hK] at hs2
          have fin := P1.here R1 (walks_tup R1.bad (.tup hs r))
          rw [hK] at fin
          exact ⟨_, rfl, ⟨_, hs2⟩, fin⟩
      | _ =>
        refine .inr ⟨fun l z => (by cases z), ?_⟩
        obtain ⟨a, vs, rfl, hs, r⟩ := asL_at R1 v1 e1
        have fin := P1.here R1 (walks_lst R1.bad v1 fun l z => (by cases z))
        rw [hK] at fin hs
        exact ⟨a, rfl, ⟨vs, hs⟩, fin⟩
    · rw [if_neg c] at P1; exact P1.elim
  by_cases tp : ∃ l h1, f e h = .ok (.tup l) h1
  · refine .inr ⟨S, h, e, R, E, P.bind fun d h1 S1 H1 v ef N1 R1 v1 P1 => ?_⟩
    obtain ⟨l, h2, e2⟩ := tp
    rw [e2] at ef
    cases ef
    rcases key _ _ _ _ _ R1 v1 P1 with ⟨_, _, q⟩ | ⟨n, _⟩
    · exact q
    · exact absurd rfl (n l)
  · refine .inl ⟨S, h, e, R, E, P.bind fun d h1 S1 H1 v ef N1 R1 v1 P1 => ?_⟩
    rcases key _ _ _ _ _ R1 v1 P1 with ⟨l, e1, _⟩ | ⟨_, q⟩
    · subst e1; exact absurd ⟨l, h1, ef⟩ tp
    · exact q
theorem i_rng1 (hg : Gl X "range") (hm : X.mg "range" = none) (ha : PE X a (tE G W f)) (hs : noStar a = true) : PI X tg (.Call (.Name "range" p) [a] [] pos) (tI G W (iRange1 f)) :=
  Sb.PI.imp (pi_range1 hg hm (pa_cons ha pa_nil (star_of hs _ _)) (star_of hs _ _)) fun σ H R0 ⟨S, h, e, R, E, P⟩ => ⟨S, h, e, R, E, P.bind fun d h1 S1 H1 v ef N1 R1 v1 P1 => by
    cases v1 with
    | int j =>
      by_cases c : -(2 ^ 62) ≤ j ∧ j < 2 ^ 62
      · have P2 : Pst G (fun c d H => W c d σ H) S1 H1 (relI G) (Sb.R.ok ⟨j.toNat, rngAt 0 j.toNat⟩ h1) R0 := by
          have z : (if -(2 ^ 62) ≤ j ∧ j < 2 ^ 62 then (Sb.R.ok (⟨j.toNat, rngAt 0 j.toNat⟩ : Src) h1) else Sb.R.fail) = Sb.R.ok ⟨j.toNat, rngAt 0 j.toNat⟩ h1 := if_pos c
          rw [← z]; exact P1
        exact ⟨j, rfl, c.1, c.2, P2.here R1 (walks_rng 0 j.toNat)⟩
      · have z : (if -(2 ^ 62) ≤ j ∧ j < 2 ^ 62 then (Sb.R.ok (⟨j.toNat, rngAt 0 j.toNat⟩ : Src) h1) else Sb.R.fail) = Sb.R.fail := if_neg c
        have P2 : Pst G (fun c d H => W c d σ H) S1 H1 (relI G) (Sb.R.fail (α := Src)) R0 := by rw [← z]; exact P1
        exact P2.elim
    | _ => exact P1.elim⟩
theorem i_rng2 (hg : Gl X "range") (hm : X.mg "range" = none) (ha : PE X a (tE G W f)) (hb : PE X b (tE G W g)) (hs : noStar a = true) (hs2 : noStar b = true) : PI X tg (.Call (.Name "range" p) [a, b] [] pos) (tI G W (iRange2 f g)) :=
  Sb.PI.imp (pi_range2 hg hm (pa_cons ha (pa_cons hb pa_nil (star_of hs2 _ _)) (star_of hs _ _)) (by rw [star_of hs, star_of hs2]; rfl) (star_of hs2 _ _)) fun σ H R0 ⟨S, h, e, R, E, P⟩ => ⟨S, h, e, R, E, P.bind fun d h1 S1 H1 v ef N1 R1 v1 P1 =>
    ⟨S1, h1, e, R1, E.mono N1 R.bad, P1.bind fun d2 h2 S2 H2 v' ef2 N2 R2 v2 P2 => by
    cases v1 with
    | int i =>
      cases v2 with
      | int j =>
        by_cases c : -(2 ^ 62) ≤ i ∧ i < 2 ^ 62 ∧ -(2 ^ 62) ≤ j ∧ j < 2 ^ 62
        · have P3 : Pst G (fun c d H => W c d σ H) S2 H2 (relI G) (Sb.R.ok ⟨(j - i).toNat, rngAt i (j - i).toNat⟩ h2) R0 := by
            have z : (if -(2 ^ 62) ≤ i ∧ i < 2 ^ 62 ∧ -(2 ^ 62) ≤ j ∧ j < 2 ^ 62 then (Sb.R.ok (⟨(j - i).toNat, rngAt i (j - i).toNat⟩ : Src) h2) else Sb.R.fail) = Sb.R.ok ⟨(j - i).toNat, rngAt i (j - i).toNat⟩ h2 := if_pos c
            rw [← z]; exact P2
          exact ⟨i, j, rfl, c, P3.here R2 (walks_rng i _)⟩
        · have z : (if -(2 ^ 62) ≤ i ∧ i < 2 ^ 62 ∧ -(2 ^ 62) ≤ j ∧ j < 2 ^ 62 then (Sb.R.ok (⟨(j - i).toNat, rngAt i (j - i).toNat⟩ : Src) h2) else Sb.R.fail) = Sb.R.fail := if_neg c
          have P3 : Pst G (fun c d H => W c d σ H) S2 H2 (relI G) (Sb.R.fail (α := Src)) R0 := by rw [← z]; exact P2
          exact P3.elim
      | _ => exact P2.elim
    | _ => exact P2.elim⟩⟩
end
/-! ### for -/
def forS (a : Hh → Nat → Option (Option D)) (g : Tg) (b : FS) : Nat → Nat → FS
  | m, i, e, h => match a h i with
    | some none => .nx e h
    | some (some d) => match m with
      | 0 => .fail
      | m + 1 => match bindT g d e with
        | some e1 => match b e1 h with
          | .nx e2 h2 => forS a g b m (i + 1) e2 h2
          | .ct e2 h2 => forS a g b m (i + 1) e2 h2
          | .bk e2 h2 => .nx e2 h2
          | r => r
        | none => .fail
    | none => .fail
def sFor (f : F Src) (g : Tg) (b : FS) : FS := fun e h => (f e h).st e fun s h1 => forS s.at_ g b s.n 0 e h1
def noSetT : Expr → Bool
  | .Set _ _ _ => false
  | _ => true
theorem folded_of {e : Expr} (h : noSetT e = true) {env : Env} : ∀ x, foldedSetIterable e env x = pure x := by
  intro x
  cases e <;> first | rfl | cases h
theorem s_for {X : Cx} {G : Cf} {W : WX} {tg iter : Expr} {body : List Stmt} {f : F Src} {g : Tg} {b : FS} {pos : Pos} (hc : X.calm = true) (hp : PassesOwn (model X.prog X.w) X.A X.env X.xe) (hi : PI X tg iter (tI G W f)) (hg : PG X tg (gT G g)) (hb : PSs X body (tS G W b)) (hs : noSetT iter = true) :
    PS X (.For tg iter body [] pos) (tS G W (sFor f g b)) :=
  PS.imp (ps_for hp hc hi hg hb (folded_of hs)) fun Z σ H ⟨S, h, e, R, E, P⟩ => ⟨S, h, e, R, E, P.st R E fun s h1 S1 H1 J _ N1 R1 w P1 => by
    refine ⟨fun i m σ H => ∃ S h e, Nx G S1 H1 S H ∧ Rel G S h H ∧ EnR G S H e σ ∧ PstS G W S H (forS s.at_ g b m i e h) Z, ⟨s.n, S1, h1, e, .refl, R1, E.mono N1 R.bad, P1⟩, ?_⟩
    rintro i m σ2 H2 ⟨S2, h2, e2, N2, R2, E2, P2⟩
    obtain ⟨w1, w2⟩ := w S2 h2 H2 i N2 R2
    unfold forS at P2
    split at P2
    · rename_i q
      exact .inl ⟨w1 q, P2.next R2 E2⟩
    · rename_i d q
      obtain ⟨g1, g2⟩ := w2 d q
      refine .inr ⟨g1, ?_⟩
      cases m with
      | zero => exact P2.elim
      | succ m =>
        simp only at P2
        split at P2
        · rename_i e3 q3
          refine ⟨fun σ' H' => ∃ S h e, Nx G S1 H1 S H' ∧ Rel G S h H' ∧ EnR G S H' e σ' ∧ PstS G W S H' (forS s.at_ g b m (i + 1) e h) Z, fun σ' H' z => ⟨m, Nat.lt_succ_self m, z⟩, fun x H3 y => ?_⟩
          obtain ⟨N3, R3, x3⟩ := g2 x H3 y
          refine ⟨S2, h2, e2, d, e3, R3, E2.mono N3 R2.bad, x3, q3, fun σ4 E4 _ => ⟨S2, h2, e3, R3, E4, ?_⟩⟩
          have P3 := PstS.mono P2 N3
          cases q5 : b e3 h2 with
          | nx e5 h5 => rw [q5] at P3; exact fun S' H' σ' N R' E' => ⟨S', h5, e5, (N2.trans N3).trans N, R', E', PstS.mono (r := forS s.at_ g b m (i + 1) e5 h5) P3 N⟩
          | ct e5 h5 => rw [q5] at P3; exact fun S' H' σ' N R' E' => ⟨S', h5, e5, (N2.trans N3).trans N, R', E', PstS.mono (r := forS s.at_ g b m (i + 1) e5 h5) P3 N⟩
          | bk e5 h5 => rw [q5] at P3; exact P3
          | rt _ _ => rw [q5] at P3; exact P3
          | exc _ _ _ _ => rw [q5] at P3; exact P3
          | fail => rw [q5] at P3; exact P3
        · exact P2.elim
    · exact P2.elim⟩
end Sb

/-! Sb7: list comprehensions. -/
namespace Sb
open L2 PySem PySem.Spec PyProof.Rows
def W0 : WX := fun _ _ _ _ => False
/-! ### an object apart, that the loop alone writes -/
def Rho.ban (S : Rho) (p : Addr) : Rho := ⟨S.r, S.n, fun b => S.B b ∨ b = p⟩
def Rho.unban (S : Rho) (p : Addr) : Rho := ⟨S.r, S.n, fun b => S.B b ∧ b ≠ p⟩
section
variable {G : Cg} {S S' : Rho} {H : Hp} {h : Hh} {p : Addr} {vs ws : List V}
mutual
theorem VD.lessB (hr : S'.r = S.r) (hn : S'.n = S.n) (hB : ∀ b, S'.B b → S.B b) : ∀ {d : D} {v : V}, VD G S H d v → VD G S' H d v
  | _, _, .non => .non
  | _, _, .bl b => .bl b
  | _, _, .int b => .int b
  | _, _, .str b => .str b
  | _, _, .tup a b => .tup a (VDs.lessB hr hn hB b)
  | _, _, .scr a => .scr a
  | _, _, .lst a b c => .lst a (fun z => b (hB _ z)) (VDs.lessB hr hn hB c)
  | _, _, .dct a b c => .dct a (fun z => b (hB _ z)) (VDk.lessB hr hn hB c)
  | _, _, .ins a b c => .ins a (fun z => b (hB _ z)) (VDf.lessB hr hn hB c)
  | _, _, .ref hi => by rw [← hr]; exact .ref (by rw [hn]; exact hi)
theorem VDs.lessB (hr : S'.r = S.r) (hn : S'.n = S.n) (hB : ∀ b, S'.B b → S.B b) : ∀ {d : List D} {v : List V}, VDs G S H d v → VDs G S' H d v
  | _, _, .nil => .nil
  | _, _, .cons a b => .cons (VD.lessB hr hn hB a) (VDs.lessB hr hn hB b)
theorem VDk.lessB (hr : S'.r = S.r) (hn : S'.n = S.n) (hB : ∀ b, S'.B b → S.B b) : ∀ {d : List (Key × D)} {v : List (Key × V)}, VDk G S H d v → VDk G S' H d v
  | _, _, .nil => .nil
  | _, _, .cons a b => .cons (VD.lessB hr hn hB a) (VDk.lessB hr hn hB b)
theorem VDf.lessB (hr : S'.r = S.r) (hn : S'.n = S.n) (hB : ∀ b, S'.B b → S.B b) : ∀ {d : List (Str × D)} {v : List (Str × V)}, VDf G S H d v → VDf G S' H d v
  | _, _, .nil => .nil
  | _, _, .cons a b => .cons (VD.lessB hr hn hB a) (VDf.lessB hr hn hB b)
end
theorem OD.lessB (hr : S'.r = S.r) (hn : S'.n = S.n) (hB : ∀ b, S'.B b → S.B b) {a : Addr} {o : O} (x : OD G S H a o) : OD G S' H a o := by
  cases x with
  | lst q v => exact .lst q (v.lessB hr hn hB)
  | dct q v => exact .dct q (v.lessB hr hn hB)
  | ins q v => exact .ins q (v.lessB hr hn hB)
  | lckL q v => exact .lckL q (v.lessB hr hn hB)
  | lckD q v => exact .lckD q (v.lessB hr hn hB)
theorem seqT_upd (e : H p = some (.lst vs)) {a : Addr} {xs : List V} (q : SqT G.K H a xs) : SqT G.K (upd H p (.lst ws)) a xs := by
  rcases q with (q | ⟨o, q⟩) | q
  · exact .inl (.inl (by rw [upd_ne (fun z => by rw [z, e] at q; cases q)]; exact q))
  · exact .inl (.inr ⟨o, by rw [upd_ne (fun z => by rw [z, e] at q; cases q)]; exact q⟩)
  · exact .inr q
theorem seqF_upd (e : H p = some (.lst vs)) {a : Addr} {xs : List V} (q : SqF G.K H a xs) : SqF G.K (upd H p (.lst ws)) a xs := by
  rcases q with ⟨o, q⟩ | q
  · exact .inl ⟨o, by rw [upd_ne (fun z => by rw [z, e] at q; cases q)]; exact q⟩
  · exact .inr q
mutual
theorem VD.updB (hp : S.B p) (e : H p = some (.lst vs)) : ∀ {d : D} {v : V}, VD G S H d v → VD G S (upd H p (.lst ws)) d v
  | _, _, .non => .non
  | _, _, .bl b => .bl b
  | _, _, .int b => .int b
  | _, _, .str b => .str b
  | _, _, .tup a b => .tup (seqT_upd e a) (VDs.updB hp e b)
  | _, _, .scr a => .scr (seqF_upd e a)
  | _, _, .lst a b c => .lst (by rw [upd_ne (fun z => b (by rw [z]; exact hp))]; exact a) b (VDs.updB hp e c)
  | _, _, .dct a b c => .dct (by
      rcases a with a | ⟨o, a⟩
      · exact .inl (by rw [upd_ne (fun z => b (by rw [z]; exact hp))]; exact a)
      · exact .inr ⟨o, by rw [upd_ne (fun z => b (by rw [z]; exact hp))]; exact a⟩) b (VDk.updB hp e c)
  | _, _, .ins a b c => .ins (by rw [upd_ne (fun z => b (by rw [z]; exact hp))]; exact a) b (VDf.updB hp e c)
  | _, _, .ref hi => .ref hi
theorem VDs.updB (hp : S.B p) (e : H p = some (.lst vs)) : ∀ {d : List D} {v : List V}, VDs G S H d v → VDs G S (upd H p (.lst ws)) d v
  | _, _, .nil => .nil
  | _, _, .cons a b => .cons (VD.updB hp e a) (VDs.updB hp e b)
theorem VDk.updB (hp : S.B p) (e : H p = some (.lst vs)) : ∀ {d : List (Key × D)} {v : List (Key × V)}, VDk G S H d v → VDk G S (upd H p (.lst ws)) d v
  | _, _, .nil => .nil
  | _, _, .cons a b => .cons (VD.updB hp e a) (VDk.updB hp e b)
theorem VDf.updB (hp : S.B p) (e : H p = some (.lst vs)) : ∀ {d : List (Str × D)} {v : List (Str × V)}, VDf G S H d v → VDf G S (upd H p (.lst ws)) d v
  | _, _, .nil => .nil
  | _, _, .cons a b => .cons (VD.updB hp e a) (VDf.updB hp e b)
end
theorem Rel.updB (R : Rel G S h H) (hp : S.B p) (e : H p = some (.lst vs)) (hn : ∀ i, i < S.n → S.r i ≠ p) : Rel G S h (upd H p (.lst ws)) where
  len := R.len
  bad := R.bad
  inj := R.inj
  live := fun b z => by
    by_cases q : b = p
    · rw [q, upd_same]; simp
    · rw [upd_ne q]; exact R.live b z
  obj := fun i o q0 => by
    have hi : i < S.n := by rw [← R.len]; exact (List.getElem?_eq_some_iff.mp q0).1
    have ne : upd H p (.lst ws) (S.r i) = H (S.r i) := upd_ne (hn i hi)
    cases R.obj i o q0 with
    | lst q v => exact .lst (by rw [ne]; exact q) (v.updB hp e)
    | dct q v => exact .dct (by rw [ne]; exact q) (v.updB hp e)
    | ins q v => exact .ins (by rw [ne]; exact q) (v.updB hp e)
    | lckL q v => exact .lckL (by rw [ne]; exact q) (v.updB hp e)
    | lckD q v => exact .lckD (by rw [ne]; exact q) (v.updB hp e)
/-- the object apart was new ahead: all else goes on as it was -/
theorem Nx.updB {S0 : Rho} {H0 : Hp} (N : Nx G S0 H0 S H) (h0 : H0 p = none) (e : H p = some (.lst vs)) : Nx G S0 H0 S (upd H p (.lst ws)) where
  n := N.n
  r := N.r
  new := N.new
  up := N.up
  dn := N.dn
  keep := fun b u n q => by rw [upd_ne (fun z => by rw [z, h0] at q; cases q)]; exact N.keep b u n q
  there := fun b q => by
    by_cases z : b = p
    · rw [z, upd_same]; simp
    · rw [upd_ne z]; exact N.there b q
  seqT := fun a xs q => seqT_upd e (N.seqT a xs q)
  seqF := fun a xs q => seqF_upd e (N.seqF a xs q)
  frz := fun b o u q => by
    have z := N.frz b o u q
    rw [upd_ne (fun y => by rw [y, e] at z; cases z)]; exact z
end
/-! ### the reading -/
def wipeE (e : En) : List Nat → En
  | [] => e
  | v :: vs => (wipeE e vs).set v none
theorem wipe_at {α : Type} (w : List (Option α) → List Nat → List (Option α)) (h0 : ∀ e, w e [] = e) (h1 : ∀ e v vs, w e (v :: vs) = (w e vs).set v none) : ∀ (vs : List Nat) (e : List (Option α)) (j : Nat), (w e vs).length = e.length ∧ (j ∉ vs → (w e vs)[j]? = e[j]?) ∧ (j ∈ vs → j < e.length → (w e vs)[j]? = some none)
  | [], e, j => by rw [h0]; exact ⟨rfl, fun _ => rfl, fun z => by cases z⟩
  | v :: vs, e, j => by
    obtain ⟨a, b, c⟩ := wipe_at w h0 h1 vs e j
    rw [h1]
    refine ⟨by rw [List.length_set]; exact a, fun z => ?_, fun z l => ?_⟩
    · rw [List.mem_cons, not_or] at z
      rw [List.getElem?_set_ne (fun y => z.1 y.symm)]
      exact b z.2
    · by_cases y : v = j
      · subst y
        rw [List.getElem?_set_self (by rw [a]; exact l)]
      · rw [List.getElem?_set_ne y]
        rcases List.mem_cons.mp z with z | z
        · exact absurd z.symm y
        · exact c z l
theorem wipe_V (vs : List Nat) (σ : L2.St) (j : Nat) : (wipe σ vs).length = σ.length ∧ (j ∉ vs → (wipe σ vs)[j]? = σ[j]?) ∧ (j ∈ vs → j < σ.length → (wipe σ vs)[j]? = some none) := wipe_at wipe (fun _ => rfl) (fun _ _ _ => rfl) vs σ j
theorem wipe_E (vs : List Nat) (e : En) (j : Nat) : (wipeE e vs).length = e.length ∧ (j ∉ vs → (wipeE e vs)[j]? = e[j]?) ∧ (j ∈ vs → j < e.length → (wipeE e vs)[j]? = some none) := wipe_at wipeE (fun _ => rfl) (fun _ _ _ => rfl) vs e j
theorem wipe_same {vs : List Nat} {σ σ' : L2.St} (A : Agr vs σ σ') : wipe σ' vs = wipe σ vs := by
  refine List.ext_getElem? fun j => ?_
  obtain ⟨a, b, c⟩ := wipe_V vs σ j
  obtain ⟨a', b', c'⟩ := wipe_V vs σ' j
  by_cases z : j ∈ vs
  · by_cases l : j < σ.length
    · rw [c z l, c' z (by rw [A.1]; exact l)]
    · rw [List.getElem?_eq_none (by rw [a', A.1]; omega), List.getElem?_eq_none (by rw [a]; omega)]
  · rw [b z, b' z, A.2 j z]
theorem wipe_wipe (vs : List Nat) (σ : L2.St) : wipe (wipe σ vs) vs = wipe σ vs := wipe_same ⟨(wipe_V vs σ 0).1, fun j z => (wipe_V vs σ j).2.1 z⟩
theorem EnR.wipe {G : Cf} {S : Rho} {H : Hp} {e : En} {σ : L2.St} (E : EnR G S H e σ) (hc : G.cur = none) (vs : List Nat) : EnR G S H (wipeE e vs) (L2.wipe σ vs) where
  len := by rw [(wipe_E vs e 0).1, (wipe_V vs σ 0).1]; exact E.len
  at_ := fun i d q => by
    obtain ⟨a, b, c⟩ := wipe_E vs e i
    by_cases z : i ∈ vs
    · by_cases l : i < e.length
      · rw [c z l] at q; cases q
      · rw [List.getElem?_eq_none (by rw [a]; omega)] at q; cases q
    · rw [b z] at q
      rw [(wipe_V vs σ i).2.1 z]
      exact E.at_ i d q
  cur := fun i c a q => by rw [hc] at q; cases q
def compS (a : Hh → Nat → Option (Option D)) (g : Tg) (t : F Bool) (f : F D) : Nat → Nat → En → Hh → Option (List D × Hh)
  | m, i, e, h => match a h i with
    | some none => some ([], h)
    | some (some d) => match m with
      | 0 => none
      | m + 1 => match bindT g d e with
        | some e1 => match t e1 h with
          | .ok b h1 => if b = true then (match f e1 h1 with
            | .ok y h2 => match compS a g t f m (i + 1) e h2 with
              | some (l, h3) => some (y :: l, h3)
              | none => none
            | _ => none) else compS a g t f m (i + 1) e h1
          | _ => none
        | none => none
    | none => none
def dComp (fs : F Src) (g : Tg) (t : F Bool) (f : F D) (vs : List Nat) : F D := fun e h => (fs e h).bind fun s h1 => if fits s.n = true then (match compS s.at_ g t f s.n 0 (wipeE e vs) h1 with
  | some (l, h2) => .ok (.lst l) h2
  | none => .fail) else .fail
def bYes : F Bool := fun _ h => .ok true h
theorem ts_nil {X : Cx} {G : Cf} {W : WX} : PTs X [] (tT G W bYes) := ⟨fun pins s σ H Q I ⟨S, h, e, R, E, P⟩ => pts_nil.run pins s σ H Q I (P.here R rfl)⟩
section
variable {X : Cx} {G : Cf} {W : WX} {elt tg iter : Expr} {ifs : List Expr} {scope : Scope} {own : List (Str × Nat)} {pos : Pos} {fs : F Src} {g : Tg} {t : F Bool} {f : F D}
theorem tE_lc (hcu : G.cur = none) (vs : List Nat) (hsl : ∀ i ∈ slotsT g, i ∈ vs) {σ : L2.St} {H : Hp} {Q : VK} (h0 : tE G W (dComp fs g t f vs) σ H Q) : tLc (tI G W fs) (gT G g) (tT G W0 t) (tE G W0 f) vs σ H Q := by
  obtain ⟨S, h, e, R, E, P⟩ := h0
  refine ⟨S, h, e, R, E, P.bind fun s h1 S1 H1 J _ N1 R1 w P1 => fun p hp => ?_⟩
  have E1 := E.mono N1 R.bad
  by_cases c : fits s.n = true
  rotate_left
  · rw [if_neg c] at P1; exact P1.elim
  rw [if_pos c] at P1
  cases q : compS s.at_ g t f s.n 0 (wipeE e vs) h1 with
  | none => rw [q] at P1; exact P1.elim
  | some z =>
    obtain ⟨l, h2⟩ := z
    rw [q] at P1
    have hn : s.n ≤ sizeLine := fits_ok c
    refine ⟨fun i m H => ∃ S4 h4 acc vacc l', Nx G S1 H1 S4 H ∧ Rel G S4 h4 H ∧ S4.B p ∧ (∀ i, i < S4.n → S4.r i ≠ p) ∧ H p = some (.lst vacc) ∧ VDs G S4 H acc vacc ∧ acc.length ≤ i ∧ i + m = s.n ∧
      compS s.at_ g t f m i (wipeE e vs) h4 = some (l', h2) ∧ l = acc ++ l', ⟨s.n, ?_⟩, ?_⟩
    · -- the start
      have k := keeps_new (o := .lst []) hp
      have N2 : Nx G S1 H1 (S1.ban p) (upd H1 p (.lst [])) := ⟨Nat.le_refl _, fun _ _ => rfl, fun i a b => absurd b (Nat.not_lt.mpr a), fun _ z => .inl z, fun b z => z.elim .inl fun y => .inr (by rw [y]; exact hp), fun b u _ e => k b u e,
        (Nx.same (G := G) (S := S1) k).there, (Nx.same (G := G) (S := S1) k).seqT, (Nx.same (G := G) (S := S1) k).seqF, (Nx.same (G := G) (S := S1) k).frz⟩
      have ne : ∀ i, i < S1.n → S1.r i ≠ p := fun i hi z => R1.nb hp (z ▸ R1.bad i hi)
      refine ⟨S1.ban p, h1, [], [], l, N2, ⟨R1.len, fun i hi => .inl (R1.bad i hi), R1.inj, fun b z => ?_, fun i o q => (R1.obj i o q).mono N2 R1.bad fun u q => k _ u q⟩, .inr rfl, ne, upd_same, .nil, Nat.le_refl _, Nat.zero_add _, q, rfl⟩
      rcases z with z | z
      · exact N2.there b (R1.live b z)
      · rw [z, upd_same]; simp
    · rintro i m H4 ⟨S4, h4, acc, vacc, l', N4, R4, hb, ne, hpl, va, la, im, q4, el⟩
      obtain ⟨w1, w2⟩ := w S4 h4 H4 i N4 R4
      unfold compS at q4
      split at q4
      · -- the end
        rename_i qa
        cases q4
        refine .inl ⟨w1 qa, ?_⟩
        rw [List.append_nil] at el
        subst el
        have hB : ∀ b, (S4.unban p).B b → S4.B b := fun b z => z.1
        refine P1 (S4.unban p) H4 (.ref p) ⟨N4.n, N4.r, N4.new, fun b z => ⟨N4.up b z, fun y => R1.live b z (by rw [y]; exact hp)⟩, fun b z => N4.dn b z.1, N4.keep, N4.there, N4.seqT, N4.seqF, N4.frz⟩
          ⟨R4.len, fun i hi => ⟨R4.bad i hi, ne i hi⟩, R4.inj, fun b z => R4.live b z.1, fun i o q => OD.lessB (S := S4) (S' := S4.unban p) rfl rfl hB (R4.obj i o q)⟩ (.lst hpl (fun z => z.2 rfl) (VDs.lessB (S := S4) (S' := S4.unban p) rfl rfl hB va))
      · rename_i d qa
        obtain ⟨g1, g2⟩ := w2 d qa
        refine .inr ⟨g1, ?_⟩
        cases m with
        | zero => cases q4
        | succ m =>
          simp only at q4
          split at q4
          rotate_left
          · cases q4
          rename_i e1 qb
          refine ⟨fun H' => ∃ S4 h4 acc vacc l', Nx G S1 H1 S4 H' ∧ Rel G S4 h4 H' ∧ S4.B p ∧ (∀ i, i < S4.n → S4.r i ≠ p) ∧ H' p = some (.lst vacc) ∧ VDs G S4 H' acc vacc ∧ acc.length ≤ i + 1 ∧ (i + 1) + m = s.n ∧
            compS s.at_ g t f m (i + 1) (wipeE e vs) h4 = some (l', h2) ∧ l = acc ++ l', fun H' z => ⟨m, Nat.lt_succ_self m, z⟩, fun x H5 y => ?_⟩
          obtain ⟨N5, R5, x5⟩ := g2 x H5 y
          have N05 := N4.trans N5
          have E5 : EnR G S4 H5 (wipeE e vs) (wipe σ vs) := (E1.mono N05 R1.bad).wipe hcu vs
          -- what stays of the list apart
          have stay : ∀ {S6 H6}, Nx G S4 H4 S6 H6 → S6.B p ∧ (∀ i, i < S6.n → S6.r i ≠ p) ∧ H6 p = some (.lst vacc) := fun {S6 H6} N => by
            refine ⟨N.up p hb, fun i hi z => ?_, N.keep p _ ne hpl⟩
            by_cases k : i < S4.n
            · exact ne i k ((N.r i k).symm.trans z)
            · have := N.new i (Nat.not_lt.mp k) hi
              rw [z, hpl] at this
              cases this
          refine ⟨S4, h4, wipeE e vs, d, e1, R5, E5, x5, qb, fun σ2 E6 A6 => ⟨?_, ?_⟩⟩
          · exact (wipe_same ⟨A6.1, fun j hj => A6.2 j (fun z => hj (hsl j z))⟩).trans (wipe_wipe vs σ)
          refine ⟨S4, h4, e1, R5, E6, ?_⟩
          cases qt : t e1 h4 with
          | fail => rw [qt] at q4; cases q4
          | exc _ _ _ => rw [qt] at q4; cases q4
          | ok b h6 =>
            rw [qt] at q4
            simp only at q4
            intro S6 H6 b' N6 R6 eb
            subst eb
            have N46 := N5.trans N6
            cases b with
            | false =>
              obtain ⟨k1, k2, k3⟩ := stay N46
              exact ⟨S6, h6, acc, vacc, l', N4.trans N46, R6, k1, k2, k3, va.mono N46 R4.bad, by omega, by omega, q4, el⟩
            | true =>
              refine ⟨S6, h6, e1, R6, E6.mono N6 R5.bad, ?_⟩
              rw [if_pos rfl] at q4
              cases qf : f e1 h6 with
              | fail => rw [qf] at q4; cases q4
              | exc _ _ _ => rw [qf] at q4; cases q4
              | ok y7 h7 =>
                rw [qf] at q4
                simp only at q4
                intro S7 H7 v7 N7 R7 x7
                cases q8 : compS s.at_ g t f m (i + 1) (wipeE e vs) h7 with
                | none => rw [q8] at q4; cases q4
                | some z8 =>
                  obtain ⟨l8, h8⟩ := z8
                  rw [q8] at q4
                  have N47 := N46.trans N7
                  obtain ⟨k1, k2, k3⟩ := stay N47
                  have va7 := va.mono N47 R4.bad
                  have l1 := va7.length
                  refine ⟨vacc, k3, by omega, S7, h7, acc ++ [y7], vacc ++ [v7], l8, (N4.trans N47).updB hp k3, R7.updB k1 k3 k2, k1, k2, upd_same, (va7.append (.cons x7 .nil)).updB k1 k3, by rw [List.length_append]; exact Nat.succ_le_succ la, by omega, ?_, ?_⟩
                  · cases q4; exact q8
                  · cases q4; rw [el, List.append_assoc]; rfl
      · cases q4
theorem e_lc (hc : X.calm = true) (hN : X.N.Nodup) (hcu : G.cur = none) (hi : PI X tg iter (tI G W fs)) (ok : BlkOk X.N X.env.scope scope own) (hsl : ∀ i ∈ slotsT g, i ∈ own.map (·.2))
    (hg : ∀ (s : Shared) (H : Hp) (C : Addr) (cl : List (Str × Addr)) (fp : List Addr), PG (X.blk s H scope (compEnvC scope cl C X.env) fp) tg (gT G g)) (ht : ∀ (s : Shared) (H : Hp) (C : Addr) (cl : List (Str × Addr)) (fp : List Addr), PTs (X.blk s H scope (compEnvC scope cl C X.env) fp) ifs (tT G W0 t))
    (he : ∀ (s : Shared) (H : Hp) (C : Addr) (cl : List (Str × Addr)) (fp : List Addr), PE (X.blk s H scope (compEnvC scope cl C X.env) fp) elt (tE G W0 f)) (hs : noSetT iter = true) :
    PE X (.ListComp elt [⟨tg, iter, ifs, 0⟩] scope pos) (tE G W (dComp fs g t f (own.map (·.2)))) :=
  PE.imp (pe_lc hc hN hi ok hg ht he (folded_of hs)) fun _ _ _ h => tE_lc hcu _ hsl h
/-- name = [..] -/
theorem s_setLc {i : Nat} {y : Str} {py spos : Pos} (hc : X.calm = true) (hN : X.N.Nodup) (hcu : G.cur = none) (hy : X.N[i]? = some y) (hyl : X.env.scope.names.lookup y = some .local) (hsw : swapsWith (.ListComp elt [⟨tg, iter, ifs, 0⟩] scope pos) (some (.Name y py)) spos.line X.env = pure true)
    (hi : PI X tg iter (tI G W fs)) (ok : BlkOk X.N X.env.scope scope own) (hsl : ∀ i ∈ slotsT g, i ∈ own.map (·.2))
    (hg : ∀ (s : Shared) (H : Hp) (C : Addr) (cl : List (Str × Addr)) (fp : List Addr), PG (X.blk s H scope (compEnvC scope cl C X.env) fp) tg (gT G g)) (ht : ∀ (s : Shared) (H : Hp) (C : Addr) (cl : List (Str × Addr)) (fp : List Addr), PTs (X.blk s H scope (compEnvC scope cl C X.env) fp) ifs (tT G W0 t))
    (he : ∀ (s : Shared) (H : Hp) (C : Addr) (cl : List (Str × Addr)) (fp : List Addr), PE (X.blk s H scope (compEnvC scope cl C X.env) fp) elt (tE G W0 f)) (hs : noSetT iter = true) :
    PS X (.Assign [.Name y py] (.ListComp elt [⟨tg, iter, ifs, 0⟩] scope pos) spos) (tS G W (sAsg (dComp fs g t f (own.map (·.2))) (.nm i))) :=
  PS.imp (ps_setLc hc hN hy hyl hsw hi ok hg ht he (folded_of hs)) fun Z σ H ⟨S, h, e, R, E, P⟩ => tE_lc hcu _ hsl ⟨S, h, e, R, E, P.st R E fun d h1 S1 H1 v _ N1 R1 v1 P1 => by
    unfold bindT at P1
    exact P1.next R1 ((E.mono N1 R.bad).set v1 fun c a z => by rw [hcu] at z; cases z)⟩
end
end Sb

/-! Sb8: fields, calls, what a def promises, frozen results, raise, try. -/
namespace Sb
open L2 PySem PySem.Spec PyProof.Rows
/-! ### instances -/
def insAt (h : Hh) : D → Option (Nat × List (Str × D))
  | .ins c fs => some (c, fs)
  | .ref i => match h[i]? with
    | some (.ins c fs) => some (c, fs)
    | _ => none
  | _ => none
theorem insAt_at {G : Cg} {S : Rho} {h : Hh} {H : Hp} {d : D} {v : V} {c : Nat} {fs : List (Str × D)} (R : Rel G S h H) (x : VD G S H d v) (e : insAt h d = some (c, fs)) : ∃ a dx gs, v = .ref a ∧ H a = some (.ins (G.cad c) dx gs) ∧ VDf G S H fs gs := by
  cases x with
  | ins a b r => cases e; exact ⟨_, _, _, rfl, a, r⟩
  | @ref i hi =>
    have e2 : (match h[i]? with | some (.ins c fs) => some (c, fs) | _ => none) = some (c, fs) := e
    clear e
    split at e2
    · rename_i c1 fs1 q
      cases e2
      cases R.obj i _ q with
      | ins q r => exact ⟨_, _, _, rfl, q, r⟩
    · cases e2
  | _ => cases e
theorem VDf.get {G : Cg} {S : Rho} {H : Hp} (f : Str) : ∀ {fs : List (Str × D)} {gs : List (Str × V)}, VDf G S H fs gs → (fs.lookup f = none ∧ gs.lookup f = none) ∨ ∃ d v, fs.lookup f = some d ∧ gs.lookup f = some v ∧ VD G S H d v
  | _, _, .nil => .inl ⟨rfl, rfl⟩
  | _, _, @VDf.cons _ _ _ k d v l vs a t => by
    rw [List.lookup_cons, List.lookup_cons]
    cases (f == k) with
    | true => exact .inr ⟨d, v, rfl, rfl, a⟩
    | false => exact VDf.get f t
theorem VDf.length {G : Cg} {S : Rho} {H : Hp} : ∀ {fs : List (Str × D)} {gs : List (Str × V)}, VDf G S H fs gs → fs.length = gs.length
  | _, _, .nil => rfl
  | _, _, .cons _ t => congrArg Nat.succ t.length
def putFD (f : Str) (v : D) : List (Str × D) → List (Str × D)
  | [] => [(f, v)]
  | (g, w) :: r => if g = f then (g, v) :: r else (g, w) :: putFD f v r
theorem putF_cons (f : Str) (v : V) (g : Str) (w : V) (r : List (Str × V)) : putF f v ((g, w) :: r) = if g = f then (g, v) :: r else (g, w) :: putF f v r := rfl
theorem VDf.put {G : Cg} {S : Rho} {H : Hp} {f : Str} {d : D} {v : V} (x : VD G S H d v) : ∀ {fs : List (Str × D)} {gs : List (Str × V)}, VDf G S H fs gs → VDf G S H (putFD f d fs) (putF f v gs)
  | _, _, .nil => .cons x .nil
  | _, _, @VDf.cons _ _ _ k d' v' l vs a t => by
    rw [putF_cons]
    unfold putFD
    by_cases q : k = f
    · rw [if_pos q, if_pos q]; exact .cons x t
    · rw [if_neg q, if_neg q]; exact .cons a (VDf.put x t)
/-- T: the fields that the classes are known to leave alone -/
abbrev FT := Nat → Str → Bool
def FOk (G : Cg) (T : FT) : Prop := ∀ c f, T c f = true → Cls G.K (G.cad c) ∧ NoAttr G.K (G.cad c) f
def fldD (T : FT) (f : Str) (h : Hh) (x : D) : Option D := match insAt h x with
  | some (c, fs) => if T c f = true then fs.lookup f else none
  | none => none
def dFld (T : FT) (g : F D) (f : Str) : F D := dU g (fldD T f)
section
variable {X : Cx} {G : Cf} {W : WX} {e o value : Expr} {f : Str} {g v : F D} {pos pos' : Pos} {T : FT}
theorem e_fld (hK : G.K = X.K) (hT : FOk G T) (he : PE X e (tE G W g)) (hb : okBase e = true) : PE X (.Attribute e f pos) (tE G W (dFld T g f)) :=
  PE.imp (pe_fld he (base_of hb _ _ _)) fun σ H Q ⟨S, h, e, R, E, P⟩ => ⟨S, h, e, R, E, P.bind fun x h1 S1 H1 v _ N1 R1 v1 P1 => by
    cases q : fldD T f h1 x with
    | none => rw [q] at P1; exact P1.elim
    | some z =>
      rw [q] at P1
      unfold fldD at q
      split at q
      · rename_i c fs qi
        split at q
        · rename_i ct
          obtain ⟨a, dx, gs, rfl, ha, r⟩ := insAt_at R1 v1 qi
          obtain ⟨k1, k2⟩ := hT c f ct
          rw [hK] at k1 k2
          rcases r.get f with ⟨e1, _⟩ | ⟨d, w, e1, e2, x1⟩
          · rw [e1] at q; cases q
          · rw [e1] at q
            cases q
            exact ⟨a, _, dx, gs, w, rfl, ha, k1, k2, e2, P1.here R1 x1⟩
        · cases q
      · cases q⟩
def sFldD (T : FT) (g : F D) (f : Str) (v : F D) : FS := fun e h => (v e h).st e fun y h1 => (g e h1).st e fun x h2 => match x with
  | .ref i => match h2[i]? with
    | some (.ins c fs) => if T c f = true ∧ fs.length < 1000 then .nx e (h2.set i (.ins c (putFD f y fs))) else .fail
    | _ => .fail
  | _ => .fail
theorem swaps_fld {v o : Expr} {f : Str} {p : Pos} (l : Nat) (env : Env) : swapsWith v (some (.Attribute o f p)) l env = pure false := by
  cases v <;> rfl
theorem s_fld (hK : G.K = X.K) (hT : FOk G T) (ho : PE X o (tE G W g)) (hv : PE X value (tE G W v)) : PS X (.Assign [.Attribute o f pos'] value pos) (tS G W (sFldD T g f v)) :=
  PS.imp (ps_fld ho hv (swaps_fld _ _)) fun Z σ H ⟨S, h, e, R, E, P⟩ => ⟨S, h, e, R, E, P.st R E fun y h1 S1 H1 vy _ N1 R1 v1 P1 =>
    have E1 := E.mono N1 R.bad
    ⟨S1, h1, e, R1, E1, P1.st R1 E1 fun x h2 S2 H2 vx _ N2 R2 v2 P2 => by
      cases v2 with
      | @ref i hi =>
        have P3 : PstS G W S2 H2 (match h2[i]? with | some (.ins c fs) => if T c f = true ∧ fs.length < 1000 then .nx e (h2.set i (.ins c (putFD f y fs))) else .fail | _ => .fail) Z := P2
        clear P2
        split at P3
        · rename_i c fs qi
          by_cases cc : T c f = true ∧ fs.length < 1000
          · rw [if_pos cc] at P3
            cases R2.obj i _ qi with
            | @ins _ _ dx gs q r =>
              obtain ⟨k1, k2⟩ := hT c f cc.1
              rw [hK] at k1 k2
              have N3 : Nx G S2 H2 S2 (upd H2 (S2.r i) (.ins (G.cad c) dx (putF f vy gs))) := Nx.write R2 hi q (fun _ z => by cases z) (fun _ _ z => by cases z)
              have R3 := R2.write hi q (fun _ z => by cases z) (fun _ _ z => by cases z) (v := .ins (G.cad c) dx (putF f vy gs)) (.ins upd_same (((v1.mono N2 R1.bad).mono N3 R2.bad |> fun x => VDf.put (f := f) x (r.mono N3 R2.bad))))
              exact ⟨_, _, dx, gs, rfl, q, k1, k2, by rw [← r.length]; exact cc.2, P3 S2 _ σ N3 R3 ((E1.mono N2 R1.bad).mono N3 R2.bad)⟩
          · rw [if_neg cc] at P3; exact P3.elim
        · exact P3.elim
      | _ => exact P2.elim⟩⟩
end
/-! ### o[i] = e -/
def sSub (o i v : F D) : FS := fun e h => (v e h).st e fun y h1 => (o e h1).st e fun x h2 => (i e h2).st e fun k h3 => match x with
  | .ref j => match h3[j]? with
    | some (.lst l) => match k with
      | .int n => match ixN l.length n with
        | some m => .nx e (h3.set j (.lst (l.set m y)))
        | none => .fail
      | _ => .fail
    | some (.dct l) => match keyD k with
      | some q => if l.length < 16777216 then .nx e (h3.set j (.dct (putD l q y))) else .fail
      | none => .fail
    | _ => .fail
  | _ => .fail
def rSub (G : Cg) : TSet := fun o i v H Q => ∃ S h j k y, Rel G S h H ∧ VD G S H (.ref j) o ∧ VD G S H k i ∧ VD G S H y v ∧
  ((∃ l n m, h[j]? = some (.lst l) ∧ k = .int n ∧ ixN l.length n = some m ∧ ∀ H', Nx G S H S H' → Rel G S (h.set j (.lst (l.set m y))) H' → Q H') ∨
    ∃ l q, h[j]? = some (.dct l) ∧ keyD k = some q ∧ l.length < 16777216 ∧ ∀ H', Nx G S H S H' → Rel G S (h.set j (.dct (putD l q y))) H' → Q H')
theorem set_all {X : Cx} {G : Cg} (hu : X.A.units + 1 < cLine) : PSet X (rSub G) := by
  intro pins s σ H o i v ov iv u Q I ro ri rv hq
  obtain ⟨S, h, j, k, y, R, vo, vi, vv, hw⟩ := hq
  cases vo with
  | ref hi =>
    rcases hw with ⟨l, n, m, q1, rfl, q2, kk⟩ | ⟨l, q, q1, q2, q3, kk⟩
    · cases R.obj j _ q1 with
      | @lst _ ws q r =>
        cases vi
        have N3 : Nx G S H S (upd H (S.r j) (.lst (ws.set m v))) := Nx.write R hi q (fun _ z => by cases z) (fun _ _ z => by cases z)
        have R3 := R.write hi q (fun _ z => by cases z) (fun _ _ z => by cases z) (.lst upd_same (VDs.set (vv.mono N3 R.bad) m (r.mono N3 R.bad)))
        rw [r.length] at q2
        exact set_list pins s σ H _ _ v ov iv u Q I ro ri rv ⟨_, _, n, m, rfl, rfl, q, q2, kk _ N3 R3⟩
    · cases R.obj j _ q1 with
      | @dct _ ws e r =>
        have ek := keyD_at vi q2
        subst ek
        have N3 : Nx G S H S (upd H (S.r j) (.dK (putK ws q v))) := Nx.write R hi e (fun _ z => by cases z) (fun _ _ z => by cases z)
        have R3 := R.write hi e (fun _ z => by cases z) (fun _ _ z => by cases z) (.dct upd_same (VDk.put q (vv.mono N3 R.bad) (r.mono N3 R.bad)))
        obtain rfl : ov = Value.ref (S.r j) := ro
        have hl : ws.length < sizeLine := by rw [sizeLine_eq, ← r.length]; exact q3
        exact d_setItem hu I (DPut.k e hl) ri rv fun s' I' => ⟨_, I', kk _ N3 R3⟩
theorem sub_asg {o i : Expr} (h : noSlice i = true) (pos : Pos) (env : Env) : ∀ v, assign (.Subscript o i pos) env v = (do
    let ov ← holding [v] (eval o env)
    let iv ← holding [v, ov] (eval i env)
    standAt pos
    holding [v, ov, iv] (setItem ov iv v)
    release [v, ov, iv] []) := by
  intro v
  cases i <;> first | rfl | cases h
theorem s_sub {X : Cx} {G : Cf} {W : WX} {o i value : Expr} {fo fi fv : F D} {pos pos' : Pos} (hu : X.A.units + 1 < cLine) (ho : PE X o (tE G W fo)) (hi : PE X i (tE G W fi)) (hv : PE X value (tE G W fv)) (hc : noComp value = true) (hsl : noSlice i = true) :
    PS X (.Assign [.Subscript o i pos'] value pos) (tS G W (sSub fo fi fv)) :=
  PS.imp (ps_asg hv (pg_sub ho hi (set_all hu) (sub_asg hsl _ _)) (by unfold swapsWithSole; exact swaps_of hc _ _ _) (stores_of rfl _)) fun Z σ H ⟨S, h, e, R, E, P⟩ => ⟨S, h, e, R, E, P.st R E fun y h1 S1 H1 vy _ N1 R1 v1 P1 =>
    have E1 := E.mono N1 R.bad
    ⟨S1, h1, e, R1, E1, P1.st R1 E1 fun x h2 S2 H2 vx _ N2 R2 v2 P2 =>
      have E2 := E1.mono N2 R1.bad
      ⟨S2, h2, e, R2, E2, P2.st R2 E2 fun k h3 S3 H3 vk _ N3 R3 v3 P3 => by
        have E3 := E2.mono N3 R2.bad
        have y3 := (v1.mono N2 R1.bad).mono N3 R2.bad
        have x3 := v2.mono N3 R2.bad
        cases x with
        | ref j =>
          refine ⟨S3, h3, j, k, y, R3, x3, v3, y3, ?_⟩
          simp only at P3
          split at P3
          · rename_i l q
            split at P3
            · split at P3
              · rename_i m qm
                exact .inl ⟨l, _, m, q, rfl, qm, fun H' N R' => P3 S3 H' σ N R' (E3.mono N R3.bad)⟩
              · exact P3.elim
            · exact P3.elim
          · rename_i l q
            split at P3
            · rename_i kq qk
              by_cases c : l.length < 16777216
              · rw [if_pos c] at P3
                exact .inr ⟨l, kq, q, qk, c, fun H' N R' => P3 S3 H' σ N R' (E3.mono N R3.bad)⟩
              · rw [if_neg c] at P3; exact P3.elim
            · exact P3.elim
          · exact P3.elim
        | _ => exact P3.elim⟩⟩⟩

/-! ### what a def promises -/
abbrev FC := List D → Hh → R D
def spD (G : Cg) (f : FC) : Sp := fun vs H Q E => ∃ S h ds, Rel G S h H ∧ VDs G S H ds vs ∧ Pst G E S H (relV G) (f ds h) Q
def startE (n : Nat) (ds : List D) : En := ds.map some ++ List.replicate (n - ds.length) none
def bodyF (n np : Nat) (b : FS) : FC := fun ds h => if ds.length = np then match b (startE n ds) h with
  | .nx _ h' => .ok .non h'
  | .rt d h' => .ok d h'
  | .exc c fs _ h' => .exc c fs h'
  | _ => .fail else .fail
theorem start_at {G : Cf} {S : Rho} {H : Hp} {ds : List D} {vs : List V} {N : List Str} (r : VDs G S H ds vs) (hc : G.cur = none) : EnR G S H (startE N.length ds) (L2.start N vs) where
  len := by
    unfold startE L2.start
    simp only [List.length_append, List.length_map, List.length_replicate, r.length]
  at_ := fun i d q => by
    unfold startE at q
    by_cases hi : i < ds.length
    · rw [List.getElem?_append_left (by rw [List.length_map]; exact hi), List.getElem?_map] at q
      obtain ⟨d', q1, q2⟩ := Option.map_eq_some_iff.mp q
      cases q2
      obtain ⟨v, q3, x⟩ := r.get q1
      refine ⟨v, ?_, x⟩
      unfold L2.start
      rw [List.getElem?_append_left (by rw [List.length_map, ← r.length]; exact hi), List.getElem?_map, q3]; rfl
    · rw [List.getElem?_append_right (by rw [List.length_map]; omega)] at q
      have := List.mem_of_getElem? q
      rw [List.mem_replicate] at this
      cases this.2
  cur := fun i c a q => by rw [hc] at q; cases q
/-- a def keeps its promise, if its body reads as b -/
theorem fn_ok {P : Program} {w : World} {K : PySem.W.Frag} {mg : Str → Option Value} {base : Heap} {G : Cf} {x qual : Str} {params : Arguments} {body : List Stmt} {scope : Scope} {dvs : List V} {kws : List (Str × V)} {f : Addr} {fd : FuncData} {N ps : List Str} {k : Nat} {b : FS} (hcu : G.cur = none)
    (F0 : FunD K x qual params body scope dvs kws f fd) (S0 : FnScope N ps scope)
    (hb : ∀ (cdv : Value) (A : Around) (outer : List Env) (s : Shared) (H : Hp) (E : XK), Room k (A.deeper (envOfC qual scope s.heap.objs.size f cdv)) →
      PSs (cxOf (L2.CX P w) P w K mg base N qual scope f cdv A outer s H E) body (tS G (fun cls d _ H => E cls d H) b)) :
    FnOk P w K mg base (L2.CX P w) (k + 1) f fd ps (spD G (bodyF N.length ps.length b)) := by
  refine F0.ok S0 (fun vs H Q E h => ?_) (fun cdv A outer s H vs Q E hr h => ⟨_, hb cdv A outer s H E hr, ?_⟩)
  · obtain ⟨S, h, ds, R, r, P⟩ := h
    unfold bodyF at P
    by_cases c : ds.length = ps.length
    · rw [← r.length]; exact c
    · rw [if_neg c] at P; exact P.elim
  · obtain ⟨S, h, ds, R, r, P⟩ := h
    refine ⟨S, h, startE N.length ds, R, start_at r hcu, ?_⟩
    unfold bodyF at P
    by_cases c : ds.length = ps.length
    · rw [if_pos c] at P
      cases q : b (startE N.length ds) h with
      | nx e h1 => rw [q] at P; exact fun S' H' σ' n R' _ => P S' H' .non n R' .non
      | rt d h1 => rw [q] at P; exact fun S' H' v n R' x => P S' H' v n R' x
      | exc c fs e h1 => rw [q] at P; exact fun S' H' σ' d n R' _ x => P S' H' d n R' x
      | bk _ _ => rw [q] at P; exact P.elim
      | ct _ _ => rw [q] at P; exact P.elim
      | fail => rw [q] at P; exact P.elim
    · rw [if_neg c] at P; exact P.elim

/-! ### frozen -/
mutual
def frzD (g : Nat → Option D) : D → Option D
  | .tup l => (frzDs g l).map .tup
  | .lst l => (frzDs g l).map .lst
  | .dct l => (frzDk g l).map .dct
  | .ins c l => (frzDf g l).map (.ins c)
  | .ref i => g i
  | .non => some .non
  | .bl b => some (.bl b)
  | .int i => some (.int i)
  | .str x => some (.str x)
  | .scr l => some (.scr l)
def frzDs (g : Nat → Option D) : List D → Option (List D)
  | [] => some []
  | d :: l => match frzD g d, frzDs g l with
    | some x, some xs => some (x :: xs)
    | _, _ => none
def frzDk (g : Nat → Option D) : List (Key × D) → Option (List (Key × D))
  | [] => some []
  | (k, d) :: l => match frzD g d, frzDk g l with
    | some x, some xs => some ((k, x) :: xs)
    | _, _ => none
def frzDf (g : Nat → Option D) : List (Str × D) → Option (List (Str × D))
  | [] => some []
  | (k, d) :: l => match frzD g d, frzDf g l with
    | some x, some xs => some ((k, x) :: xs)
    | _, _ => none
end
def frzN : Nat → Hh → Nat → Option D
  | 0, _, _ => none
  | n + 1, h, i => match h[i]? with
    | some (.lst l) => (frzDs (frzN n h) l).map .lst
    | some (.dct l) => (frzDk (frzN n h) l).map .dct
    | some (.ins c l) => (frzDf (frzN n h) l).map (.ins c)
    | _ => none
def frz (h : Hh) (d : D) : Option D := frzD (frzN 8 h) d
section
variable {G : Cg} {S S' : Rho} {H : Hp} {h : Hh}
mutual
theorem frzD_at {g : Nat → Option D} (hB : ∀ b, S'.B b → S.B b) (hg : ∀ i d, g i = some d → i < S.n → VD G S' H d (.ref (S.r i))) : ∀ {d d' : D} {v : V}, VD G S H d v → frzD g d = some d' → VD G S' H d' v
  | _, _, _, .non, e => by cases e; exact .non
  | _, _, _, .bl b, e => by cases e; exact .bl b
  | _, _, _, .int b, e => by cases e; exact .int b
  | _, _, _, .str b, e => by cases e; exact .str b
  | _, d', _, .tup (l := l) a b, e => by
    have e2 : (frzDs g l).map D.tup = some d' := e
    obtain ⟨l', e3, rfl⟩ := Option.map_eq_some_iff.mp e2
    exact .tup a (frzDs_at hB hg b e3)
  | _, _, _, .scr a, e => by cases e; exact .scr a
  | _, d', _, .lst (l := l) a b c, e => by
    have e2 : (frzDs g l).map D.lst = some d' := e
    obtain ⟨l', e3, rfl⟩ := Option.map_eq_some_iff.mp e2
    exact .lst a (fun z => b (hB _ z)) (frzDs_at hB hg c e3)
  | _, d', _, .dct (l := l) a b c, e => by
    have e2 : (frzDk g l).map D.dct = some d' := e
    obtain ⟨l', e3, rfl⟩ := Option.map_eq_some_iff.mp e2
    exact .dct a (fun z => b (hB _ z)) (frzDk_at hB hg c e3)
  | _, d', _, .ins (c := c) (fs := l) a b r, e => by
    have e2 : (frzDf g l).map (D.ins c) = some d' := e
    obtain ⟨l', e3, rfl⟩ := Option.map_eq_some_iff.mp e2
    exact .ins a (fun z => b (hB _ z)) (frzDf_at hB hg r e3)
  | _, _, _, .ref hi, e => hg _ _ e hi
theorem frzDs_at {g : Nat → Option D} (hB : ∀ b, S'.B b → S.B b) (hg : ∀ i d, g i = some d → i < S.n → VD G S' H d (.ref (S.r i))) : ∀ {d d' : List D} {v : List V}, VDs G S H d v → frzDs g d = some d' → VDs G S' H d' v
  | _, _, _, .nil, e => by cases e; exact .nil
  | _, d', _, .cons (d := d) (l := l) a t, e => by
    have e2 : (match frzD g d, frzDs g l with | some x, some xs => some (x :: xs) | _, _ => none) = some d' := e
    split at e2
    · rename_i x xs q1 q2
      cases e2
      exact .cons (frzD_at hB hg a q1) (frzDs_at hB hg t q2)
    · cases e2
theorem frzDk_at {g : Nat → Option D} (hB : ∀ b, S'.B b → S.B b) (hg : ∀ i d, g i = some d → i < S.n → VD G S' H d (.ref (S.r i))) : ∀ {d d' : List (Key × D)} {v : List (Key × V)}, VDk G S H d v → frzDk g d = some d' → VDk G S' H d' v
  | _, _, _, .nil, e => by cases e; exact .nil
  | _, d', _, .cons (k := k) (d := d) (l := l) a t, e => by
    have e2 : (match frzD g d, frzDk g l with | some x, some xs => some ((k, x) :: xs) | _, _ => none) = some d' := e
    split at e2
    · rename_i x xs q1 q2
      cases e2
      exact .cons (frzD_at hB hg a q1) (frzDk_at hB hg t q2)
    · cases e2
theorem frzDf_at {g : Nat → Option D} (hB : ∀ b, S'.B b → S.B b) (hg : ∀ i d, g i = some d → i < S.n → VD G S' H d (.ref (S.r i))) : ∀ {d d' : List (Str × D)} {v : List (Str × V)}, VDf G S H d v → frzDf g d = some d' → VDf G S' H d' v
  | _, _, _, .nil, e => by cases e; exact .nil
  | _, d', _, .cons (k := k) (d := d) (l := l) a t, e => by
    have e2 : (match frzD g d, frzDf g l with | some x, some xs => some ((k, x) :: xs) | _, _ => none) = some d' := e
    split at e2
    · rename_i x xs q1 q2
      cases e2
      exact .cons (frzD_at hB hg a q1) (frzDf_at hB hg t q2)
    · cases e2
end
theorem frzN_at (R : Rel G S h H) (hB : ∀ b, S'.B b → S.B b) (hn : ∀ i, i < S.n → ¬ S'.B (S.r i)) : ∀ (n i : Nat) (d : D), frzN n h i = some d → i < S.n → VD G S' H d (.ref (S.r i))
  | 0, _, _, e, _ => by cases e
  | n + 1, i, d, e, hi => by
    unfold frzN at e
    split at e
    · rename_i l q
      obtain ⟨l', e3, rfl⟩ := Option.map_eq_some_iff.mp e
      cases R.obj i _ q with
      | lst q r => exact .lst q (hn i hi) (frzDs_at hB (frzN_at R hB hn n) r e3)
    · rename_i l q
      obtain ⟨l', e3, rfl⟩ := Option.map_eq_some_iff.mp e
      cases R.obj i _ q with
      | dct q r => exact .dct (.inl q) (hn i hi) (frzDk_at hB (frzN_at R hB hn n) r e3)
    · rename_i c l q
      obtain ⟨l', e3, rfl⟩ := Option.map_eq_some_iff.mp e
      cases R.obj i _ q with
      | ins q r => exact .ins q (hn i hi) (frzDf_at hB (frzN_at R hB hn n) r e3)
    · cases e
theorem frz_at (R : Rel G S h H) (hB : ∀ b, S'.B b → S.B b) (hn : ∀ i, i < S.n → ¬ S'.B (S.r i)) {d d' : D} {v : V} (x : VD G S H d v) (e : frz h d = some d') : VD G S' H d' v := frzD_at hB (frzN_at R hB hn 8) x e
end
/-- a call whose arguments hold no ref: it has a heap of its own, and its result is frozen -/
def noRef (d : D) : Bool := match frzD (fun _ => none) d with
  | some _ => true
  | none => false
def noRefs (l : List D) : Bool := match frzDs (fun _ => none) l with
  | some _ => true
  | none => false
mutual
theorem frzD_id {g : Nat → Option D} : ∀ {d d' : D}, frzD (fun _ => none) d = some d' → frzD g d = some d
  | .non, _, _ => rfl
  | .bl _, _, _ => rfl
  | .int _, _, _ => rfl
  | .str _, _, _ => rfl
  | .scr _, _, _ => rfl
  | .ref i, _, e => by cases e
  | .tup l, d', e => by
    have e2 : (frzDs (fun _ => none) l).map D.tup = some d' := e
    obtain ⟨l', e3, rfl⟩ := Option.map_eq_some_iff.mp e2
    show (frzDs g l).map D.tup = _
    rw [frzDs_id e3]; rfl
  | .lst l, d', e => by
    have e2 : (frzDs (fun _ => none) l).map D.lst = some d' := e
    obtain ⟨l', e3, rfl⟩ := Option.map_eq_some_iff.mp e2
    show (frzDs g l).map D.lst = _
    rw [frzDs_id e3]; rfl
  | .dct l, d', e => by
    have e2 : (frzDk (fun _ => none) l).map D.dct = some d' := e
    obtain ⟨l', e3, rfl⟩ := Option.map_eq_some_iff.mp e2
    show (frzDk g l).map D.dct = _
    rw [frzDk_id e3]; rfl
  | .ins c l, d', e => by
    have e2 : (frzDf (fun _ => none) l).map (D.ins c) = some d' := e
    obtain ⟨l', e3, rfl⟩ := Option.map_eq_some_iff.mp e2
    show (frzDf g l).map (D.ins c) = _
    rw [frzDf_id e3]; rfl
theorem frzDs_id {g : Nat → Option D} : ∀ {d d' : List D}, frzDs (fun _ => none) d = some d' → frzDs g d = some d
  | [], _, _ => rfl
  | d :: l, d', e => by
    have e2 : (match frzD (fun _ => none) d, frzDs (fun _ => none) l with | some x, some xs => some (x :: xs) | _, _ => none) = some d' := e
    split at e2
    · rename_i x xs q1 q2
      show (match frzD g d, frzDs g l with | some x, some xs => some (x :: xs) | _, _ => none) = _
      rw [frzD_id q1, frzDs_id q2]
    · cases e2
theorem frzDk_id {g : Nat → Option D} : ∀ {d d' : List (Key × D)}, frzDk (fun _ => none) d = some d' → frzDk g d = some d
  | [], _, _ => rfl
  | (k, d) :: l, d', e => by
    have e2 : (match frzD (fun _ => none) d, frzDk (fun _ => none) l with | some x, some xs => some ((k, x) :: xs) | _, _ => none) = some d' := e
    split at e2
    · rename_i x xs q1 q2
      show (match frzD g d, frzDk g l with | some x, some xs => some ((k, x) :: xs) | _, _ => none) = _
      rw [frzD_id q1, frzDk_id q2]
    · cases e2
theorem frzDf_id {g : Nat → Option D} : ∀ {d d' : List (Str × D)}, frzDf (fun _ => none) d = some d' → frzDf g d = some d
  | [], _, _ => rfl
  | (k, d) :: l, d', e => by
    have e2 : (match frzD (fun _ => none) d, frzDf (fun _ => none) l with | some x, some xs => some ((k, x) :: xs) | _, _ => none) = some d' := e
    split at e2
    · rename_i x xs q1 q2
      show (match frzD g d, frzDf g l with | some x, some xs => some ((k, x) :: xs) | _, _ => none) = _
      rw [frzD_id q1, frzDf_id q2]
    · cases e2
end
mutual
/-- numbers, texts, None, and tuples of these -/
def immD : D → Bool
  | .non => true
  | .bl _ => true
  | .int _ => true
  | .str _ => true
  | .tup l => immDs l
  | _ => false
def immDs : List D → Bool
  | [] => true
  | d :: l => immD d && immDs l
end
mutual
theorem imm_at {G : Cg} {S S' : Rho} {H : Hp} : ∀ (d : D) {v : V}, VD G S H d v → immD d = true → VD G S' H d v
  | .non, _, x, _ => by cases x; exact .non
  | .bl b, _, x, _ => by cases x; exact .bl b
  | .int i, _, x, _ => by cases x; exact .int i
  | .str s, _, x, _ => by cases x; exact .str s
  | .tup l, _, x, h => by
    cases x with
    | tup a r => exact .tup a (imms_at l r h)
  | .scr _, _, _, h => by cases h
  | .lst _, _, _, h => by cases h
  | .dct _, _, _, h => by cases h
  | .ins _ _, _, _, h => by cases h
  | .ref _, _, _, h => by cases h
theorem imms_at {G : Cg} {S S' : Rho} {H : Hp} : ∀ (d : List D) {v : List V}, VDs G S H d v → immDs d = true → VDs G S' H d v
  | [], _, x, _ => by cases x; exact .nil
  | d :: l, _, x, h => by
    cases x with
    | cons a r =>
      have h2 : (immD d && immDs l) = true := h
      obtain ⟨h3, h4⟩ := Bool.and_eq_true_iff.mp h2
      exact .cons (imm_at d a h3) (imms_at l r h4)
end
/-! what is new alone: no frozen list, dict, instance -/
mutual
def nfD : D → Bool
  | .lst _ => false
  | .dct _ => false
  | .ins _ _ => false
  | .scr _ => false
  | .tup l => nfDs l
  | _ => true
def nfDs : List D → Bool
  | [] => true
  | d :: l => nfD d && nfDs l
end
def nfO : O → Bool
  | .lst l => nfDs l
  | .dct l => l.all fun p => nfD p.2
  | .ins _ l => l.all fun p => nfD p.2
  | .lck _ => false
section
variable {G : Cg} {S S' : Rho} {H : Hp} {h : Hh}
mutual
theorem nfD_at {g : Nat → Option D} (hg : ∀ i d, g i = some d → i < S.n → VD G S' H d (.ref (S.r i))) : ∀ {d d' : D} {v : V}, VD G S H d v → frzD g d = some d' → nfD d = true → VD G S' H d' v
  | _, _, _, .non, e, _ => by cases e; exact .non
  | _, _, _, .bl b, e, _ => by cases e; exact .bl b
  | _, _, _, .int b, e, _ => by cases e; exact .int b
  | _, _, _, .str b, e, _ => by cases e; exact .str b
  | _, d', _, .tup (l := l) a b, e, n => by
    have e2 : (frzDs g l).map D.tup = some d' := e
    obtain ⟨l', e3, rfl⟩ := Option.map_eq_some_iff.mp e2
    exact .tup a (nfDs_at hg b e3 n)
  | _, _, _, .scr a, _, n => by cases n
  | _, d', _, .lst a b c, _, n => by cases n
  | _, d', _, .dct a b c, _, n => by cases n
  | _, d', _, .ins a b r, _, n => by cases n
  | _, _, _, .ref hi, e, _ => hg _ _ e hi
theorem nfDs_at {g : Nat → Option D} (hg : ∀ i d, g i = some d → i < S.n → VD G S' H d (.ref (S.r i))) : ∀ {d d' : List D} {v : List V}, VDs G S H d v → frzDs g d = some d' → nfDs d = true → VDs G S' H d' v
  | _, _, _, .nil, e, _ => by cases e; exact .nil
  | _, d', _, .cons (d := d) (l := l) a t, e, n => by
    have e2 : (match frzD g d, frzDs g l with | some x, some xs => some (x :: xs) | _, _ => none) = some d' := e
    have n2 : (nfD d && nfDs l) = true := n
    obtain ⟨n3, n4⟩ := Bool.and_eq_true_iff.mp n2
    split at e2
    · rename_i x xs q1 q2
      cases e2
      exact .cons (nfD_at hg a q1 n3) (nfDs_at hg t q2 n4)
    · cases e2
end
theorem nfDk_at {g : Nat → Option D} (hg : ∀ i d, g i = some d → i < S.n → VD G S' H d (.ref (S.r i))) : ∀ {d d' : List (Key × D)} {v : List (Key × V)}, VDk G S H d v → frzDk g d = some d' → (d.all fun p => nfD p.2) = true → VDk G S' H d' v
  | _, _, _, .nil, e, _ => by cases e; exact .nil
  | _, d', _, .cons (k := k) (d := d) (l := l) a t, e, n => by
    have e2 : (match frzD g d, frzDk g l with | some x, some xs => some ((k, x) :: xs) | _, _ => none) = some d' := e
    rw [List.all_cons] at n
    obtain ⟨n3, n4⟩ := Bool.and_eq_true_iff.mp n
    split at e2
    · rename_i x xs q1 q2
      cases e2
      exact .cons (nfD_at hg a q1 n3) (nfDk_at hg t q2 n4)
    · cases e2
theorem nfDf_at {g : Nat → Option D} (hg : ∀ i d, g i = some d → i < S.n → VD G S' H d (.ref (S.r i))) : ∀ {d d' : List (Str × D)} {v : List (Str × V)}, VDf G S H d v → frzDf g d = some d' → (d.all fun p => nfD p.2) = true → VDf G S' H d' v
  | _, _, _, .nil, e, _ => by cases e; exact .nil
  | _, d', _, .cons (k := k) (d := d) (l := l) a t, e, n => by
    have e2 : (match frzD g d, frzDf g l with | some x, some xs => some ((k, x) :: xs) | _, _ => none) = some d' := e
    rw [List.all_cons] at n
    obtain ⟨n3, n4⟩ := Bool.and_eq_true_iff.mp n
    split at e2
    · rename_i x xs q1 q2
      cases e2
      exact .cons (nfD_at hg a q1 n3) (nfDf_at hg t q2 n4)
    · cases e2
theorem nfN_at (R : Rel G S h H) (hn : ∀ i, i < S.n → ¬ S'.B (S.r i)) (hf : ∀ o ∈ h, nfO o = true) : ∀ (n i : Nat) (d : D), frzN n h i = some d → i < S.n → VD G S' H d (.ref (S.r i))
  | 0, _, _, e, _ => by cases e
  | n + 1, i, d, e, hi => by
    unfold frzN at e
    split at e
    · rename_i l q
      obtain ⟨l', e3, rfl⟩ := Option.map_eq_some_iff.mp e
      cases R.obj i _ q with
      | lst q1 r => exact .lst q1 (hn i hi) (nfDs_at (nfN_at R hn hf n) r e3 (hf _ (List.mem_of_getElem? q)))
    · rename_i l q
      obtain ⟨l', e3, rfl⟩ := Option.map_eq_some_iff.mp e
      cases R.obj i _ q with
      | dct q1 r => exact .dct (.inl q1) (hn i hi) (nfDk_at (nfN_at R hn hf n) r e3 (hf _ (List.mem_of_getElem? q)))
    · rename_i c l q
      obtain ⟨l', e3, rfl⟩ := Option.map_eq_some_iff.mp e
      cases R.obj i _ q with
      | ins q1 r => exact .ins q1 (hn i hi) (nfDf_at (nfN_at R hn hf n) r e3 (hf _ (List.mem_of_getElem? q)))
    · cases e
end
def pureC (f : FC) : FC := fun ds h => if noRefs ds = true then match f ds [] with
  | .ok d h' => match frz h' d with
    | some d' => .ok d' h
    | none => .fail
  | .exc c [] _ => .exc c [] h
  | _ => .fail else match frzDs (frzN 8 h) ds with
    | some ds' => match f ds' [] with
      | .ok d h' => if immD d = true then .ok d h else if (h'.all nfO && nfD d) = true then (match frz h' d with
        | some d' => .ok d' h
        | none => .fail) else .fail
      | .exc c [] _ => .exc c [] h
      | _ => .fail
    | none => .fail
/-- a heap of one's own -/
def Rho.own (S : Rho) : Rho := ⟨S.r, 0, S.B⟩
theorem own_rel {G : Cg} {S : Rho} {h : Hh} {H : Hp} (R : Rel G S h H) : Rel G S.own [] H := ⟨rfl, fun i hi => absurd hi (Nat.not_lt_zero _), fun i _ hi => absurd hi (Nat.not_lt_zero _), R.live, fun i o e => by simp at e⟩
theorem own_vals {G : Cg} {S : Rho} {H : Hp} {ds : List D} {vs : List V} (r : VDs G S H ds vs) (c : noRefs ds = true) : VDs G S.own H ds vs := by
  unfold noRefs at c
  split at c
  · rename_i l e
    exact frzDs_at (S := S) (S' := S.own) (g := fun _ => none) (fun _ z => z) (fun _ _ z => by cases z) r (frzDs_id e)
  · cases c
/-- behind a call with a heap of its own -/
theorem own_back {G : Cg} {S S1 : Rho} {h h1 : Hh} {H H1 : Hp} {d d' : D} {v : V} (R : Rel G S h H) (N : Nx G S.own H S1 H1) (R1 : Rel G S1 h1 H1) (x : VD G S1 H1 d v) (e : frz h1 d = some d') : Nx G S H S H1 ∧ Rel G S h H1 ∧ VD G S H1 d' v := by
  have k : ∀ b u, H b = some u → H1 b = some u := fun b u q => N.keep b u (fun i hi => absurd hi (Nat.not_lt_zero _)) q
  refine ⟨.same k, R.same k, frz_at (S := S1) (S' := S) R1 (fun b z => N.up b z) (fun i hi z => ?_) x e⟩
  exact R.live _ z (N.new i (Nat.zero_le _) hi)
/-- a heap of one's own, where nothing is one's own yet -/
def Rho.bare (S : Rho) : Rho := ⟨S.r, 0, fun _ => False⟩
theorem bare_rel {G : Cg} {S : Rho} {H : Hp} : Rel G S.bare [] H := ⟨rfl, fun i hi => absurd hi (Nat.not_lt_zero _), fun i _ hi => absurd hi (Nat.not_lt_zero _), fun _ z => z.elim, fun i o e => by simp at e⟩
theorem bare_vals {G : Cg} {S : Rho} {h : Hh} {H : Hp} (R : Rel G S h H) {ds ds' : List D} {vs : List V} (r : VDs G S H ds vs) (e : frzDs (frzN 8 h) ds = some ds') : VDs G S.bare H ds' vs :=
  frzDs_at (S := S) (S' := S.bare) (fun _ z => z.elim) (frzN_at R (S' := S.bare) (fun _ z => z.elim) (fun _ _ z => z) 8) r e
theorem pure_imp {G : Cg} {f : FC} {vs : List V} {H : Hp} {Q : VK} {E : XK} (q : spD G (pureC f) vs H Q E) : spD G f vs H Q E := by
  obtain ⟨S, h, ds, R, r, P⟩ := q
  unfold pureC at P
  by_cases c : noRefs ds = true
  · rw [if_pos c] at P
    refine ⟨S.own, [], ds, own_rel R, own_vals r c, ?_⟩
    cases e : f ds [] with
    | ok d h' =>
      rw [e] at P
      simp only at P
      cases e2 : frz h' d with
      | none => rw [e2] at P; exact P.elim
      | some d' =>
        rw [e2] at P
        intro S1 H1 v N R1 x
        obtain ⟨n, r1, x1⟩ := own_back R N R1 x e2
        exact P S H1 v n r1 x1
    | exc cc fs h' =>
      rw [e] at P
      cases fs with
      | nil =>
        intro S1 H1 d N R1 x
        have k : ∀ b u, H b = some u → H1 b = some u := fun b u q => N.keep b u (fun i hi => absurd hi (Nat.not_lt_zero _)) q
        rcases x with ⟨_, rfl⟩ | ⟨ne, _⟩
        · exact P S H1 none (.same k) (R.same k) (.inl ⟨rfl, rfl⟩)
        · exact absurd rfl ne
      | cons _ _ => exact P.elim
    | fail => rw [e] at P; exact P.elim
  · rw [if_neg c] at P
    cases e0 : frzDs (frzN 8 h) ds with
    | none => rw [e0] at P; exact P.elim
    | some ds' =>
      rw [e0] at P
      simp only at P
      refine ⟨S.bare, [], ds', bare_rel, bare_vals R r e0, ?_⟩
      cases e : f ds' [] with
      | ok d h' =>
        rw [e] at P
        simp only at P
        by_cases im : immD d = true
        · rw [if_pos im] at P
          intro S1 H1 v N R1 x
          have k : ∀ b u, H b = some u → H1 b = some u := fun b u q => N.keep b u (fun i hi => absurd hi (Nat.not_lt_zero _)) q
          exact P S H1 v (.same k) (R.same k) (imm_at d x im)
        · rw [if_neg im] at P
          by_cases nf : (h'.all nfO && nfD d) = true
          · rw [if_pos nf] at P
            obtain ⟨n1, n2⟩ := Bool.and_eq_true_iff.mp nf
            cases e2 : frz h' d with
            | none => rw [e2] at P; exact P.elim
            | some d' =>
              rw [e2] at P
              intro S1 H1 v N R1 x
              have k : ∀ b u, H b = some u → H1 b = some u := fun b u q => N.keep b u (fun i hi => absurd hi (Nat.not_lt_zero _)) q
              have hn : ∀ i, i < S1.n → ¬ S.B (S1.r i) := fun i hi z => R.live _ z (N.new i (Nat.zero_le _) hi)
              exact P S H1 v (.same k) (R.same k) (nfD_at (nfN_at R1 hn (fun o ho => List.all_eq_true.mp n1 o ho) 8) x e2 n2)
          · rw [if_neg nf] at P; exact P.elim
      | exc cc fs h' =>
        rw [e] at P
        cases fs with
        | nil =>
          intro S1 H1 d N R1 x
          have k : ∀ b u, H b = some u → H1 b = some u := fun b u q => N.keep b u (fun i hi => absurd hi (Nat.not_lt_zero _)) q
          rcases x with ⟨_, rfl⟩ | ⟨ne, _⟩
          · exact P S H1 none (.same k) (R.same k) (.inl ⟨rfl, rfl⟩)
          · exact absurd rfl ne
        | cons _ _ => exact P.elim
      | fail => rw [e] at P; exact P.elim
end Sb

/-! Sb9: calls, makings, raise, try. -/
namespace Sb
open L2 PySem PySem.Spec PyProof.Rows
/-! ### calls of defs -/
/-- the def at fa may be called at level k with n values: dd stands for its defaults behind these -/
structure Cal (G : Cg) (P : Program) (w : World) (mg : Str → Option Value) (base : Heap) (k : Nat) (fa : Addr) (n : Nat) (dd : List D) (f : FC) : Prop where
  ok : ∃ fd ps ds dvs, FnOk P w G.K mg base (L2.CX P w) k fa fd ps (spD G f) ∧ Binds G.K fd ps ds ∧ Vals dvs ds ∧ (∀ S H, VDs G S H dd dvs) ∧ n + dd.length = ps.length
  kp : PySem.W.keepIn G.K (.ref fa) = true
theorem Cal.pure {G : Cg} {P : Program} {w : World} {mg : Str → Option Value} {base : Heap} {k : Nat} {fa : Addr} {n : Nat} {dd : List D} {f : FC} (c : Cal G P w mg base k fa n dd f) : Cal G P w mg base k fa n dd (pureC f) := by
  obtain ⟨⟨fd, ps, ds, dvs, F, b, v, dv, l⟩, kp⟩ := c
  exact ⟨⟨fd, ps, ds, dvs, F.imp fun _ _ _ _ q => pure_imp q, b, v, dv, l⟩, kp⟩
theorem Cal.mono {G : Cg} {P : Program} {w : World} {mg : Str → Option Value} {base : Heap} {j k : Nat} {fa : Addr} {n : Nat} {dd : List D} {f : FC} (c : Cal G P w mg base j fa n dd f) (h : j ≤ k) : Cal G P w mg base k fa n dd f := by
  obtain ⟨⟨fd, ps, ds, dvs, F, b, v, dv, l⟩, kp⟩ := c
  exact ⟨⟨fd, ps, ds, dvs, F.mono h, b, v, dv, l⟩, kp⟩
def dCl (r : F (List D)) (f : FC) (dd : List D) : F D := fun e h => (r e h).bind fun ds h1 => f (ds ++ dd) h1
/-- what a call may let out, at the slots -/
theorem pass_at {X : Cx} {W : WX} (tk : Takes X W) (σ : L2.St) : PassesAt (L2.CX X.prog X.w) X σ (fun c d H => W c d σ H) := fun _ _ _ e s' I c => tk e s' (XE.of_call I (fun _ _ _ h => h) c)
section
variable {X : Cx} {G : Cf} {W : WX} {e o : Expr} {es : List Expr} {g : F D} {r : F (List D)} {f : FC} {dd : List D} {k n : Nat} {fa : Addr} {x m : Str} {p pos apos : Pos}
/-- the def is run -/
theorem run_cal (hK : G.K = X.K) (C : Cal G X.prog X.w X.mg X.base k fa n dd f) (hr : Room k X.A) (tk : Takes X W) {pins : List (Addr × Obj)} {s : Shared} {σ : L2.St} {S : Rho} {h : Hh} {H : Hp} {ds : List D} {vs : List V} {us : List Value} {Q : VK} (I : Inv X pins σ H s) (R : Rel G S h H) (rv : Vals vs us) (v : VDs G S H ds vs)
    (P : Pst G (fun c d H => W c d σ H) S H (relV G) (f (ds ++ dd) h) Q) : wpAny (model X.prog X.w) X.A (call (.ref fa) us) (EP X pins σ Q) X.xe s := by
  obtain ⟨⟨fd, ps, dss, dvs, F0, hb, hd, hv, _⟩, _⟩ := C
  rw [hK] at F0 hb
  exact run_fnSD (E := fun σ c d H => W c d σ H) F0 hr hb hd (pass_at tk σ) I rv ⟨S, h, ds ++ dd, R, v.append (hv S H), P⟩
theorem e_call (hK : G.K = X.K) (C : Cal G X.prog X.w X.mg X.base k fa n dd f) (hr : Room k X.A) (hg : Gl X x) (hm : X.mg x = some (.ref fa)) (tk : Takes X W) (ha : PA X (e :: es) (tA G W r)) (hdb : (x == ("__debug__" : Str)) = false) (hs : (e :: es).all noStar = true) :
    PE X (.Call (.Name x p) (e :: es) [] pos) (tE G W (dCl r f dd)) := by
  refine ⟨fun pins s σ H Q I q => ?_⟩
  have h2 : noStar e = true ∧ es.all noStar = true := Bool.and_eq_true_iff.mp hs
  have kp := C.kp
  rw [hK] at kp
  obtain ⟨S, h, en, R, E, P⟩ := q
  refine wpAny_Call_Name_kw (ld_glob I hg hm ?_ hdb)
  refine PySem.W.callWith_K (h₀ := X.base) I.ok.mod.kin kp (thn (ha.run pos pins s σ H (fun vs H1 => ∃ S1 h1 ds, Rel G S1 h1 H1 ∧ VDs G S1 H1 ds vs ∧ Pst G (fun c d H => W c d σ H) S1 H1 (relV G) (f (ds ++ dd) h1) Q) I
    ⟨S, h, en, R, E, P.bind fun ds h1 S1 H1 vs _ N1 R1 v1 P1 => ⟨S1, h1, ds, R1, v1, P1⟩⟩) fun us s1 ⟨vs, H1, I1, rv, S1, h1, ds, R1, v1, P1⟩ => ⟨I1.kIn, ?_⟩) (star_of h2.1 _ _) (stars_of h2.2)
  exact run_cal hK C hr tk I1 R1 rv v1 P1
theorem e_call0 (hK : G.K = X.K) (C : Cal G X.prog X.w X.mg X.base k fa n dd f) (hr : Room k X.A) (hg : Gl X x) (hm : X.mg x = some (.ref fa)) (tk : Takes X W) (hdb : (x == ("__debug__" : Str)) = false) :
    PE X (.Call (.Name x p) [] [] pos) (tE G W (dCl dNil f dd)) := by
  refine ⟨fun pins s σ H Q I q => ?_⟩
  have kp := C.kp
  rw [hK] at kp
  obtain ⟨S, h, en, R, E, P⟩ := q
  refine wpAny_Call_Name_kw (ld_glob I hg hm ?_ hdb)
  exact PySem.W.callWith_K0 I.kIn kp (run_cal hK C hr tk I R .nil .nil P)
/-! ### methods of instances -/
/-- M c: the method of the c-th class: its def, its defaults, the values that are handed in behind self -/
def dMe (g : F D) (r : F (List D)) (M : Nat → Option (FC × List D)) (m : Str) : F D := fun e h => (g e h).bind fun x h1 => match insAt h1 x with
  | some (c, fs) => match M c with
    | some (f, dd) => if (fs.lookup m).isNone = true then (r e h1).bind fun ds h2 => f ((x :: ds) ++ dd) h2 else .fail
    | none => .fail
  | none => .fail
def MOk (X : Cx) (G : Cg) (k : Nat) (m : Str) (n : Nat) (M : Nat → Option (FC × List D)) : Prop := ∀ c f dd, M c = some (f, dd) → ∃ fa, Cls G.K (G.cad c) ∧ Meth G.K (G.cad c) m fa ∧ Cal G X.prog X.w X.mg X.base k fa n dd f
theorem meth_form (hb : okBase o = true) (hl : (apos.endLine == pos.line) = true) (hs : es.all noStar = true) (hn : es.length < 20) (env : Env) : eval (.Call (.Attribute o m apos) es [] pos) env = (do
    let ov ← eval o env
    standAt apos.atName
    let (f, first) ← holding [ov] (getMethod ov m (do return (← importBound o env).getD true))
    callWith pos f first (backTo pos (starEach es env)) (backToKw pos (keywordEach [] env))) := by
  have hf : methodCallForm (es.length + ([] : List Keyword).length) (backTo pos (starEach es env)) (backToKw pos (keywordEach [] env)) = true := by
    unfold methodCallForm
    have h1 := few_of (env := env) (cpos := pos) hs
    rw [h1]
    show (true && true && decide (es.length + 0 + 0 < 30)) = true
    rw [decide_eq_true (by omega)]
    rfl
  rw [arm_eval_Call, base_of hb]
  unfold methodCall calleeOf methodCallPos
  rw [hf, hl]
  simp only [if_true, Bool.not_true, Bool.false_or, pure_bind]
theorem e_me (hK : G.K = X.K) {M : Nat → Option (FC × List D)} (hM : MOk X G k m (n + 1) M) (hr : Room k X.A) (tk : Takes X W) (ho : PE X o (tE G W g)) (ha : PA X (e :: es) (tA G W r)) (hb : okBase o = true) (hl : (apos.endLine == pos.line) = true) (hs : (e :: es).all noStar = true) (hn : es.length < 18) :
    PE X (.Call (.Attribute o m apos) (e :: es) [] pos) (tE G W (dMe g r M m)) := by
  refine ⟨fun pins s σ H Q I q => ?_⟩
  have h2 : noStar e = true ∧ es.all noStar = true := Bool.and_eq_true_iff.mp hs
  obtain ⟨S, h, en, R, E, P⟩ := q
  refine PySem.W.methodCall_KW (thn (ho.run pins s σ H (fun x H1 => ∃ a c dx gs f dd fa, x = .ref a ∧ H1 a = some (.ins (G.cad c) dx gs) ∧ M c = some (f, dd) ∧ gs.lookup m = none ∧ Cls G.K (G.cad c) ∧ Meth G.K (G.cad c) m fa ∧ Cal G X.prog X.w X.mg X.base k fa (n + 1) dd f ∧
    tA G W r σ H1 (fun vs H2 => ∃ S2 h2 ds, Rel G S2 h2 H2 ∧ VDs G S2 H2 ds (.ref a :: vs) ∧ Pst G (fun c d H => W c d σ H) S2 H2 (relV G) (f (ds ++ dd) h2) Q)) I
    ⟨S, h, en, R, E, P.bind fun x h1 S1 H1 v _ N1 R1 v1 P1 => ?_⟩) fun u s1 ⟨x, H1, I1, rx, a, c, dx, gs, f, dd, fa, ex, ea, eM, l, k1, k2, k3, q⟩ => ?_) (meth_form hb hl hs (by simp only [List.length_cons]; omega) _)
  · split at P1
    · rename_i c fs qi
      split at P1
      · rename_i f dd qm
        obtain ⟨a, dx, gs, rfl, ha', rf⟩ := insAt_at R1 v1 qi
        obtain ⟨fa, k1, k2, k3⟩ := hM c f dd qm
        by_cases ql : (fs.lookup m).isNone = true
        · rw [if_pos ql] at P1
          have ql2 : fs.lookup m = none := Option.isNone_iff_eq_none.mp ql
          have gl : gs.lookup m = none := by
            rcases rf.get m with ⟨_, e2⟩ | ⟨d, w, e1, _, _⟩
            · exact e2
            · rw [ql2] at e1; cases e1
          exact ⟨a, c, dx, gs, f, dd, fa, rfl, ha', qm, gl, k1, k2, k3, S1, h1, en, R1, E.mono N1 R.bad, P1.bind fun ds h2 S2 H2 vs _ N2 R2 v2 P2 => ⟨S2, h2, x :: ds, R2, .cons (v1.mono N2 R1.bad) v2, P2⟩⟩
        · rw [if_neg ql] at P1; exact P1.elim
      · exact P1.elim
    · exact P1.elim
  · subst ex
    obtain rfl : u = Value.ref a := rx
    rw [hK] at k1 k2
    refine getmeth_ok I1 ea k1 k2 l ?_
    refine PySem.W.callWith_K (first := [.ref a]) (h₀ := X.base) I.ok.mod.kin k2.kp (thn (ha.run pos pins s1 σ H1 _ I1 q) fun us s2 ⟨vs, H2, I2, rv, S2, h2, ds, R2, v2, P2⟩ => ⟨I2.kIn, ?_⟩) (star_of h2.1 _ _) (stars_of h2.2)
    exact run_cal hK k3 hr tk I2 R2 (vs := .ref a :: vs) (.cons rfl rv) v2 P2
theorem e_me0 (hK : G.K = X.K) {M : Nat → Option (FC × List D)} (hM : MOk X G k m n M) (hr : Room k X.A) (tk : Takes X W) (ho : PE X o (tE G W g)) (hb : okBase o = true) (hl : (apos.endLine == pos.line) = true) :
    PE X (.Call (.Attribute o m apos) [] [] pos) (tE G W (dMe g dNil M m)) := by
  refine ⟨fun pins s σ H Q I q => ?_⟩
  obtain ⟨S, h, en, R, E, P⟩ := q
  refine PySem.W.methodCall_KW (thn (ho.run pins s σ H (fun x H1 => ∃ a c dx gs f dd fa, x = .ref a ∧ H1 a = some (.ins (G.cad c) dx gs) ∧ M c = some (f, dd) ∧ gs.lookup m = none ∧ Cls G.K (G.cad c) ∧ Meth G.K (G.cad c) m fa ∧ Cal G X.prog X.w X.mg X.base k fa n dd f ∧
    ∃ S2 h2 d, Rel G S2 h2 H1 ∧ VD G S2 H1 d (.ref a) ∧ Pst G (fun c d H => W c d σ H) S2 H1 (relV G) (f ([d] ++ dd) h2) Q) I
    ⟨S, h, en, R, E, P.bind fun x h1 S1 H1 v _ N1 R1 v1 P1 => ?_⟩) fun u s1 ⟨x, H1, I1, rx, a, c, dx, gs, f, dd, fa, ex, ea, eM, l, k1, k2, k3, S2, h2, d, R2, v2, P2⟩ => ?_) (meth_form hb hl rfl (by simp) _)
  · split at P1
    · rename_i c fs qi
      split at P1
      · rename_i f dd qm
        obtain ⟨a, dx, gs, rfl, ha', rf⟩ := insAt_at R1 v1 qi
        obtain ⟨fa, k1, k2, k3⟩ := hM c f dd qm
        by_cases ql : (fs.lookup m).isNone = true
        · rw [if_pos ql] at P1
          have ql2 : fs.lookup m = none := Option.isNone_iff_eq_none.mp ql
          have gl : gs.lookup m = none := by
            rcases rf.get m with ⟨_, e2⟩ | ⟨d, w, e1, _, _⟩
            · exact e2
            · rw [ql2] at e1; cases e1
          exact ⟨a, c, dx, gs, f, dd, fa, rfl, ha', qm, gl, k1, k2, k3, S1, h1, x, R1, v1, P1⟩
        · rw [if_neg ql] at P1; exact P1.elim
      · exact P1.elim
    · exact P1.elim
  · subst ex
    obtain rfl : u = Value.ref a := rx
    rw [hK] at k1 k2
    refine getmeth_ok I1 ea k1 k2 l ?_
    exact PySem.W.callWith_K0 (first := [.ref a]) I1.kIn k2.kp (run_cal hK k3 hr tk I1 R2 (vs := [.ref a]) (.cons rfl .nil) (.cons v2 .nil) P2)
/-! ### making -/
def mkC (c : Nat) (f : FC) (dd : List D) : FC := fun ds h => match f ((.ref h.length :: ds) ++ dd) (h ++ [.ins c []]) with
  | .ok .non h' => .ok (.ref h.length) h'
  | .exc k fs h' => .exc k fs h'
  | _ => .fail
/-- with a heap of its own, frozen -/
def mkP (c : Nat) (f : FC) (dd : List D) : FC := pureC (mkC c f dd)
theorem new_ins {G : Cg} {S : Rho} {h : Hh} {H : Hp} {x dx : Addr} {c : Nat} (R : Rel G S h H) (hx : H x = none) (hdx : H dx = none) (ne : dx ≠ x) :
    Nx G S H (S.push x) (upd (upd H dx (.own x)) x (.ins (G.cad c) dx [])) ∧ Rel G (S.push x) (h ++ [.ins c []]) (upd (upd H dx (.own x)) x (.ins (G.cad c) dx [])) ∧ VD G (S.push x) (upd (upd H dx (.own x)) x (.ins (G.cad c) dx [])) (.ref h.length) (.ref x) := by
  have k1 := keeps_new (o := .own x) hdx
  have hx2 : (upd H dx (.own x)) x = none := by rw [upd_ne (Ne.symm ne)]; exact hx
  have R1 : Rel G S h (upd H dx (.own x)) := R.same k1
  obtain ⟨n, r, v⟩ := new_ref R1 hx2 (u := .ins (G.cad c) dx []) (o := .ins c []) (.ins upd_same .nil)
  exact ⟨(Nx.same k1).trans n, r, v⟩
/-- C(..) -/
theorem run_mk (hK : G.K = X.K) {c : Nat} {fi : Addr} (M : Mk X.K (G.cad c) fi) (C : Cal G X.prog X.w X.mg X.base k fi n dd f) (hr : Room (k + 1) X.A) (tk : Takes X W) {pins : List (Addr × Obj)} {s : Shared} {σ : L2.St} {S : Rho} {h : Hh} {H : Hp} {ds : List D} {vs : List V} {us : List Value} {Q : VK} (I : Inv X pins σ H s) (R : Rel G S h H) (rv : Vals vs us) (v : VDs G S H ds vs)
    (P : Pst G (fun c d H => W c d σ H) S H (relV G) (mkC c f dd ds h) Q) : wpAny (model X.prog X.w) X.A (call (.ref (G.cad c)) us) (EP X pins σ Q) X.xe s := by
  obtain ⟨⟨fd, ps, dss, dvs, F0, hb, hd, hv, _⟩, _⟩ := C
  rw [hK] at F0 hb
  have fx := I.hok.fresh (Nat.le_succ s.heap.objs.size)
  have fdx := I.hok.fresh (Nat.le_refl s.heap.objs.size)
  obtain ⟨N1, R1, v1⟩ := new_ins (c := c) R fx fdx (Nat.ne_of_lt (Nat.lt_succ_self _))
  have I2 := Inv.made (C := G.cad c) I
  have va := VDs.append (VDs.cons v1 (v.mono N1 R.bad)) (hv _ _)
  have hsp : spD G f ((V.ref (s.heap.objs.size + 1) :: vs) ++ dvs) (upd (upd H s.heap.objs.size (.own (s.heap.objs.size + 1))) (s.heap.objs.size + 1) (.ins (G.cad c) s.heap.objs.size [])) (fun v H2 => v = .non ∧ Q (.ref (s.heap.objs.size + 1)) H2) (fun c d H => W c d σ H) := by
    refine ⟨_, _, _, R1, va, ?_⟩
    unfold mkC at P
    cases q : f ((.ref h.length :: ds) ++ dd) (h ++ [.ins c []]) with
    | ok d h' =>
      rw [q] at P
      cases d with
      | non =>
        intro S2 H2 w N2 R2 x2
        cases x2
        refine ⟨rfl, P S2 H2 _ (N1.trans N2) R2 (v1.mono N2 R1.bad)⟩
      | _ => exact P.elim
    | exc c2 fs h' => rw [q] at P; exact fun S2 H2 d N2 R2 x2 => P S2 H2 d (N1.trans N2) R2 x2
    | fail => rw [q] at P; exact P.elim
  have r2 : Vals ((V.ref (s.heap.objs.size + 1) :: vs) ++ dvs) ((Value.ref (s.heap.objs.size + 1) :: us) ++ dss) := Vals.append (Paired.cons (show RelV (V.ref (s.heap.objs.size + 1)) (Value.ref (s.heap.objs.size + 1)) from rfl) rv) hd
  have hl : ((Value.ref (s.heap.objs.size + 1) :: us) ++ dss).length = ps.length := by
    have z := r2.length
    rw [F0.len _ _ _ _ hsp] at z
    exact z.symm
  refine wpAny_call (make_map (f := fi) I.kIn M.makes M.init (beq_iff_eq.mp M.fn) (codeAny_mono (F0.run _ X.stack _ _ ⟨Value.ref (s.heap.objs.size + 1) :: us, []⟩ _ _ _ _ (hr.make (G.cad c) us []) (I2.env0.make (G.cad c) us []) (hb _ (Value.ref (s.heap.objs.size + 1) :: us) I2.kIn hl) r2 hsp) fun r s' hq' => ?_))
  cases r with
  | error z => exact pass_at tk σ pins _ _ z s' I2 hq'
  | ok fl =>
    cases fl with
    | ret u =>
      obtain ⟨w, H', I3, rw', ev, q3⟩ := I2.after hq'
      subst ev
      exact ⟨rw', ⟨V.ref (s.heap.objs.size + 1), H', I3, rfl, q3⟩⟩
    | next => exact False.elim hq'
    | brk => exact False.elim hq'
    | cont => exact False.elim hq'
/-- the same with a heap of its own -/
theorem run_mkp (hK : G.K = X.K) {c : Nat} {fi : Addr} (M : Mk X.K (G.cad c) fi) (C : Cal G X.prog X.w X.mg X.base k fi n dd f) (hr : Room (k + 1) X.A) (tk : Takes X W) {pins : List (Addr × Obj)} {s : Shared} {σ : L2.St} {S : Rho} {h : Hh} {H : Hp} {ds : List D} {vs : List V} {us : List Value} {Q : VK} (I : Inv X pins σ H s) (R : Rel G S h H) (rv : Vals vs us) (v : VDs G S H ds vs)
    (P : Pst G (fun c d H => W c d σ H) S H (relV G) (mkP c f dd ds h) Q) : wpAny (model X.prog X.w) X.A (call (.ref (G.cad c)) us) (EP X pins σ Q) X.xe s := by
  have z : spD G (pureC (mkC c f dd)) vs H Q (fun c d H => W c d σ H) := ⟨S, h, ds, R, v, P⟩
  obtain ⟨S', h', ds', R', v', P'⟩ := pure_imp z
  exact run_mk hK M C hr tk I R' rv v' P'
/-- F: the making by either way -/
theorem e_mk (hK : G.K = X.K) {c : Nat} {kp : PySem.W.keepIn X.K (.ref (G.cad c)) = true} {f : FC} (hrun : ∀ {pins : List (Addr × Obj)} {s : Shared} {σ : L2.St} {S : Rho} {h : Hh} {H : Hp} {ds : List D} {vs : List V} {us : List Value} {Q : VK}, Inv X pins σ H s → Rel G S h H → Vals vs us → VDs G S H ds vs →
      Pst G (fun c d H => W c d σ H) S H (relV G) (f ds h) Q → wpAny (model X.prog X.w) X.A (call (.ref (G.cad c)) us) (EP X pins σ Q) X.xe s) (hg : Gl X x) (hm : X.mg x = some (.ref (G.cad c))) (ha : PA X (e :: es) (tA G W r)) (hdb : (x == ("__debug__" : Str)) = false) (hs : (e :: es).all noStar = true) :
    PE X (.Call (.Name x p) (e :: es) [] pos) (tE G W (dCl r f [])) := by
  refine ⟨fun pins s σ H Q I q => ?_⟩
  have h2 : noStar e = true ∧ es.all noStar = true := Bool.and_eq_true_iff.mp hs
  obtain ⟨S, h, en, R, E, P⟩ := q
  refine wpAny_Call_Name_kw (ld_glob I hg hm ?_ hdb)
  refine PySem.W.callWith_K (h₀ := X.base) I.ok.mod.kin kp (thn (ha.run pos pins s σ H (fun vs H1 => ∃ S1 h1 ds, Rel G S1 h1 H1 ∧ VDs G S1 H1 ds vs ∧ Pst G (fun c d H => W c d σ H) S1 H1 (relV G) (f ds h1) Q) I
    ⟨S, h, en, R, E, P.bind fun ds h1 S1 H1 vs _ N1 R1 v1 P1 => ⟨S1, h1, ds, R1, v1, by rw [List.append_nil] at P1; exact P1⟩⟩) fun us s1 ⟨vs, H1, I1, rv, S1, h1, ds, R1, v1, P1⟩ => ⟨I1.kIn, ?_⟩) (star_of h2.1 _ _) (stars_of h2.2)
  exact hrun I1 R1 rv v1 P1
theorem e_mk0 (hK : G.K = X.K) {c : Nat} {kp : PySem.W.keepIn X.K (.ref (G.cad c)) = true} {f : FC} (hrun : ∀ {pins : List (Addr × Obj)} {s : Shared} {σ : L2.St} {S : Rho} {h : Hh} {H : Hp} {ds : List D} {vs : List V} {us : List Value} {Q : VK}, Inv X pins σ H s → Rel G S h H → Vals vs us → VDs G S H ds vs →
      Pst G (fun c d H => W c d σ H) S H (relV G) (f ds h) Q → wpAny (model X.prog X.w) X.A (call (.ref (G.cad c)) us) (EP X pins σ Q) X.xe s) (hg : Gl X x) (hm : X.mg x = some (.ref (G.cad c))) (hdb : (x == ("__debug__" : Str)) = false) :
    PE X (.Call (.Name x p) [] [] pos) (tE G W (dCl dNil f [])) := by
  refine ⟨fun pins s σ H Q I q => ?_⟩
  obtain ⟨S, h, en, R, E, P⟩ := q
  refine wpAny_Call_Name_kw (ld_glob I hg hm ?_ hdb)
  exact PySem.W.callWith_K0 I.kIn kp (hrun I R .nil .nil P)
end
/-! ### raise -/
def sRaise (c : Nat) : FS := fun e h => .exc c [] e h
structure ExC (G : Cg) (c : Nat) : Prop where
  xC : PySem.W.excIn G.K (G.cad c) He.veBase "ValueError.__new__" = true
  kC : PySem.W.keepIn G.K (.ref (G.cad c)) = true
  sC : PySem.W.subIn G.K (.ref (G.cad c)) (.type "BaseException") = some true
  tC : PySem.W.typeIn G.K (.ref (G.cad c)) = some (.type "type")
theorem s_raise {X : Cx} {G : Cf} {W : WX} {c : Nat} {x m : Str} {j : Nat} {p p2 pos pos' : Pos} (hK : G.K = X.K) (hc : X.calm = true) (tk : Takes X W) (C : ExC G c) (hg : Gl X x) (hm : X.mg x = some (.ref (G.cad c))) (hdb : (x == ("__debug__" : Str)) = false) :
    PS X (.Raise (some (.Call (.Name x p) [.Constant (.str m) j p2] [] pos)) none pos') (tS G W (sRaise c)) := by
  obtain ⟨c1, c2, c3, c4⟩ := C
  rw [hK] at c1 c2 c3 c4
  exact PS.imp (ps_raise hc tk (pmk_own PySem.F.excBase_ValueError c1 hm c2 (raises_own c3 c4) hg hdb)) fun Z σ H ⟨S, h, e, R, E, P⟩ => P S H σ none .refl R E (.inl ⟨rfl, rfl⟩)
/-! ### try -/
/-- su c: the suite for an exception of the c-th class; none: the clause lets it pass -/
def sTry (b : FS) (i : Option Nat) (su : Nat → Option FS) : FS := fun e h => match b e h with
  | .exc c fs e1 h1 => match su c with
    | some s => s (match i with | some i => e1.set i none | none => e1) h1
    | none => .exc c fs e1 h1
  | r => r
def Cf.at_ (G : Cf) (q : Option (Nat × Nat × Addr)) : Cf := ⟨G.toCg, q⟩
theorem EnR.uncur {G : Cf} {S : Rho} {H : Hp} {e : En} {σ : L2.St} {q : Option (Nat × Nat × Addr)} (E : EnR (G.at_ q) S H e σ) (hc : G.cur = none) : EnR G S H e σ := ⟨E.len, E.at_, fun i c a z => by rw [hc] at z; cases z⟩
/-- a suite's end, put back to the try's -/
theorem PstS.uncur {G : Cf} {W : WX} {q : Option (Nat × Nat × Addr)} {S : Rho} {H : Hp} {r : RS} {Z Z' : Ends} (hc : G.cur = none) (P : PstS G W S H r Z) (hx : ∀ c fs e h, r ≠ .exc c fs e h)
    (f : ∀ S' H' e σ', EnR (G.at_ q) S' H' e σ' → EnR G S' H' e σ' → (Z.nx σ' H' → Z'.nx σ' H') ∧ (Z.bk σ' H' → Z'.bk σ' H') ∧ (Z.ct σ' H' → Z'.ct σ' H')) (fr : ∀ v H', Z.rt v H' → Z'.rt v H') : PstS (G.at_ q) W0 S H r Z' := by
  cases r with
  | nx e h => exact fun S' H' σ' n R E => (f S' H' e σ' E (E.uncur hc)).1 (P S' H' σ' n R (E.uncur hc))
  | rt d h => exact fun S' H' v n R E => fr _ _ (P S' H' v n R E)
  | bk e h => exact fun S' H' σ' n R E => (f S' H' e σ' E (E.uncur hc)).2.1 (P S' H' σ' n R (E.uncur hc))
  | ct e h => exact fun S' H' σ' n R E => (f S' H' e σ' E (E.uncur hc)).2.2 (P S' H' σ' n R (E.uncur hc))
  | exc c fs e h => exact absurd rfl (hx c fs e h)
  | fail => exact P.elim
/-- which classes a clause takes -/
structure ClauseOk (G : Cg) (cH : Value) (c : Nat) (b : Bool) : Prop where
  is : PySem.W.exmOne G.K (.ref (G.cad c)) cH = some b
/-- a suite raises nothing -/
def calmS (s : FS) : FS := fun e h => match s e h with
  | .exc _ _ _ _ => .fail
  | r => r
theorem calm_no (s : FS) (e : En) (h : Hh) : ∀ c fs e' h', calmS s e h ≠ .exc c fs e' h' := by
  intro c fs e' h'
  unfold calmS
  split <;> simp_all
/-- try: .. except X: .. -/
theorem s_try {X : Cx} {G : Cf} {W : WX} {x : Str} {cH : Value} {body suite : List Stmt} {b₀ : Stmt} {np pos pos' : Pos} {fb : FS} {su : Nat → Option FS} (hcu : G.cur = none) (hK : G.K = X.K) (hs : X.stack = X.env :: X.outer) (hf : X.env.frame = some X.env.locals) (hn : Names X x cH) (tk : Takes X W)
    (hsu : ∀ c, (∃ s, su c = some (calmS s) ∧ PySem.W.exmOne X.K (.ref (G.cad c)) cH = some true ∧ ∀ (a : Addr) (oe : Obj) (d : Option Addr) (pn : List (Addr × Obj)), Zc (.ref (G.cad c)) d oe → (∃ vs, oe.data = .fields vs) → PSs (X.suite a ((a, oe) :: pn)) (b₀ :: suite) (tS G W0 s)) ∨
      (su c = none ∧ PySem.W.exmOne X.K (.ref (G.cad c)) cH = some false) ∨ su c = some sNever)
    (hb : ∀ (W' : WX) (pn : List (Addr × Obj)) (xe : Value → Shared → Prop), Takes (X.tr pn xe) W' → PassesOwn (model X.prog X.w) X.A X.env xe → PSs (X.tr pn xe) body (tS G W' fb)) :
    PS X (.Try body [.ExceptHandler (some (.Name x np)) none (b₀ :: suite) pos'] [] [] pos) (tS G W (sTry fb none su)) := by
  refine PS.imp (ps_try_only (ts := fun a cls d Z σ H => ∃ c s, cls = .ref (G.cad c) ∧ su c = some (calmS s) ∧ (∀ (a : Addr) (oe : Obj) (d : Option Addr) (pn : List (Addr × Obj)), Zc (.ref (G.cad c)) d oe → (∃ vs, oe.data = .fields vs) → PSs (X.suite a ((a, oe) :: pn)) (b₀ :: suite) (tS G W0 s)) ∧ tS G W0 s Z σ H)
    hs hf hn tk hb (fun a oe cls d pn hz hd => ⟨fun pins s σ H Z I ⟨c, s', ec, _, hp, q⟩ => ?_⟩)) fun Z σ H ⟨S, h, e, R, E, P⟩ => ?_
  · subst ec
    exact (hp a oe d pn hz hd).run pins s σ H Z I q
  · refine ⟨S, h, e, R, E, ?_⟩
    unfold sTry at P
    cases q : fb e h with
    | nx e1 h1 => rw [q] at P; exact P
    | rt d h1 => rw [q] at P; exact P
    | bk e1 h1 => rw [q] at P; exact P
    | ct e1 h1 => rw [q] at P; exact P
    | fail => rw [q] at P; exact P
    | exc c fs e1 h1 =>
      rw [q] at P
      simp only at P
      intro S' H' σ' d N R' E' xd
      rcases hsu c with ⟨s, e2, e3, hp⟩ | ⟨e2, e3⟩ | e2
      · rw [e2] at P
        refine ⟨true, e3, fun _ a ha => ⟨c, s, rfl, e2, hp, S', h1, e1, R', E', ?_⟩, fun z => (by cases z)⟩
        have P2 := PstS.mono (r := calmS s e1 h1) P N
        have nx := calm_no s e1 h1
        unfold calmS at P2
        cases qs : s e1 h1 with
        | nx e5 h5 => rw [qs] at P2; exact P2
        | rt _ _ => rw [qs] at P2; exact P2
        | bk _ _ => rw [qs] at P2; exact P2
        | ct _ _ => rw [qs] at P2; exact P2
        | exc _ _ _ _ => rw [qs] at P2; exact P2.elim
        | fail => rw [qs] at P2; exact P2.elim
      · rw [e2] at P
        exact ⟨false, e3, fun z => (by cases z), fun _ => P S' H' σ' d N R' E' xd⟩
      · rw [e2] at P; exact P.elim
end Sb

/-! Sb10: try with any clauses, with names or without; isinstance of the exception in hand. -/
namespace Sb
open L2 PySem PySem.Spec PyProof.Rows
abbrev SuT := Addr → Value → Option Addr → TS
/-- a clause: what it takes, its name's slot, its suite -/
structure Clz where
  c : Value
  i : Option Nat
  ts : SuT
def Ends.off (Z : Ends) (i : Nat) : Ends := { nx := fun τ J => Z.nx (τ.set i none) J, rt := Z.rt, bk := fun τ J => Z.bk (τ.set i none) J, ct := fun τ J => Z.ct (τ.set i none) J }
def Clz.go (q : Clz) (Z : Ends) : WX := fun cls d τ J => ∀ a, J a = none → match q.i with
  | none => q.ts a cls d Z τ J
  | some i => q.ts a cls d (Ends.off Z i) (τ.set i (some (.ref a))) J
def wClz (K : PySem.W.Frag) (Wo : WX) (Z : Ends) : List Clz → WX
  | [] => Wo
  | q :: r => fun cls d τ J => ∃ b, PySem.W.exmOne K cls q.c = some b ∧ (b = true → q.go Z cls d τ J) ∧ (b = false → wClz K Wo Z r cls d τ J)
def wLen (X : Cx) (W : WX) : WX := fun cls d τ J => τ.length = X.N.length → W cls d τ J
def SuOk (X : Cx) (b₀ : Stmt) (rest : List Stmt) (ts : SuT) : Prop := ∀ (a : Addr) (ob : Obj) (cls : Value) (d : Option Addr) (pn : List (Addr × Obj)), Zc cls d ob → (∃ z, ob.data = .fields z) → PSs (X.suite a ((a, ob) :: pn)) (b₀ :: rest) (ts a cls d)
inductive ClzOk (X : Cx) : List ExceptHandler → List Clz → Prop
  | nil : ClzOk X [] []
  | only {x : Str} {c : Value} {ts : SuT} {b₀ : Stmt} {rest : List Stmt} {p p' : Pos} {hh : List ExceptHandler} {l : List Clz} : Names X x c → SuOk X b₀ rest ts → ClzOk X hh l → ClzOk X (.ExceptHandler (some (.Name x p)) none (b₀ :: rest) p' :: hh) (⟨c, none, ts⟩ :: l)
  | as {x n : Str} {c : Value} {i : Nat} {ts : SuT} {b₀ : Stmt} {rest : List Stmt} {p p' : Pos} {hh : List ExceptHandler} {l : List Clz} : Names X x c → X.N[i]? = some n → X.env.kindOf n = some .local → SuOk X b₀ rest ts → ClzOk X hh l →
      ClzOk X (.ExceptHandler (some (.Name x p)) (some n) (b₀ :: rest) p' :: hh) (⟨c, some i, ts⟩ :: l)
section
variable {X : Cx} {body : List Stmt} {h₀ : ExceptHandler} {hh : List ExceptHandler} {l : List Clz} {pos : Pos} {tb : WX → TS} {Wo : WX}
theorem ps_try_clz (e1 : X.stack = X.env :: X.outer) (e2 : X.env.frame = some X.env.locals) (nd : X.N.Nodup) (tk : Takes X Wo)
    (hb : ∀ (W : WX) (pn : List (Addr × Obj)) (xe : Value → Shared → Prop), Takes (X.tr pn xe) W → PassesOwn (model X.prog X.w) X.A X.env xe → PSs (X.tr pn xe) body (tb W))
    (hk : ClzOk X (h₀ :: hh) l) : PS X (.Try body (h₀ :: hh) [] [] pos) (fun Z τ J => tb (wLen X (wClz X.K Wo Z l)) Z τ J) := by
  refine ⟨fun pins s τ J Z I q => ?_⟩
  have okx := I.ok
  have frx : X.A.frames = some (X.env :: X.outer) := okx.frames.trans (congrArg some e1)
  refine wpAny_Try_except ?_
  refine wpAny_mono ((hb (wLen X (wClz X.K Wo Z l)) (X.pn ++ pins) (fun z t₁ => wpAny (model X.prog X.w) X.A (noteFrame z X.env) (fun _ t₂ => wpAny (model X.prog X.w) X.A (setFlight z none) (fun _ t₃ =>
    wpAny (model X.prog X.w) X.A (handleBy z X.env (h₀ :: hh)) (SP X pins Z) X.xe t₃) X.xe t₂) X.xe t₁) (fun u t xx => ?_) PassesOwn.looking).run [] s τ J Z (I.toTry _) q) (fun fl t hsp => ?_) (fun z t hz => hz)
  · obtain ⟨a, B, tI, pins', τ', J', cls, d, rfl, I0, nb, upx, sky, na, os, ag, wq⟩ := xx
    have I1 : L2.Inv X pins τ' J' tI := I0.ofTry okx
    have sky2 : Sky B (X.env :: X.outer) a (Zc cls d) X.env.locals t.heap := e1 ▸ sky
    show wpAny (model X.prog X.w) X.A (noteFrame (.ref a) X.env) _ _ _
    refine Sky.land Zc.steady frx e2 sky2 fun g3 F3 U3 => ?_
    have I3 : L2.Inv X pins τ' J' { t with heap := g3 } := I1.landed nb F3.1 (upx.trans U3) os ag
    obtain ⟨o3, z3, at3, zc3, da3⟩ := F3.there
    have apart : ∀ {g : Heap} {ob : Obj} {z : Array Value}, g.FunFrames B (X.env :: X.outer) → g.get? a = some ob → ob.data = .fields z → a ∉ frs (X.env :: X.outer) := fun {g ob z} ff ea ed hm => by
      obtain ⟨_, ob', ea', nof⟩ := ff.mem hm
      rw [ea] at ea'
      cases ea'
      exact nof _ ed
    have nfr := apart F3.2.2.1 at3 da3
    have nL : a ≠ X.env.locals := fun z => nfr (List.mem_filterMap.mpr ⟨X.env, List.mem_cons_self, by rw [e2, z]⟩)
    have nF : a ∉ X.fs := fun hm => by
      obtain ⟨ev, hv, qv⟩ := List.mem_filterMap.mp hm
      exact nfr (List.mem_filterMap.mpr ⟨ev, List.mem_cons_of_mem _ hv, qv⟩)
    have S3 := I3.suite at3 da3 na nL nF
    -- the clauses, one by one
    have go : ∀ {hs' : List ExceptHandler} {l' : List Clz}, ClzOk X hs' l' → wClz X.K Wo Z l' cls d τ' J' →
        wpAny (model X.prog X.w) X.A (handleBy (.ref a) X.env hs') (SP X pins Z) X.xe { t with heap := g3 } := by
      intro hs' l' hq
      have LT : PySem.W.Looks (model X.prog X.w) g3 (typeOf (.ref a)) cls := fun A Q E s k y => wpAny_typeOf_ref (k _ _ at3) (by rw [zc3.1]; exact y)
      have test : ∀ {x : Str} {c : Value} {p : Pos} {Q : Value → Shared → Prop} {E : Value → Shared → Prop}, Names X x c → Q c { t with heap := g3 } → wpAny (model X.prog X.w) (X.A.mark (some (.ref a))) (eval (.Name x p) X.env) Q E { t with heap := g3 } := fun {x c p Q E} hc y => by
        obtain ⟨gl, dbg, hm | ⟨hm, hv, nn⟩⟩ := hc
        · exact ld_glob (X := X.suite a ((a, o3) :: (X.pn ++ pins))) S3 gl hm y dbg
        · exact ld_blt (X := X.suite a ((a, o3) :: (X.pn ++ pins))) S3 gl hm hv y nn dbg
      induction hq with
      | nil =>
        intro wl
        refine wpAny_handleBy_nil ?_
        obtain ⟨k1, k2, k3, ob, z, T, oT, zt, hat, hz, hda, h1, hr⟩ := id F3
        unfold PySem.passOn
        refine wpAny_bind (wpAny_field hat hda h1 ?_)
        rw [if_neg (show ¬ ((Value.ref T == Value.none) = true) from by simp)]
        have fin : wpAny (model X.prog X.w) X.A (setFlight (.ref a) X.env.frame) (fun _ t4 => wpAny (model X.prog X.w) X.A (throw (.ref a) : Sem Flow) (SP X pins Z) X.xe t4) X.xe { t with heap := g3 } := by
          rw [e2]
          refine HandSPX.setFlight_upZ F3 fun g4 F4 U4 => wpAny_throw (tk _ _ ?_)
          exact ⟨a, B, tI, pins, τ', J', cls, d, rfl, I1, nb, (upx.trans U3).trans U4, .inr (.inr (e1.symm ▸ F4)), na, os, ag, wl⟩
        first
          | exact wpAny_bind (wpAny_pure (wpAny_bind fin))
          | exact wpAny_bind fin
      | @only x c ts b₀ rest p p' hh2 l2 hc su r ih =>
        intro wl
        obtain ⟨b, hb1, yes, no⟩ := wl
        refine wpAny_handleBy_cons (codeAny_handlers_test ?_) (by intro y; cases y)
        have LM := PySem.W.exm_one (M := model X.prog X.w) (I3.kIn) LT hb1
        refine test hc (LM.here ?_)
        cases b with
        | true =>
          refine codeAny_handlers_suite ?_
          refine HandSPX.lands_againZ F3 fun g4 F4 U4 => ?_
          have I4 : L2.Inv X pins τ' J' { t with heap := g4 } := I1.landed nb F4.1 ((upx.trans U3).trans U4) os ag
          obtain ⟨o4, z4, at4, zc4, da4⟩ := F4.there
          have S4 := I4.suite at4 da4 na nL nF
          refine wpAny_mono ((su a o4 cls d (X.pn ++ pins) zc4 ⟨_, da4⟩).run [] _ _ J' _ S4 (yes rfl a na)) (fun fl t6 hsp => ?_) (fun _ _ z => False.elim z)
          cases fl with
          | next =>
            obtain ⟨τ6, J6, S6, q6⟩ := hsp
            exact ⟨_, _, S6.unsuite okx, q6⟩
          | brk =>
            obtain ⟨τ6, J6, S6, q6⟩ := hsp
            exact ⟨_, _, S6.unsuite okx, q6⟩
          | cont =>
            obtain ⟨τ6, J6, S6, q6⟩ := hsp
            exact ⟨_, _, S6.unsuite okx, q6⟩
          | ret u =>
            obtain ⟨v6, τ6, J6, S6, r6, q6⟩ := hsp
            exact ⟨_, _, _, S6.unsuite okx, r6, q6⟩
        | false =>
          show wpAny _ X.A (handleBy (.ref a) X.env hh2) _ _ _
          exact ih (no rfl)
      | @as x n c i ts b₀ rest p p' hh2 l2 hc hi hln su r ih =>
        intro wl
        obtain ⟨b, hb1, yes, no⟩ := wl
        have lcl : Loc X.env.scope n := .inl hln
        refine wpAny_handleBy_cons (codeAny_handlers_test ?_) (by intro y; cases y)
        have LM := PySem.W.exm_one (M := model X.prog X.w) (I3.kIn) LT hb1
        refine test hc (LM.here ?_)
        cases b with
        | true =>
          refine codeAny_handlers_suite_as ?_
          refine HandSPX.lands_againZ F3 fun g4 F4 U4 => ?_
          have I4 : L2.Inv X pins τ' J' { t with heap := g4 } := I1.landed nb F4.1 ((upx.trans U3).trans U4) os ag
          obtain ⟨o4, z4, at4, zc4, da4⟩ := F4.there
          have S4 := I4.suite at4 da4 na nL nF
          refine store_ok (X := X.suite a ((a, o4) :: (X.pn ++ pins))) (v := .ref a) S4 nd hi lcl rfl (fun t5 S5 => ?_) (.inr hln)
          refine wpAny_mono ((su a o4 cls d (X.pn ++ pins) zc4 ⟨_, da4⟩).run [] t5 _ J' _ S5 (yes rfl a na)) (fun fl t6 hsp => ?_) (fun _ _ z => False.elim z)
          have shut : ∀ {τ6 : L2.St} {J6 : Hp} {Q : Shared → Prop}, L2.Inv (X.suite a ((a, o4) :: (X.pn ++ pins))) [] τ6 J6 t6 → (∀ t7, L2.Inv X pins (τ6.set i none) J6 t7 → Q t7) →
              wpAny (model X.prog X.w) X.A (do bindName X.env n .none; unbindBehindTheSuite X.env n p') (fun _ t7 => Q t7) X.xe t6 := fun {τ6 J6 Q} S6 hQ => gone_ok (S6.unsuite okx) nd hi hln hQ
          cases fl with
          | next =>
            obtain ⟨τ6, J6, S6, q6⟩ := hsp
            exact shut S6 fun t7 I7 => ⟨_, _, I7, q6⟩
          | brk =>
            obtain ⟨τ6, J6, S6, q6⟩ := hsp
            exact shut S6 fun t7 I7 => ⟨_, _, I7, q6⟩
          | cont =>
            obtain ⟨τ6, J6, S6, q6⟩ := hsp
            exact shut S6 fun t7 I7 => ⟨_, _, I7, q6⟩
          | ret u =>
            obtain ⟨v6, τ6, J6, S6, r6, q6⟩ := hsp
            exact shut S6 fun t7 I7 => ⟨_, _, _, I7, r6, q6⟩
        | false =>
          show wpAny _ X.A (handleBy (.ref a) X.env hh2) _ _ _
          exact ih (no rfl)
    exact go hk (wq I1.len)
  · cases fl with
    | next =>
      obtain ⟨τ', J', I', q'⟩ := hsp
      exact wpAny_execs_nil ⟨τ', J', I'.ofTry okx, q'⟩
    | brk =>
      obtain ⟨τ', J', I', q'⟩ := hsp
      exact ⟨τ', J', I'.ofTry okx, q'⟩
    | cont =>
      obtain ⟨τ', J', I', q'⟩ := hsp
      exact ⟨τ', J', I'.ofTry okx, q'⟩
    | ret u =>
      obtain ⟨v, τ', J', I', r', q'⟩ := hsp
      exact ⟨v, τ', J', I'.ofTry okx, r', q'⟩
end
/-! ### by denotations -/
/-- a clause: its name's slot; its suite for an exception of the c-th class (some none: it lets it pass; none: nothing is said) -/
structure DCl where
  i : Option Nat
  su : Nat → Option (Option FS)
def fitE (i : Option Nat) (e : En) : En := match i with
  | some i => e.set i none
  | none => e
def runCl : List DCl → Nat → List (Str × D) → FS
  | [], c, fs, e, h => .exc c fs e h
  | q :: l, c, fs, e, h => match q.su c with
    | some (some s) => if fs.isEmpty = true then (match calmS s (fitE q.i e) h with
      | .nx e1 h1 => .nx (fitE q.i e1) h1
      | .bk e1 h1 => .bk (fitE q.i e1) h1
      | .ct e1 h1 => .ct (fitE q.i e1) h1
      | r => r) else .fail
    | some none => runCl l c fs e h
    | none => .fail
def sTryN (b : FS) (l : List DCl) : FS := fun e h => match b e h with
  | .exc c fs e1 h1 => runCl l c fs e1 h1
  | r => r
def Cf.hand (G : Cf) (i : Option Nat) (c : Nat) (a : Addr) : Cf := ⟨G.toCg, i.map fun i => (i, c, a)⟩
theorem EnR.fit {G : Cf} {S : Rho} {H : Hp} {e : En} {σ : L2.St} {i : Nat} (E : EnR G S H e σ) (v : Option V) (hc : G.cur = none) : EnR G S H (e.set i none) (σ.set i v) where
  len := by rw [List.length_set, List.length_set]; exact E.len
  at_ := fun j d q => by
    by_cases hj : i = j
    · subst hj
      by_cases hl : i < e.length
      · rw [List.getElem?_set_self hl] at q; cases q
      · rw [List.getElem?_eq_none (by simpa using hl)] at q; cases q
    · rw [List.getElem?_set_ne hj] at q
      rw [List.getElem?_set_ne hj]
      exact E.at_ j d q
  cur := fun j c a q => by rw [hc] at q; cases q
theorem EnR.toHand {G : Cf} {S : Rho} {H : Hp} {e : En} {σ : L2.St} {i c : Nat} {a : Addr} (E : EnR G S H e σ) (hc : G.cur = none) (hi : i < e.length) : EnR (G.hand (some i) c a) S H (e.set i none) (σ.set i (some (.ref a))) :=
  ⟨(E.fit _ hc).len, (E.fit _ hc).at_, fun j c' a' q => by cases q; exact ⟨List.getElem?_set_self (by rw [← E.len]; exact hi), List.getElem?_set_self hi⟩⟩
theorem EnR.ofHand {G : Cf} {S : Rho} {H : Hp} {e : En} {σ : L2.St} {i : Option Nat} {c : Nat} {a : Addr} (E : EnR (G.hand i c a) S H e σ) (hc : G.cur = none) : EnR G S H e σ := ⟨E.len, E.at_, fun i c a z => by rw [hc] at z; cases z⟩
/-- a clause's syntax and what it means -/
inductive DClOk (X : Cx) (G : Cf) : List ExceptHandler → List DCl → List Clz → Prop
  | nil : DClOk X G [] [] []
  | cons {x : Str} {cH : Value} {nm : Option Str} {q : DCl} {b₀ : Stmt} {rest : List Stmt} {p p' : Pos} {hh : List ExceptHandler} {l : List DCl} {l' : List Clz} (hn : Names X x cH) (hnm : match nm, q.i with
      | none, none => True
      | some n, some i => X.N[i]? = some n ∧ X.env.kindOf n = some .local ∧ i < X.N.length
      | _, _ => False)
      (hs : ∀ c s, q.su c = some (some s) → PySem.W.exmOne X.K (.ref (G.cad c)) cH = some true ∧ ∀ (a : Addr) (ob : Obj) (pn : List (Addr × Obj)), Zc (.ref (G.cad c)) none ob → (∃ z, ob.data = .fields z) → PSs (X.suite a ((a, ob) :: pn)) (b₀ :: rest) (tS (G.hand q.i c a) W0 s))
      (hz : ∀ c, q.su c = some none → PySem.W.exmOne X.K (.ref (G.cad c)) cH = some false) (r : DClOk X G hh l l') :
      DClOk X G (.ExceptHandler (some (.Name x p)) nm (b₀ :: rest) p' :: hh) (q :: l) (⟨cH, q.i, fun a cls d Z σ H => ∃ c s, cls = .ref (G.cad c) ∧ d = none ∧ q.su c = some (some s) ∧ tS (G.hand q.i c a) W0 s Z σ H⟩ :: l')
theorem DClOk.clz {X : Cx} {G : Cf} : ∀ {hh : List ExceptHandler} {l : List DCl} {l' : List Clz}, DClOk X G hh l l' → ClzOk X hh l'
  | _, _, _, .nil => .nil
  | _, _, _, @DClOk.cons _ _ x cH nm q b₀ rest p p' hh l l' hn hnm hs hz r => by
    have su : SuOk X b₀ rest (fun a cls d Z σ H => ∃ c s, cls = .ref (G.cad c) ∧ d = none ∧ q.su c = some (some s) ∧ tS (G.hand q.i c a) W0 s Z σ H) := fun a ob cls d pn zc hd => ⟨fun pins s σ H Z I ⟨c, s', ec, ed, es, y⟩ => by
      subst ec
      subst ed
      exact ((hs c s' es).2 a ob pn zc hd).run pins s σ H Z I y⟩
    cases nm with
    | none =>
      cases e : q.i with
      | none => rw [e] at su; exact .only hn su r.clz
      | some i => rw [e] at hnm; exact hnm.elim
    | some n =>
      cases e : q.i with
      | none => rw [e] at hnm; exact hnm.elim
      | some i => rw [e] at hnm su; exact .as hn hnm.1 hnm.2.1 su r.clz
theorem run_clz {X : Cx} {G : Cf} {W : WX} (hcu : G.cur = none) {Z : Ends} : ∀ {hh : List ExceptHandler} {l : List DCl} {l' : List Clz}, DClOk X G hh l l' → ∀ {S : Rho} {h : Hh} {H : Hp} {e : En} {σ : L2.St} {c : Nat} {fs : List (Str × D)} {d : Option Addr},
    X.N.length = e.length → Rel G S h H → EnR G S H e σ → ExD G S H fs d → PstS G W S H (runCl l c fs e h) Z → wClz X.K W Z l' (.ref (G.cad c)) d σ H
  | _, _, _, .nil, S, h, H, e, σ, c, fs, d, _, R, E, x, P => P S H σ d .refl R E x
  | _, _, _, @DClOk.cons _ _ x cH nm q b₀ rest p p' hh l l' hn hnm hs hz r, S, h, H, e, σ, c, fs, d, hN, R, E, xd, P => by
    unfold runCl at P
    cases es : q.su c with
    | none => rw [es] at P; exact P.elim
    | some o =>
      rw [es] at P
      cases o with
      | none => exact ⟨false, hz c es, fun z => (by cases z), fun _ => run_clz hcu r hN R E xd P⟩
      | some s =>
        refine ⟨true, (hs c s es).1, fun _ a na => ?_, fun z => (by cases z)⟩
        simp only at P
        by_cases fe : fs.isEmpty = true
        rotate_left
        · rw [if_neg fe] at P; exact P.elim
        rw [if_pos fe] at P
        have dn : d = none := by
          rcases xd with ⟨_, z⟩ | ⟨ne, _⟩
          · exact z
          · exact absurd (List.isEmpty_iff.mp fe) ne
        have nx := calm_no s (fitE q.i e) h
        cases ei : q.i with
        | none =>
          rw [ei] at P nx
          refine ⟨c, s, rfl, dn, es, S, h, e, R, ?_, ?_⟩
          · exact ⟨E.len, E.at_, fun j c' a' y => by cases y⟩
          · have P2 : PstS G W S H (match calmS s e h with | .nx e1 h1 => .nx e1 h1 | .bk e1 h1 => .bk e1 h1 | .ct e1 h1 => .ct e1 h1 | r => r) Z := P
            unfold calmS at P2
            cases qs : s e h with
            | nx e5 h5 => rw [qs] at P2; exact fun S' H' σ' N R' E' => P2 S' H' σ' N R' (E'.ofHand hcu)
            | rt _ _ => rw [qs] at P2; exact P2
            | bk _ _ => rw [qs] at P2; exact fun S' H' σ' N R' E' => P2 S' H' σ' N R' (E'.ofHand hcu)
            | ct _ _ => rw [qs] at P2; exact fun S' H' σ' N R' E' => P2 S' H' σ' N R' (E'.ofHand hcu)
            | exc _ _ _ _ => rw [qs] at P2; exact P2.elim
            | fail => rw [qs] at P2; exact P2.elim
        | some i =>
          rw [ei] at P nx
          have hi : i < e.length := by
            cases nm with
            | none => rw [ei] at hnm; exact hnm.elim
            | some n => rw [ei] at hnm; rw [← hN]; exact hnm.2.2
          refine ⟨c, s, rfl, dn, es, S, h, e.set i none, R, ?_, ?_⟩
          · exact E.toHand hcu hi
          · have P2 : PstS G W S H (match calmS s (e.set i none) h with | .nx e1 h1 => .nx (e1.set i none) h1 | .bk e1 h1 => .bk (e1.set i none) h1 | .ct e1 h1 => .ct (e1.set i none) h1 | r => r) Z := P
            unfold calmS at P2
            cases qs : s (e.set i none) h with
            | nx e5 h5 => rw [qs] at P2; exact fun S' H' σ' N R' E' => P2 S' H' _ N R' ((E'.ofHand hcu).fit none hcu)
            | rt _ _ => rw [qs] at P2; exact P2
            | bk _ _ => rw [qs] at P2; exact fun S' H' σ' N R' E' => P2 S' H' _ N R' ((E'.ofHand hcu).fit none hcu)
            | ct _ _ => rw [qs] at P2; exact fun S' H' σ' N R' E' => P2 S' H' _ N R' ((E'.ofHand hcu).fit none hcu)
            | exc _ _ _ _ => rw [qs] at P2; exact P2.elim
            | fail => rw [qs] at P2; exact P2.elim
/-- try: .. except ..: the names' slots are among the frame's -/
theorem s_tryN {X : Cx} {G : Cf} {W : WX} {body : List Stmt} {h₀ : ExceptHandler} {hh : List ExceptHandler} {l : List DCl} {l' : List Clz} {pos : Pos} {fb : FS} (hcu : G.cur = none) (e1 : X.stack = X.env :: X.outer) (e2 : X.env.frame = some X.env.locals) (nd : X.N.Nodup) (tk : Takes X W)
    (hk : DClOk X G (h₀ :: hh) l l') (hb : ∀ (W' : WX) (pn : List (Addr × Obj)) (xe : Value → Shared → Prop), Takes (X.tr pn xe) W' → PassesOwn (model X.prog X.w) X.A X.env xe → PSs (X.tr pn xe) body (tS G W' fb)) :
    PS X (.Try body (h₀ :: hh) [] [] pos) (tS G W (sTryN fb l)) := by
  refine ⟨fun pins s σ H Z I ⟨S, h, e, R, E, P⟩ => ?_⟩
  refine (ps_try_clz e1 e2 nd tk (tb := fun W' Z σ H => tS G W' fb Z σ H) hb hk.clz).run pins s σ H Z I ⟨S, h, e, R, E, ?_⟩
  unfold sTryN at P
  cases q : fb e h with
  | nx e1 h1 => rw [q] at P; exact P
  | rt d h1 => rw [q] at P; exact P
  | bk e1 h1 => rw [q] at P; exact P
  | ct e1 h1 => rw [q] at P; exact P
  | fail => rw [q] at P; exact P
  | exc c fs e1 h1 =>
    rw [q] at P
    exact fun S' H' σ' d N R' E' xd hl => run_clz hcu hk (hl.symm.trans E'.len.symm) R' E' xd (PstS.mono (r := runCl l c fs e1 h1) P N)
/-! ### len(set(..)) of ints; {} -/
def opLset (h : Hh) (d : D) : Option D := match (asL h d).bind intsD with
  | some ns => if ns.length ≤ 1000 then some (.int (PyProof.Rows.firstMet (fun i => ns.getD i 0) ns.length).length) else none
  | none => none
theorem e_lset {X : Cx} {G : Cf} {W : WX} {a : Expr} {f : F D} {p p2 q pos : Pos} (hK : G.K = X.K) (hc : X.calm = true) (hg : Gl X "len") (hm : X.mg "len" = none) (hg2 : Gl X "set") (hm2 : X.mg "set" = none) (ha : PE X a (tE G W f)) (hs : noStar a = true) :
    PE X (.Call (.Name "len" p) [.Call (.Name "set" p2) [a] [] q] [] pos) (tE G W (dU f opLset)) := by
  have na : starEach [a] X.env = (false, eval a X.env) :: starEach [] X.env := star_of hs _ _
  refine ⟨fun pins s σ H Q I ⟨S, h, e, R, E, P⟩ => ?_⟩
  refine Call_ (ld_blt I hg hm boot_len ?_)
  refine PyProof.Rows.callWith_builtin1 (PyProof.Rows.args_cons ?_ rfl) rfl rfl
  refine Call_ (ld_blt I hg2 hm2 boot_set ?_)
  refine PyProof.Rows.callWith_type1 (PyProof.Rows.args_cons (thn (ha.run pins s σ H (fun x H1 => ∃ (l : Addr) (ns : List Int), x = .ref l ∧ SqL X.K H1 l (ns.map V.int) ∧ ns.length ≤ 1000 ∧ Q (.int (PyProof.Rows.firstMet (fun i => ns.getD i 0) ns.length).length) H1) I
    ⟨S, h, e, R, E, P.bind fun d h1 S1 H1 v _ N1 R1 v1 P1 => ?_⟩) fun v s1 ⟨x, H1, I1, r1, q1⟩ => PyProof.Rows.args_nil ?_) na) na rfl
  · unfold opLset at P1
    split at P1
    · rename_i ns en
      split at P1
      · rename_i c
        obtain ⟨l, e1, e2⟩ := Option.bind_eq_some_iff.mp en
        obtain ⟨a0, vs, rfl, hq, r⟩ := asL_at R1 v1 e1
        have ev := intsD_at r e2
        subst ev
        rw [hK] at hq
        exact ⟨a0, ns, rfl, hq, c, P1.here R1 (.int _)⟩
      · exact P1.elim
    · exact P1.elim
  · obtain ⟨l, ns, rfl, hq, hl, q1⟩ := q1
    cases r1
    obtain ⟨its, r, pl, hz⟩ := I1.list hq
    have hi : PyProof.Rows.IntsAre its.toArray.toList ns := by simpa using L2.ints_of_vals r
    have hsz : its.toArray.size = ns.length := by rw [List.size_toArray, ← r.length, List.length_map]
    refine PySem.call_set_list (I1.ok.hd hc) pl.isList hi (by rw [hsz]; unfold scanBound; omega) fun h' tk hS hk => ?_
    rw [hsz] at hS
    refine PyProof.Rows.args_nil ?_
    obtain ⟨o, es, ep, t, ho, hex, hd, _, _, _, hf, hn⟩ := hS
    have I2 : Inv X pins σ H1 { s1 with heap := h', toks := tk } := I1.kept fun b o e => hk b o (Heap.lt_size e) e
    have le := PyProof.Rows.firstMet_length_le (fun i => ns.getD i 0) ns.length
    refine call_len_set ho hex hd hf (by rw [hn] <;> omega) ⟨.int (PyProof.Rows.firstMet (fun i => ns.getD i 0) ns.length).length, H1, I2.tok _, ⟨_, by rw [hn]⟩, q1⟩
def dDfr : F D := fun _ h => .ok (.dct []) h
def dDnw : F D := fun _ h => .ok (.ref h.length) (h ++ [.dct []])
theorem e_dfr {X : Cx} {G : Cf} {W : WX} {pos : Pos} : PE X (.Dict [] [] pos) (tE G W dDfr) := PE.imp pe_dnewK fun σ H Q ⟨S, h, e, R, E, P⟩ p hp => by
  obtain ⟨n, r, x⟩ := new_dct (vs := []) R .nil hp
  exact P S _ _ n r x
theorem e_dnw {X : Cx} {G : Cf} {W : WX} {pos : Pos} : PE X (.Dict [] [] pos) (tE G W dDnw) := PE.imp pe_dnewK fun σ H Q ⟨S, h, e, R, E, P⟩ p hp => by
  obtain ⟨n, r, x⟩ := new_ref R hp (o := .dct []) (.dct upd_same .nil)
  exact P _ _ _ n r x
end Sb

/-! SbA: more built-in functions, methods, sources. -/
namespace Sb
open L2 PySem PySem.Spec PyProof.Rows
/-! ### isinstance of an own class -/
def iscD (t : List (Nat × Bool)) (h : Hh) (d : D) : Option D := match insAt h d with
  | some q => (t.lookup q.1).map D.bl
  | none => none
structure InsX (K : PySem.W.Frag) (C : Addr) : Prop where
  cl : Cls K C
  ha : PySem.W.findIn K (.ref C) "__class__" = some (some (.builtin "object.__class__"))
  hn : PySem.W.specialIn K (.builtin "object.__class__") "__get__" = some (some (.builtin "getset_descriptor.__get__"))
  htk : PySem.W.takesIn K (.builtin "object.__class__") = some true
  hm : PySem.W.mroIn K C (.type "object") = some true
theorem e_isc {X : Cx} {G : Cf} {W : WX} {a b : Expr} {f : F D} {p pos : Pos} {v : V} {u : Value} {t : List (Nat × Bool)} (hK : G.K = X.K) (hg : Gl X "isinstance") (hm : X.mg "isinstance" = none)
    (ha : PE X a (tE G W f)) (hs : noStar a = true) (hb : PE X b (tC v)) (hs2 : noStar b = true) (cv : ClsV v u) (ht : ∀ c r, t.lookup c = some r → InsX X.K (G.cad c) ∧ PySem.W.kitOne X.K (.ref (G.cad c)) u = some r) :
    PE X (.Call (.Name "isinstance" p) [a, b] [] pos) (tE G W (dU f (iscD t))) :=
  PE.imp (pe_callB (id := "isinstance") call_isi hg hm (by decide +kernel) (pa_cons ha (pa_cons hb pa_nil (star_of hs2 _ _)) (star_of hs _ _)) (by decide) (by decide) (star_of hs _ _) (stars_of (by rw [List.all_cons, hs2]; rfl))) fun σ H Q hq => by
    obtain ⟨S, h, e, R, E, P⟩ := hq
    refine ⟨S, h, e, R, E, P.bind fun d h1 S1 H1 w _ N1 R1 v1 P1 => ?_⟩
    unfold iscD at P1
    cases q : insAt h1 d with
    | none => rw [q] at P1; exact P1.elim
    | some z =>
      obtain ⟨c, fs⟩ := z
      rw [q] at P1
      cases l : t.lookup c with
      | none => simp only [l] at P1; exact P1.elim
      | some r =>
        simp only [l] at P1
        obtain ⟨i1, k1⟩ := ht c r l
        obtain ⟨x, dx, gs, rfl, e1, e2⟩ := insAt_at R1 v1 q
        exact ⟨.ref x, v, .ref (G.cad c), u, r, rfl, cv, .base (.ins e1 i1.cl i1.ha i1.hn i1.htk i1.hm), k1, P1.here R1 (.bl _)⟩
/-! ### built-in functions that make an object to be changed -/
def rCX (G : Cg) (op : Hh → List D → Option (D × Hh)) : List V → Hp → VK → Prop := fun vs H Q => ∃ S h ds z h', Rel G S h H ∧ VDs G S H ds vs ∧ op h ds = some (z, h') ∧ ∀ S' H' v, Nx G S H S' H' → Rel G S' h' H' → VD G S' H' z v → Q v H'
def dBn (r : F (List D)) (op : Hh → List D → Option (D × Hh)) : F D := fun e h => (r e h).bind fun l h1 => match op h1 l with
  | some (z, h2) => .ok z h2
  | none => .fail
theorem tE_bn {G : Cf} {W : WX} {r : F (List D)} {op : Hh → List D → Option (D × Hh)} {σ : L2.St} {H : Hp} {Q : VK} (h : tE G W (dBn r op) σ H Q) : tCB (rCX G op) (tA G W r) σ H Q := by
  obtain ⟨S, h, e, R, E, P⟩ := h
  refine ⟨S, h, e, R, E, P.bind fun l h1 S1 H1 vs _ N1 R1 v1 P1 => ?_⟩
  cases q : op h1 l with
  | none => rw [q] at P1; exact P1.elim
  | some z =>
    obtain ⟨z, h2⟩ := z
    rw [q] at P1
    exact ⟨S1, h1, l, z, h2, R1, v1, q, fun S' H' v n r x => P1 S' H' v n r x⟩
section
variable {X : Cx} {G : Cf} {W : WX} {e : Expr} {es : List Expr} {r : F (List D)} {op : Hh → List D → Option (D × Hh)} {x : Str} {p pos : Pos}
theorem e_callTyN {T : String} (hc : CallR X (.type T) (rCX G op)) (hg : Gl X x) (hm : X.mg x = none) (hv : bootBuiltins x = some (.type T)) (ha : PA X (e :: es) (tA G W r)) (hs : (e :: es).all noStar = true) (hn : x ≠ "__name__") (hdb : (x == ("__debug__" : Str)) = false) :
    PE X (.Call (.Name x p) (e :: es) [] pos) (tE G W (dBn r op)) :=
  have h2 : noStar e = true ∧ es.all noStar = true := Bool.and_eq_true_iff.mp hs
  PE.imp (pe_callTy hc hg hm hv ha hn hdb (star_of h2.1 _ _) (stars_of h2.2)) fun _ _ _ h => tE_bn h
end
def bDict (h : Hh) : List D → Option D
  | [x] => (asK h x).map D.dct
  | _ => none
def nDict (h : Hh) : List D → Option (D × Hh)
  | [x] => (asK h x).map fun l => (.ref h.length, h ++ [.dct l])
  | _ => none
def nList (h : Hh) : List D → Option (D × Hh)
  | [x] => (asQ h x).map fun l => (.ref h.length, h ++ [.lst l])
  | _ => none
section
variable {X : Cx} {G : Cg}
theorem cr_dictD : CallR X (.type "dict") (rC G bDict) := by
  intro pins s σ H xs us Q I r hq
  obtain ⟨S, h, ds, z, R, vx, q, k⟩ := hq
  unfold bDict at q
  split at q
  · cases vx with
    | cons v1 t1 =>
      cases t1
      obtain ⟨l, q1, rfl⟩ := Option.map_eq_some_iff.mp q
      obtain ⟨a, vs, rfl, ha, rr⟩ := asK_at R v1 q1
      refine call_dictD pins s σ H _ us Q I r ⟨a, vs, rfl, ha, fun p hp => ?_⟩
      obtain ⟨n1, r1, x1⟩ := new_dct R rr hp
      exact k _ _ n1 r1 x1
  · cases q
theorem cr_dictN : CallR X (.type "dict") (rCX G nDict) := by
  intro pins s σ H xs us Q I r hq
  obtain ⟨S, h, ds, z, h', R, vx, q, k⟩ := hq
  unfold nDict at q
  split at q
  · cases vx with
    | cons v1 t1 =>
      cases t1
      obtain ⟨l, q1, q2⟩ := Option.map_eq_some_iff.mp q
      cases q2
      obtain ⟨a, vs, rfl, ha, rr⟩ := asK_at R v1 q1
      refine call_dictD pins s σ H _ us Q I r ⟨a, vs, rfl, ha, fun p hp => ?_⟩
      obtain ⟨n1, r1, x1⟩ := new_ref R hp (o := .dct l) (.dct upd_same (rr.mono (.push hp) R.bad))
      exact k _ _ _ n1 r1 x1
  · cases q
theorem cr_listN (hK : G.K = X.K) : CallR X (.type "list") (rCX G nList) := by
  intro pins s σ H xs us Q I r hq
  obtain ⟨S, h, ds, z, h', R, vx, q, k⟩ := hq
  unfold nList at q
  split at q
  · cases vx with
    | cons v1 t1 =>
      cases t1
      obtain ⟨l, q1, q2⟩ := Option.map_eq_some_iff.mp q
      cases q2
      obtain ⟨a, vs, rfl, ha, rr⟩ := asQ_at R v1 q1
      rw [hK] at ha
      refine call_list_of pins s σ H _ us Q I r ⟨a, vs, rfl, ha, fun p hp => ?_⟩
      obtain ⟨n1, r1, x1⟩ := new_ref R hp (o := .lst l) (.lst upd_same (rr.mono (.push hp) R.bad))
      exact k _ _ _ n1 r1 x1
  · cases q
end
/-! ### methods of lists -/
def flatD : D → Bool
  | .non => true
  | .bl _ => true
  | .int _ => true
  | .str _ => true
  | _ => false
def eqFD : D → D → Bool
  | .non, .non => true
  | .bl a, .bl b => a == b
  | .bl a, .int j => (if a then 1 else 0) == j
  | .int i, .bl b => i == (if b then 1 else 0)
  | .int i, .int j => i == j
  | .str x, .str y => x == y
  | _, _ => false
def idxD (y : D) : List D → Option Nat
  | [] => none
  | z :: l => if eqFD z y = true then some 0 else (idxD y l).map (· + 1)
def mIndex : MOp := fun h x ds => match ds with
  | [y] => match asL h x with
    | some l => if flatD y = true ∧ l.all flatD = true then (idxD y l).map fun j => (.int (j : Nat), h) else none
    | none => none
  | _ => none
def mClear : MOp := fun h x ds => match x, ds with
  | .ref i, [] => match h[i]? with
    | some (.lst _) => some (.non, h.set i (.lst []))
    | _ => none
  | _, _ => none
def mExtend : MOp := fun h x ds => match x, ds with
  | .ref i, [y] => match h[i]?, asM h y with
    | some (.lst l), some m => if l.length + m.length ≤ 16777216 then some (.non, h.set i (.lst (l ++ m))) else none
    | _, _ => none
  | _, _ => none
def mPop : MOp := fun h x ds => match x, ds with
  | .ref i, [] => match h[i]? with
    | some (.lst l) => (l[l.length - 1]?).map fun y => (y, h.set i (.lst l.dropLast))
    | _ => none
  | .ref i, [.int j] => match h[i]? with
    | some (.lst l) => if 0 ≤ j ∧ j < l.length ∧ l.length ≤ 16777216 then (l[j.toNat]?).map fun y => (y, h.set i (.lst (l.eraseIdx j.toNat))) else none
    | _ => none
  | _, _ => none
section
variable {X : Cx} {G : Cg}
theorem flat_at {S : Rho} {H : Hp} {d : D} {v : V} (x : VD G S H d v) (f : flatD d = true) : flatV v = true := by
  cases x <;> first | rfl | (cases f; done)
theorem eqF_at {S : Rho} {H : Hp} {d e : D} {v w : V} (x : VD G S H d v) (y : VD G S H e w) (f : flatD d = true) (g : flatD e = true) : eqV v w = eqFD d e := by
  cases x <;> first | (cases f; done) | skip
  all_goals (cases y <;> first | (cases g; done) | rfl)
theorem idx_at {S : Rho} {H : Hp} {y : D} {w : V} (hy : VD G S H y w) (fy : flatD y = true) : ∀ {l : List D} {vs : List V} {j : Nat}, VDs G S H l vs → l.all flatD = true → idxD y l = some j →
    ∃ z, vs[j]? = some z ∧ eqV z w = true ∧ ∀ (m : Nat) (z' : V), m < j → vs[m]? = some z' → eqV z' w = false
  | [], _, j, _, _, e => by cases e
  | d :: l, _, j, .cons (v := v) (vs := vs) x t, f, e => by
    rw [List.all_cons, Bool.and_eq_true] at f
    have ev := eqF_at x hy f.1 fy
    unfold idxD at e
    by_cases c : eqFD d y = true
    · rw [if_pos c] at e
      cases e
      exact ⟨v, rfl, by rw [ev]; exact c, fun m _ h => absurd h (Nat.not_lt_zero _)⟩
    · rw [if_neg c] at e
      obtain ⟨j', e1, rfl⟩ := Option.map_eq_some_iff.mp e
      obtain ⟨z, z1, z2, z3⟩ := idx_at hy fy t f.2 e1
      refine ⟨z, z1, z2, fun m z' h q => ?_⟩
      cases m with
      | zero =>
        have q2 : v = z' := by simpa using q
        subst q2
        rw [ev]
        exact Bool.eq_false_iff.mpr c
      | succ m => exact z3 m z' (by omega) (by simpa using q)
theorem VDs.flats {S : Rho} {H : Hp} : ∀ {l : List D} {vs : List V}, VDs G S H l vs → l.all flatD = true → vs.all flatV = true
  | _, _, .nil, _ => rfl
  | _, _, .cons x t, f => by
    rw [List.all_cons, Bool.and_eq_true] at f
    rw [List.all_cons, flat_at x f.1, VDs.flats t f.2]; rfl
theorem mt_indexF (hK : G.K = X.K) : MtR X "list.index" (rM G mIndex) := by
  intro pins s σ H x xs v us Q I rx rxs hq
  obtain ⟨S, h, d, ds, z, h', R, vx, vs, q, k⟩ := hq
  unfold mIndex at q
  split at q
  · rename_i y
    split at q
    · rename_i l ql
      split at q
      · rename_i c
        obtain ⟨j, e, q2⟩ := Option.map_eq_some_iff.mp q
        cases q2
        obtain ⟨a, ws, rfl, ha, rl⟩ := asL_at R vx ql
        rw [hK] at ha
        cases vs with
        | cons vy t =>
          cases t
          obtain ⟨z, z1, z2, z3⟩ := idx_at vy c.1 rl c.2 e
          exact mt_index pins s σ H _ _ v us Q I rx rxs ⟨a, ws, _, j, z, rfl, rfl, ha, flat_at vy c.1, rl.flats c.2, z1, z2, z3, k H _ .refl R (.int _)⟩
      · cases q
    · cases q
  · cases q
def mCountF : MOp := fun h x ds => match ds with
  | [y] => match asL h x with
    | some l => if flatD y = true ∧ l.all flatD = true then some (.int (l.countP fun z => eqFD z y : Nat), h) else none
    | none => none
  | _ => none
theorem count_eqU {S : Rho} {H : Hp} {y : D} {w : V} (hy : VD G S H y w) (fy : flatD y = true) : ∀ {l : List D} {vs : List V} {us : List Value}, VDs G S H l vs → Vals vs us → l.all flatD = true → us.countP (eqU w) = l.countP fun z => eqFD z y
  | [], _, _, .nil, .nil, _ => rfl
  | d :: l, _, _, .cons x t, .cons r r', f => by
    rw [List.all_cons, Bool.and_eq_true] at f
    have ih := count_eqU hy fy t r' f.2
    rw [List.countP_cons, List.countP_cons, ih, eqU_of r (flat_at x f.1), eqF_at x hy f.1 fy]
theorem mem_eqU {A : Around} {s : Shared} {y : V} {uy : Value} (ry : RelV y uy) (fy : flatV y = true) : ∀ {vs : List V} {us : List Value}, Vals vs us → vs.all flatV = true → ∀ u ∈ us, SeqAt.EqAt A s u uy (eqU y u)
  | _, _, .nil, _, u, h => by cases h
  | v :: vs, u0 :: us, .cons r t, f, u, h => by
    rw [List.all_cons, Bool.and_eq_true] at f
    rcases List.mem_cons.mp h with e | h
    · rw [e, eqU_of r f.1]
      exact eqAt_V r ry f.1 fy
    · exact mem_eqU ry fy t f.2 u h
theorem mt_countF (hK : G.K = X.K) : MtR X "list.count" (rM G mCountF) := by
  intro pins s σ H x xs v us Q I rx rxs hq
  obtain ⟨S, h, d, ds, z, h', R, vx, vs, q, k⟩ := hq
  unfold mCountF at q
  split at q
  · rename_i y
    split at q
    · rename_i l ql
      split at q
      · rename_i c
        cases q
        obtain ⟨a, ws, rfl, ha, rl⟩ := asL_at R vx ql
        rw [hK] at ha
        cases vs with
        | cons vy t =>
          cases t
          cases rx
          obtain ⟨uy, rfl, ry⟩ := rxs.one
          obtain ⟨its, rv, ⟨⟨cls, dd, data, sl⟩, n, ho, hc, hdn, hd⟩, hlen⟩ := I.list ha
          simp only at hc hd
          subst hc hd
          refine call_meets PySem.F.slot_list_count ⟨_, ho, rfl⟩ PySem.F.entry_list_count (PySem.F.args_list_count_2 _ _)
            (SeqAt.list_countAt a its.toArray n dd sl uy (eqU _)) ⟨ho, fun y hy => mem_eqU ry (flat_at vy c.1) rv (rl.flats c.2) y (by simpa using hy), ?_⟩
          have ec : its.toArray.toList.countP (eqU _) = l.countP fun z => eqFD z y := count_eqU vy c.1 rl rv c.2
          refine ⟨.int (l.countP (fun z => eqFD z y) : Nat), H, I.tok _, ⟨s.toks, ?_⟩, k H _ .refl R (.int _)⟩
          show Value.int ((its.toArray.toList.countP (eqU _) : Nat) : Int) s.toks = Value.int ((l.countP (fun z => eqFD z y) : Nat) : Int) s.toks
          rw [ec]
      · cases q
    · cases q
  · cases q
theorem mt_clearD : MtR X "list.clear" (rM G mClear) := by
  intro pins s σ H x xs v us Q I rx rxs hq
  obtain ⟨S, h, d, ds, z, h', R, vx, vs, q, k⟩ := hq
  unfold mClear at q
  split at q
  · split at q
    · rename_i l e
      cases q
      obtain ⟨ws, hi, rfl, hl, rl⟩ := lst_ref R vx e
      cases vs
      have N : Nx G S H S (upd H (S.r _) (.lst [])) := Nx.write R hi hl (fun _ z => by cases z) (fun _ _ z => by cases z)
      have R2 := R.write hi hl (fun _ z => by cases z) (fun _ _ z => by cases z) (.lst (l := []) upd_same .nil)
      exact mt_clear pins s σ H _ _ v us Q I rx rxs ⟨_, ws, rfl, rfl, hl, k _ _ N R2 .non⟩
    · cases q
  · cases q
theorem VDs.dropLast {S : Rho} {H : Hp} : ∀ {l : List D} {vs : List V}, VDs G S H l vs → VDs G S H l.dropLast vs.dropLast
  | _, _, .nil => .nil
  | _, _, .cons a .nil => .nil
  | _, _, .cons a (.cons b t) => .cons a (VDs.dropLast (.cons b t))
theorem VDs.erase {S : Rho} {H : Hp} : ∀ {l : List D} {vs : List V} (i : Nat), VDs G S H l vs → VDs G S H (l.eraseIdx i) (vs.eraseIdx i)
  | _, _, _, .nil => .nil
  | _, _, 0, .cons a t => t
  | _, _, i + 1, .cons a t => .cons a (VDs.erase i t)
theorem mt_extendD : MtR X "list.extend" (rM G mExtend) := by
  intro pins s σ H x xs v us Q I rx rxs hq
  obtain ⟨S, h, d, ds, z, h', R, vx, vs, q, k⟩ := hq
  unfold mExtend at q
  split at q
  · split at q
    · rename_i l m e em
      split at q
      · rename_i c
        cases q
        obtain ⟨ws, hi, rfl, hl, rl⟩ := lst_ref R vx e
        cases vs with
        | @cons _ v1 _ _ vy t =>
          cases t
          obtain ⟨b, us', rfl, hb, rb⟩ := asM_at R vy em
          have N : Nx G S H S (upd H (S.r _) (.lst (ws ++ us'))) := Nx.write R hi hl (fun _ z => by cases z) (fun _ _ z => by cases z)
          have R2 := R.write hi hl (fun _ z => by cases z) (fun _ _ z => by cases z) (.lst upd_same ((rl.mono N R.bad).append (rb.mono N R.bad)))
          have hl2 : ws.length + us'.length ≤ sizeLine := by rw [sizeLine_eq, ← rl.length, ← rb.length]; exact c
          exact mt_extend pins s σ H _ _ v us Q I rx rxs ⟨_, _, ws, us', rfl, rfl, hl, hb, hl2, k _ _ N R2 .non⟩
      · cases q
    · cases q
  · cases q
theorem mt_popD : MtR X "list.pop" (rM G mPop) := by
  intro pins s σ H x xs v us Q I rx rxs hq
  obtain ⟨S, h, d, ds, z, h', R, vx, vs, q, k⟩ := hq
  unfold mPop at q
  split at q
  · split at q
    · rename_i l e
      obtain ⟨y, e1, q2⟩ := Option.map_eq_some_iff.mp q
      cases q2
      obtain ⟨ws, hi, rfl, hl, rl⟩ := lst_ref R vx e
      cases vs
      obtain ⟨y', g1, g2⟩ := rl.get e1
      rw [rl.length] at g1
      have N : Nx G S H S (upd H (S.r _) (.lst ws.dropLast)) := Nx.write R hi hl (fun _ z => by cases z) (fun _ _ z => by cases z)
      have R2 := R.write hi hl (fun _ z => by cases z) (fun _ _ z => by cases z) (.lst upd_same (rl.mono N R.bad).dropLast)
      exact mt_pop pins s σ H _ _ v us Q I rx rxs ⟨_, ws, y', rfl, rfl, hl, g1, k _ _ N R2 (g2.mono N R.bad)⟩
    · cases q
  · split at q
    · rename_i j _ l e
      split at q
      · rename_i c
        obtain ⟨y, e1, q2⟩ := Option.map_eq_some_iff.mp q
        cases q2
        obtain ⟨ws, hi, rfl, hl, rl⟩ := lst_ref R vx e
        cases vs with
        | cons vy t =>
          cases t
          cases vy
          obtain ⟨y', g1, g2⟩ := rl.get e1
          have N : Nx G S H S (upd H (S.r _) (.lst (ws.eraseIdx j.toNat))) := Nx.write R hi hl (fun _ z => by cases z) (fun _ _ z => by cases z)
          have R2 := R.write hi hl (fun _ z => by cases z) (fun _ _ z => by cases z) (.lst upd_same ((rl.mono N R.bad).erase _))
          have c2 := c
          rw [rl.length] at c2
          refine mt_popAt pins s σ H _ _ v us Q I rx rxs ⟨_, ws, _, j.toNat, y', rfl, rfl, hl, by omega, by omega, ?_, g1, k _ _ N R2 (g2.mono N R.bad)⟩
          unfold seqIndex?
          have n0 : ¬ j < 0 := by omega
          simp only [n0, if_false, c2.1, c2.2.1, decide_true, Bool.and_self, if_true]
      · cases q
    · cases q
  · cases q
end
end Sb

/-! SbB: methods of dicts, enumerate, zip. -/
namespace Sb
open L2 PySem PySem.Spec PyProof.Rows
/-! ### methods of dicts -/
def getK (d : Option D) (z : D) : D := match d with
  | some x => x
  | none => z
def dGet (f g k : F D) : F D := fun e h => (f e h).bind fun x h1 => if (asK h1 x).isSome = true then (g e h1).bind fun y h2 => (k e h2).bind fun z h3 => match asK h3 x, keyD y with
  | some l, some q => .ok (getK (valD l q) z) h3
  | _, _ => .fail else .fail
/-- d.setdefault(k, z) -/
def dSetd (f g k : F D) : F D := fun e h => (f e h).bind fun x h1 => if (asK h1 x).isSome = true then (g e h1).bind fun y h2 => (k e h2).bind fun z h3 => match x, keyD y with
  | .ref i, some q => (match h3[i]? with
    | some (.dct l) => if l.length < 16777216 then (match valD l q with
      | some v => .ok v h3
      | none => .ok z (h3.set i (.dct (putD l q z)))) else .fail
    | _ => .fail)
  | _, _ => .fail else .fail
/-- d.pop(k), k is there -/
def dPop (f g : F D) : F D := fun e h => (f e h).bind fun x h1 => if (asK h1 x).isSome = true then (g e h1).bind fun y h2 => match x, keyD y with
  | .ref i, some q => (match h2[i]? with
    | some (.dct l) => (match valD l q with
      | some v => .ok v (h2.set i (.dct (dropD l q)))
      | none => .fail)
    | _ => .fail)
  | _, _ => .fail else .fail
section
variable {X : Cx} {G : Cf} {W : WX} {o e e' : Expr} {f g k : F D} {apos cpos : Pos}
theorem m2_of {m : Str} (hb : okBase o = true) (hl : (apos.endLine == cpos.line) = true) (h1 : noStar e = true) (h2 : noStar e' = true) : M2 X o m apos e e' cpos :=
  ⟨base_of hb _ _ _, by rw [star_of h1, star_of h2]; rfl, hl, by rw [star_of h1, star_of h2]; rfl⟩
theorem m1_of {m : Str} (hb : okBase o = true) (hl : (apos.endLine == cpos.line) = true) (h1 : noStar e = true) : M1 X o m apos e cpos :=
  ⟨base_of hb _ _ _, by rw [star_of h1]; rfl, hl, by rw [star_of h1]; rfl⟩
theorem isD_of {S : Rho} {h : Hh} {H : Hp} {d : D} {v : V} (R : Rel G.toCg S h H) (x : VD G.toCg S H d v) (c : (asK h d).isSome = true) : ∃ a, v = .ref a ∧ IsD H a := by
  obtain ⟨l, e⟩ := Option.isSome_iff_exists.mp c
  obtain ⟨a, vs, rfl, ha, _⟩ := asK_at R x e
  exact ⟨a, rfl, .inl ⟨vs, ha⟩⟩
theorem e_dget (hu : X.A.units + 1 < cLine) (ho : PE X o (tE G W f)) (he : PE X e (tE G W g)) (hf : PE X e' (tE G W k)) (hb : okBase o = true) (hl : (apos.endLine == cpos.line) = true) (h1 : noStar e = true) (h2 : noStar e' = true) :
    PE X (.Call (.Attribute o "get" apos) [e, e'] [] cpos) (tE G W (dGet f g k)) :=
  PE.imp (pe_dget2 hu ho he hf (m2_of hb hl h1 h2)) fun σ H Q ⟨S, h, en, R, E, P⟩ => ⟨S, h, en, R, E, P.bind fun x h1 S1 H1 v _ N1 R1 v1 P1 => by
    by_cases c : (asK h1 x).isSome = true
    rotate_left
    · rw [if_neg c] at P1; exact P1.elim
    rw [if_pos c] at P1
    obtain ⟨a, rfl, hd⟩ := isD_of R1 v1 c
    have E1 := E.mono N1 R.bad
    refine ⟨a, rfl, hd, S1, h1, en, R1, E1, P1.bind fun y h2 S2 H2 w _ N2 R2 v2 P2 => ?_⟩
    have E2 := E1.mono N2 R1.bad
    refine ⟨S2, h2, en, R2, E2, P2.bind fun z h3 S3 H3 u _ N3 R3 v3 P3 => ?_⟩
    have x3 := (v1.mono N2 R1.bad).mono N3 R2.bad
    have y3 := v2.mono N3 R2.bad
    cases q : asK h3 x with
    | none => simp only [q] at P3; exact P3.elim
    | some l =>
      cases qk : keyD y with
      | none => simp only [q, qk] at P3; exact P3.elim
      | some kk =>
        simp only [q, qk] at P3
        obtain ⟨a', vs, ea, ha, r⟩ := asK_at R3 x3 q
        cases ea
        have ek := keyD_at y3 qk
        subst ek
        refine ⟨valV vs kk, .inl ⟨vs, kk, ha, rfl, rfl⟩, ?_⟩
        rcases r.val kk with ⟨e1, e2⟩ | ⟨d1, w1, e1, e2, r1⟩
        · rw [e1] at P3
          rw [e2]
          exact P3.here R3 v3
        · rw [e1] at P3
          rw [e2]
          exact P3.here R3 r1⟩
theorem e_dsetd (ho : PE X o (tE G W f)) (he : PE X e (tE G W g)) (hf : PE X e' (tE G W k)) (hb : okBase o = true) (hl : (apos.endLine == cpos.line) = true) (h1 : noStar e = true) (h2 : noStar e' = true) :
    PE X (.Call (.Attribute o "setdefault" apos) [e, e'] [] cpos) (tE G W (dSetd f g k)) :=
  PE.imp (pe_dsetd ho he hf (m2_of hb hl h1 h2)) fun σ H Q ⟨S, h, en, R, E, P⟩ => ⟨S, h, en, R, E, P.bind fun x h1 S1 H1 v _ N1 R1 v1 P1 => by
    by_cases c : (asK h1 x).isSome = true
    rotate_left
    · rw [if_neg c] at P1; exact P1.elim
    rw [if_pos c] at P1
    obtain ⟨a, rfl, hd⟩ := isD_of R1 v1 c
    have E1 := E.mono N1 R.bad
    refine ⟨a, rfl, hd, S1, h1, en, R1, E1, P1.bind fun y h2 S2 H2 w _ N2 R2 v2 P2 => ?_⟩
    have E2 := E1.mono N2 R1.bad
    refine ⟨S2, h2, en, R2, E2, P2.bind fun z h3 S3 H3 u _ N3 R3 v3 P3 => ?_⟩
    have x3 := (v1.mono N2 R1.bad).mono N3 R2.bad
    have y3 := v2.mono N3 R2.bad
    cases x3 with
    | @ref i hi =>
      cases qk : keyD y with
      | none => simp only [qk] at P3; exact P3.elim
      | some q =>
        have ek := keyD_at y3 qk
        subst ek
        simp only [qk] at P3
        split at P3
        rotate_left
        · exact P3.elim
        rename_i l ql
        split at P3
        rotate_left
        · exact P3.elim
        rename_i hlen
        cases R3.obj i _ ql with
        | dct ha r =>
        rename_i vs
        have hl2 : vs.length < sizeLine := by rw [sizeLine_eq, ← r.length]; exact hlen
        rcases r.val q with ⟨e1, e2⟩ | ⟨d1, w1, e1, e2, r1⟩
        · rw [e1] at P3
          have N : Nx G.toCg S3 H3 S3 (upd H3 (S3.r i) (.dK (putK vs q u))) := Nx.write R3 hi ha (fun _ z => by cases z) (fun _ _ z => by cases z)
          have R4 := R3.write hi ha (fun _ z => by cases z) (fun _ _ z => by cases z) (o := .dct (putD l q z)) (.dct upd_same ((r.mono N R3.bad).put q (v3.mono N R3.bad)))
          exact ⟨vs, q, ha, rfl, hl2, fun v' e' => (by rw [e2] at e'; cases e'), fun _ => P3 _ _ _ N R4 (v3.mono N R3.bad)⟩
        · rw [e1] at P3
          have hfin := P3.here R3 r1
          exact ⟨vs, q, ha, rfl, hl2, fun v' e' => (by rw [e2] at e'; cases e'; exact hfin), fun e' => (by rw [e2] at e'; cases e')⟩
    | _ => exact P3.elim⟩
theorem e_dpop (ho : PE X o (tE G W f)) (he : PE X e (tE G W g)) (hb : okBase o = true) (hl : (apos.endLine == cpos.line) = true) (h1 : noStar e = true) :
    PE X (.Call (.Attribute o "pop" apos) [e] [] cpos) (tE G W (dPop f g)) :=
  PE.imp (pe_dpop1 ho he (m1_of hb hl h1)) fun σ H Q ⟨S, h, en, R, E, P⟩ => ⟨S, h, en, R, E, P.bind fun x h1 S1 H1 v _ N1 R1 v1 P1 => by
    by_cases c : (asK h1 x).isSome = true
    rotate_left
    · rw [if_neg c] at P1; exact P1.elim
    rw [if_pos c] at P1
    obtain ⟨a, rfl, hd⟩ := isD_of R1 v1 c
    have E1 := E.mono N1 R.bad
    refine ⟨a, rfl, hd, S1, h1, en, R1, E1, P1.bind fun y h2 S3 H3 w _ N3 R3 v3 P3 => ?_⟩
    have x3 := v1.mono N3 R1.bad
    cases x3 with
    | @ref i hi =>
      cases qk : keyD y with
      | none => simp only [qk] at P3; exact P3.elim
      | some q =>
        have ek := keyD_at v3 qk
        subst ek
        simp only [qk] at P3
        split at P3
        rotate_left
        · exact P3.elim
        rename_i l ql
        cases R3.obj i _ ql with
        | dct ha r =>
        rename_i vs
        rcases r.val q with ⟨e1, e2⟩ | ⟨d1, w1, e1, e2, r1⟩
        · rw [e1] at P3; exact P3.elim
        · rw [e1] at P3
          have N : Nx G.toCg S3 H3 S3 (upd H3 (S3.r i) (.dK (dropK vs q))) := Nx.write R3 hi ha (fun _ z => by cases z) (fun _ _ z => by cases z)
          have R4 := R3.write hi ha (fun _ z => by cases z) (fun _ _ z => by cases z) (o := .dct (dropD l q)) (.dct upd_same ((r.mono N R3.bad).drop q))
          exact ⟨vs, q, w1, ha, rfl, e2, P3 _ _ _ N R4 (r1.mono N R3.bad)⟩
    | _ => exact P3.elim⟩
end
/-! ### enumerate, zip over lists -/
def enuAt (d : D) : Hh → Nat → Option (Option D) := fun h i => match asL h d with
  | some l => some (l[i]?.map fun x => .tup [.int (i : Nat), x])
  | none => none
def iEnu (f : F D) : F Src := fun e h => (f e h).bind fun d h1 => match asL h1 d with
  | some l => .ok ⟨l.length, enuAt d⟩ h1
  | none => .fail
def zipAt (d d' : D) : Hh → Nat → Option (Option D) := fun h i => match asL h d, asL h d' with
  | some l, some m => (match l[i]?, m[i]? with
    | some x, some y => some (some (.tup [x, y]))
    | _, _ => some none)
  | _, _ => none
def iZip (f g : F D) : F Src := fun e h => (f e h).bind fun d h1 => (g e h1).bind fun d' h2 => match asL h2 d, asL h2 d' with
  | some l, some m => .ok ⟨min l.length m.length, zipAt d d'⟩ h2
  | _, _ => .fail
theorem walks_enu {G : Cg} {S : Rho} {H : Hp} {d : D} {a : Addr} (bad : ∀ i, i < S.n → S.B (S.r i)) (x : VD G S H d (.ref a)) : Walks G (Ite G.K a) (enuAt d) S H := fun S' h H' i N R => by
  have x' := x.mono N bad
  unfold enuAt
  cases q : asL h d with
  | none => exact ⟨fun z => (by cases z), fun d e => (by cases e)⟩
  | some l =>
    obtain ⟨vs, hs, r⟩ := asL_ref_eq R x' q
    rcases r.get2 (i := i) with ⟨q1, q2⟩ | ⟨d1, v1, q1, q2, r1⟩
    · simp only [q1, Option.map_none]
      exact ⟨fun _ => ⟨vs, hs, q2⟩, fun d e => by cases e⟩
    · simp only [q1, Option.map_some]
      refine ⟨fun z => (by cases z), fun d e => ?_⟩
      cases e
      refine ⟨⟨vs, v1, hs, q2⟩, fun y H2 z => ?_⟩
      obtain ⟨T, x1, rfl, hT, rfl, z⟩ := z
      rw [sqL_inj_at q2 x1 z hs]
      exact new_tup R (.cons (.int _) (.cons r1 .nil)) hT
theorem walks_zip {G : Cg} {S : Rho} {H : Hp} {d d' : D} {a b : Addr} (bad : ∀ i, i < S.n → S.B (S.r i)) (x : VD G S H d (.ref a)) (y : VD G S H d' (.ref b)) : Walks G (Itz G.K a b) (zipAt d d') S H := fun S' h H' i N R => by
  have x' := x.mono N bad
  have y' := y.mono N bad
  unfold zipAt
  cases q : asL h d with
  | none => exact ⟨fun z => (by cases z), fun d e => (by cases e)⟩
  | some l =>
    cases q' : asL h d' with
    | none => exact ⟨fun z => (by cases z), fun d e => (by cases e)⟩
    | some m =>
      obtain ⟨vs, hs, r⟩ := asL_ref_eq R x' q
      obtain ⟨ws, hs', r'⟩ := asL_ref_eq R y' q'
      rcases r.get2 (i := i) with ⟨q1, q2⟩ | ⟨d1, v1, q1, q2, r1⟩
      · simp only [q1]
        exact ⟨fun _ => ⟨vs, ws, hs, hs', .inl q2⟩, fun d e => by cases e⟩
      · rcases r'.get2 (i := i) with ⟨q3, q4⟩ | ⟨d2, v2, q3, q4, r2⟩
        · simp only [q1, q3]
          exact ⟨fun _ => ⟨vs, ws, hs, hs', .inr q4⟩, fun d e => by cases e⟩
        · simp only [q1, q3]
          refine ⟨fun z => (by cases z), fun d e => ?_⟩
          cases e
          refine ⟨⟨vs, ws, v1, v2, hs, hs', q2, q4⟩, fun y H2 z => ?_⟩
          obtain ⟨T, x1, y1, rfl, hT, rfl, z1, z2⟩ := z
          rw [sqL_inj_at q2 x1 z1 hs, sqL_inj_at q4 y1 z2 hs']
          exact new_tup R (.cons r1 (.cons r2 .nil)) hT
section
variable {X : Cx} {G : Cf} {W : WX} {a b : Expr} {f g : F D} {p pos tpos : Pos} {elts : List Expr} {kk : Nat}
theorem i_enu (hK : G.K = X.K) (hg : Gl X "enumerate") (hm : X.mg "enumerate" = none) (ha : PE X a (tE G W f)) (hs : noStar a = true) : PI X (.Tuple elts kk tpos) (.Call (.Name "enumerate" p) [a] [] pos) (tI G W (iEnu f)) :=
  Sb.PI.imp (pi_enum hg hm (pa_cons ha pa_nil (star_of hs _ _)) (star_of hs _ _)) fun σ H R0 ⟨S, h, e, R, E, P⟩ => ⟨S, h, e, R, E, P.bind fun d h1 S1 H1 v ef N1 R1 v1 P1 => by
    cases q : asL h1 d with
    | none => rw [q] at P1; exact P1.elim
    | some l =>
      rw [q] at P1
      obtain ⟨a', vs, rfl, ha, r⟩ := asL_at R1 v1 q
      have fin := P1.here R1 (walks_enu R1.bad v1)
      rw [hK] at ha fin
      exact ⟨a', vs, rfl, ha, fin⟩⟩
theorem i_zip (hK : G.K = X.K) (hg : Gl X "zip") (hm : X.mg "zip" = none) (ha : PE X a (tE G W f)) (hb : PE X b (tE G W g)) (hs : noStar a = true) (hs2 : noStar b = true) : PI X (.Tuple elts kk tpos) (.Call (.Name "zip" p) [a, b] [] pos) (tI G W (iZip f g)) :=
  Sb.PI.imp (pi_zip hg hm (pa_cons ha (pa_cons hb pa_nil (star_of hs2 _ _)) (star_of hs _ _)) (star_of hs _ _) (by rw [star_of hs2]; rfl)) fun σ H R0 ⟨S, h, e, R, E, P⟩ => ⟨S, h, e, R, E, P.bind fun d h1 S1 H1 v ef N1 R1 v1 P1 =>
    ⟨S1, h1, e, R1, E.mono N1 R.bad, P1.bind fun d2 h2 S2 H2 v' ef2 N2 R2 v2 P2 => by
    have x2 := v1.mono N2 R1.bad
    cases q : asL h2 d with
    | none => simp only [q] at P2; exact P2.elim
    | some l =>
      cases q' : asL h2 d2 with
      | none => simp only [q, q'] at P2; exact P2.elim
      | some m =>
        simp only [q, q'] at P2
        obtain ⟨a', vs, rfl, ha, r⟩ := asL_at R2 x2 q
        obtain ⟨b', ws, rfl, hb, r'⟩ := asL_at R2 v2 q'
        have fin := P2.here R2 (walks_zip R2.bad x2 v2)
        rw [hK] at ha hb fin
        exact ⟨a', b', vs, ws, rfl, ha, hb, fin⟩⟩⟩
end
end Sb

/-! SbC: a list comprehension whose list will be changed. -/
namespace Sb
open L2 PySem PySem.Spec PyProof.Rows
section
variable {G : Cg} {S S' : Rho} {H : Hp}
mutual
theorem VD.moreR (hr : ∀ i, i < S.n → S'.r i = S.r i) (hn : S.n ≤ S'.n) (hB : ∀ b, S'.B b → S.B b) : ∀ {d : D} {v : V}, VD G S H d v → VD G S' H d v
  | _, _, .non => .non
  | _, _, .bl b => .bl b
  | _, _, .int b => .int b
  | _, _, .str b => .str b
  | _, _, .tup a b => .tup a (VDs.moreR hr hn hB b)
  | _, _, .scr a => .scr a
  | _, _, .lst a b c => .lst a (fun z => b (hB _ z)) (VDs.moreR hr hn hB c)
  | _, _, .dct a b c => .dct a (fun z => b (hB _ z)) (VDk.moreR hr hn hB c)
  | _, _, .ins a b c => .ins a (fun z => b (hB _ z)) (VDf.moreR hr hn hB c)
  | _, _, .ref hi => by rw [← hr _ hi]; exact .ref (Nat.lt_of_lt_of_le hi hn)
theorem VDs.moreR (hr : ∀ i, i < S.n → S'.r i = S.r i) (hn : S.n ≤ S'.n) (hB : ∀ b, S'.B b → S.B b) : ∀ {d : List D} {v : List V}, VDs G S H d v → VDs G S' H d v
  | _, _, .nil => .nil
  | _, _, .cons a b => .cons (VD.moreR hr hn hB a) (VDs.moreR hr hn hB b)
theorem VDk.moreR (hr : ∀ i, i < S.n → S'.r i = S.r i) (hn : S.n ≤ S'.n) (hB : ∀ b, S'.B b → S.B b) : ∀ {d : List (Key × D)} {v : List (Key × V)}, VDk G S H d v → VDk G S' H d v
  | _, _, .nil => .nil
  | _, _, .cons a b => .cons (VD.moreR hr hn hB a) (VDk.moreR hr hn hB b)
theorem VDf.moreR (hr : ∀ i, i < S.n → S'.r i = S.r i) (hn : S.n ≤ S'.n) (hB : ∀ b, S'.B b → S.B b) : ∀ {d : List (Str × D)} {v : List (Str × V)}, VDf G S H d v → VDf G S' H d v
  | _, _, .nil => .nil
  | _, _, .cons a b => .cons (VD.moreR hr hn hB a) (VDf.moreR hr hn hB b)
end
theorem OD.moreR (hr : ∀ i, i < S.n → S'.r i = S.r i) (hn : S.n ≤ S'.n) (hB : ∀ b, S'.B b → S.B b) {a : Addr} {o : O} (x : OD G S H a o) : OD G S' H a o := by
  cases x with
  | lst q v => exact .lst q (v.moreR hr hn hB)
  | dct q v => exact .dct q (v.moreR hr hn hB)
  | ins q v => exact .ins q (v.moreR hr hn hB)
  | lckL q v => exact .lckL q (v.moreR hr hn hB)
  | lckD q v => exact .lckD q (v.moreR hr hn hB)
end
def dCompN (fs : F Src) (g : Tg) (t : F Bool) (f : F D) (vs : List Nat) : F D := fun e h => (fs e h).bind fun s h1 => if fits s.n = true then (match compS s.at_ g t f s.n 0 (wipeE e vs) h1 with
  | some (l, h2) => .ok (.ref h2.length) (h2 ++ [.lst l])
  | none => .fail) else .fail
section
variable {X : Cx} {G : Cf} {W : WX} {elt tg iter : Expr} {ifs : List Expr} {scope : Scope} {own : List (Str × Nat)} {pos : Pos} {fs : F Src} {g : Tg} {t : F Bool} {f : F D}
theorem tE_lcN (hcu : G.cur = none) (vs : List Nat) (hsl : ∀ i ∈ slotsT g, i ∈ vs) {σ : L2.St} {H : Hp} {Q : VK} (h0 : tE G W (dCompN fs g t f vs) σ H Q) : tLc (tI G W fs) (gT G g) (tT G W0 t) (tE G W0 f) vs σ H Q := by
  obtain ⟨S, h, e, R, E, P⟩ := h0
  refine ⟨S, h, e, R, E, P.bind fun s h1 S1 H1 J _ N1 R1 w P1 => fun p hp => ?_⟩
  have E1 := E.mono N1 R.bad
  by_cases c : fits s.n = true
  rotate_left
  · rw [if_neg c] at P1; exact P1.elim
  rw [if_pos c] at P1
  cases q : compS s.at_ g t f s.n 0 (wipeE e vs) h1 with
  | none => rw [q] at P1; exact P1.elim
  | some z =>
    obtain ⟨l, h2⟩ := z
    rw [q] at P1
    have hn : s.n ≤ sizeLine := fits_ok c
    refine ⟨fun i m H => ∃ S4 h4 acc vacc l', Nx G S1 H1 S4 H ∧ Rel G S4 h4 H ∧ S4.B p ∧ (∀ i, i < S4.n → S4.r i ≠ p) ∧ H p = some (.lst vacc) ∧ VDs G S4 H acc vacc ∧ acc.length ≤ i ∧ i + m = s.n ∧
      compS s.at_ g t f m i (wipeE e vs) h4 = some (l', h2) ∧ l = acc ++ l', ⟨s.n, ?_⟩, ?_⟩
    · -- the start
      have k := keeps_new (o := .lst []) hp
      have N2 : Nx G S1 H1 (S1.ban p) (upd H1 p (.lst [])) := ⟨Nat.le_refl _, fun _ _ => rfl, fun i a b => absurd b (Nat.not_lt.mpr a), fun _ z => .inl z, fun b z => z.elim .inl fun y => .inr (by rw [y]; exact hp), fun b u _ e => k b u e,
        (Nx.same (G := G) (S := S1) k).there, (Nx.same (G := G) (S := S1) k).seqT, (Nx.same (G := G) (S := S1) k).seqF, (Nx.same (G := G) (S := S1) k).frz⟩
      have ne : ∀ i, i < S1.n → S1.r i ≠ p := fun i hi z => R1.nb hp (z ▸ R1.bad i hi)
      refine ⟨S1.ban p, h1, [], [], l, N2, ⟨R1.len, fun i hi => .inl (R1.bad i hi), R1.inj, fun b z => ?_, fun i o q => (R1.obj i o q).mono N2 R1.bad fun u q => k _ u q⟩, .inr rfl, ne, upd_same, .nil, Nat.le_refl _, Nat.zero_add _, q, rfl⟩
      rcases z with z | z
      · exact N2.there b (R1.live b z)
      · rw [z, upd_same]; simp
    · rintro i m H4 ⟨S4, h4, acc, vacc, l', N4, R4, hb, ne, hpl, va, la, im, q4, el⟩
      obtain ⟨w1, w2⟩ := w S4 h4 H4 i N4 R4
      unfold compS at q4
      split at q4
      · -- the end
        rename_i qa
        cases q4
        refine .inl ⟨w1 qa, ?_⟩
        rw [List.append_nil] at el
        subst el
        have hB : ∀ b, ((S4.unban p).push p).B b → S4.B b := fun b z => by
          rcases z with z | z
          · exact z.1
          · rw [z]; exact hb
        have hr : ∀ i, i < S4.n → ((S4.unban p).push p).r i = S4.r i := fun i hi => if_neg (fun z => by have : i = S4.n := z; omega)
        have hrn : ((S4.unban p).push p).r S4.n = p := if_pos rfl
        have ob : ∀ {a : Addr} {o : O}, OD G S4 H4 a o → OD G ((S4.unban p).push p) H4 a o := fun x => OD.moreR hr (Nat.le_succ _) hB x
        have N5 : Nx G S1 H1 ((S4.unban p).push p) H4 := ⟨Nat.le_trans N4.n (Nat.le_succ _), fun i hi => (hr i (Nat.lt_of_lt_of_le hi N4.n)).trans (N4.r i hi), fun i h1 h2 => by
            by_cases z : i = S4.n
            · subst z; rw [hrn]; exact hp
            · have h3 : i < S4.n + 1 := h2
              rw [hr i (by omega)]; exact N4.new i h1 (by omega), fun b z => .inl ⟨N4.up b z, fun y => R1.live b z (by rw [y]; exact hp)⟩, fun b z => N4.dn b (hB b z), N4.keep, N4.there, N4.seqT, N4.seqF, N4.frz⟩
        have R5 : Rel G ((S4.unban p).push p) (h2 ++ [.lst l]) H4 := ⟨by rw [List.length_append, R4.len]; rfl, fun i hi => by
            have h3 : i < S4.n + 1 := hi
            by_cases z : i = S4.n
            · subst z; rw [hrn]; exact .inr rfl
            · rw [hr i (by omega)]; exact .inl ⟨R4.bad i (by omega), ne i (by omega)⟩, fun i j hi hj e => by
            have h3 : i < S4.n + 1 := hi
            have h4x : j < S4.n + 1 := hj
            by_cases z : i = S4.n
            · by_cases y : j = S4.n
              · rw [z, y]
              · rw [z, hrn, hr j (by omega)] at e
                exact absurd e.symm (ne j (by omega))
            · by_cases y : j = S4.n
              · rw [y, hrn, hr i (by omega)] at e
                exact absurd e (ne i (by omega))
              · rw [hr i (by omega), hr j (by omega)] at e
                exact R4.inj i j (by omega) (by omega) e, fun b z => R4.live b (hB b z), fun i o q => by
            by_cases z : i < h2.length
            · rw [List.getElem?_append_left z] at q
              have y := ob (R4.obj i o q)
              rw [hr i (by rw [← R4.len]; exact z)]
              exact y
            · have z2 : i = h2.length := by
                have := (List.getElem?_eq_some_iff.mp q).1
                rw [List.length_append] at this
                simp at this
                omega
              subst z2
              rw [List.getElem?_append_right (Nat.le_refl _), Nat.sub_self] at q
              cases q
              rw [R4.len, hrn]
              exact .lst hpl (VDs.moreR hr (Nat.le_succ _) hB va)⟩
        have vr : VD G ((S4.unban p).push p) H4 (.ref h2.length) (.ref p) := by
          have z := VD.ref (G := G.toCg) (S := (S4.unban p).push p) (H := H4) (i := h2.length) (by rw [R4.len]; exact Nat.lt_succ_self _)
          rw [R4.len, hrn, ← R4.len] at z
          exact z
        exact P1 _ H4 (.ref p) N5 R5 vr
      · rename_i d qa
        obtain ⟨g1, g2⟩ := w2 d qa
        refine .inr ⟨g1, ?_⟩
        cases m with
        | zero => cases q4
        | succ m =>
          simp only at q4
          split at q4
          rotate_left
          · cases q4
          rename_i e1 qb
          refine ⟨fun H' => ∃ S4 h4 acc vacc l', Nx G S1 H1 S4 H' ∧ Rel G S4 h4 H' ∧ S4.B p ∧ (∀ i, i < S4.n → S4.r i ≠ p) ∧ H' p = some (.lst vacc) ∧ VDs G S4 H' acc vacc ∧ acc.length ≤ i + 1 ∧ (i + 1) + m = s.n ∧
            compS s.at_ g t f m (i + 1) (wipeE e vs) h4 = some (l', h2) ∧ l = acc ++ l', fun H' z => ⟨m, Nat.lt_succ_self m, z⟩, fun x H5 y => ?_⟩
          obtain ⟨N5, R5, x5⟩ := g2 x H5 y
          have N05 := N4.trans N5
          have E5 : EnR G S4 H5 (wipeE e vs) (wipe σ vs) := (E1.mono N05 R1.bad).wipe hcu vs
          -- what stays of the list apart
          have stay : ∀ {S6 H6}, Nx G S4 H4 S6 H6 → S6.B p ∧ (∀ i, i < S6.n → S6.r i ≠ p) ∧ H6 p = some (.lst vacc) := fun {S6 H6} N => by
            refine ⟨N.up p hb, fun i hi z => ?_, N.keep p _ ne hpl⟩
            by_cases k : i < S4.n
            · exact ne i k ((N.r i k).symm.trans z)
            · have := N.new i (Nat.not_lt.mp k) hi
              rw [z, hpl] at this
              cases this
          refine ⟨S4, h4, wipeE e vs, d, e1, R5, E5, x5, qb, fun σ2 E6 A6 => ⟨?_, ?_⟩⟩
          · exact (wipe_same ⟨A6.1, fun j hj => A6.2 j (fun z => hj (hsl j z))⟩).trans (wipe_wipe vs σ)
          refine ⟨S4, h4, e1, R5, E6, ?_⟩
          cases qt : t e1 h4 with
          | fail => rw [qt] at q4; cases q4
          | exc _ _ _ => rw [qt] at q4; cases q4
          | ok b h6 =>
            rw [qt] at q4
            simp only at q4
            intro S6 H6 b' N6 R6 eb
            subst eb
            have N46 := N5.trans N6
            cases b with
            | false =>
              obtain ⟨k1, k2, k3⟩ := stay N46
              exact ⟨S6, h6, acc, vacc, l', N4.trans N46, R6, k1, k2, k3, va.mono N46 R4.bad, by omega, by omega, q4, el⟩
            | true =>
              refine ⟨S6, h6, e1, R6, E6.mono N6 R5.bad, ?_⟩
              rw [if_pos rfl] at q4
              cases qf : f e1 h6 with
              | fail => rw [qf] at q4; cases q4
              | exc _ _ _ => rw [qf] at q4; cases q4
              | ok y7 h7 =>
                rw [qf] at q4
                simp only at q4
                intro S7 H7 v7 N7 R7 x7
                cases q8 : compS s.at_ g t f m (i + 1) (wipeE e vs) h7 with
                | none => rw [q8] at q4; cases q4
                | some z8 =>
                  obtain ⟨l8, h8⟩ := z8
                  rw [q8] at q4
                  have N47 := N46.trans N7
                  obtain ⟨k1, k2, k3⟩ := stay N47
                  have va7 := va.mono N47 R4.bad
                  have l1 := va7.length
                  refine ⟨vacc, k3, by omega, S7, h7, acc ++ [y7], vacc ++ [v7], l8, (N4.trans N47).updB hp k3, R7.updB k1 k3 k2, k1, k2, upd_same, (va7.append (.cons x7 .nil)).updB k1 k3, by rw [List.length_append]; exact Nat.succ_le_succ la, by omega, ?_, ?_⟩
                  · cases q4; exact q8
                  · cases q4; rw [el, List.append_assoc]; rfl
      · cases q4
theorem e_lcN (hc : X.calm = true) (hN : X.N.Nodup) (hcu : G.cur = none) (hi : PI X tg iter (tI G W fs)) (ok : BlkOk X.N X.env.scope scope own) (hsl : ∀ i ∈ slotsT g, i ∈ own.map (·.2))
    (hg : ∀ (s : Shared) (H : Hp) (C : Addr) (cl : List (Str × Addr)) (fp : List Addr), PG (X.blk s H scope (compEnvC scope cl C X.env) fp) tg (gT G g)) (ht : ∀ (s : Shared) (H : Hp) (C : Addr) (cl : List (Str × Addr)) (fp : List Addr), PTs (X.blk s H scope (compEnvC scope cl C X.env) fp) ifs (tT G W0 t))
    (he : ∀ (s : Shared) (H : Hp) (C : Addr) (cl : List (Str × Addr)) (fp : List Addr), PE (X.blk s H scope (compEnvC scope cl C X.env) fp) elt (tE G W0 f)) (hs : noSetT iter = true) :
    PE X (.ListComp elt [⟨tg, iter, ifs, 0⟩] scope pos) (tE G W (dCompN fs g t f (own.map (·.2)))) :=
  PE.imp (pe_lc hc hN hi ok hg ht he (folded_of hs)) fun _ _ _ h => tE_lcN hcu _ hsl h
/-- name = [..] -/
theorem s_setLcN {i : Nat} {y : Str} {py spos : Pos} (hc : X.calm = true) (hN : X.N.Nodup) (hcu : G.cur = none) (hy : X.N[i]? = some y) (hyl : X.env.scope.names.lookup y = some .local) (hsw : swapsWith (.ListComp elt [⟨tg, iter, ifs, 0⟩] scope pos) (some (.Name y py)) spos.line X.env = pure true)
    (hi : PI X tg iter (tI G W fs)) (ok : BlkOk X.N X.env.scope scope own) (hsl : ∀ i ∈ slotsT g, i ∈ own.map (·.2))
    (hg : ∀ (s : Shared) (H : Hp) (C : Addr) (cl : List (Str × Addr)) (fp : List Addr), PG (X.blk s H scope (compEnvC scope cl C X.env) fp) tg (gT G g)) (ht : ∀ (s : Shared) (H : Hp) (C : Addr) (cl : List (Str × Addr)) (fp : List Addr), PTs (X.blk s H scope (compEnvC scope cl C X.env) fp) ifs (tT G W0 t))
    (he : ∀ (s : Shared) (H : Hp) (C : Addr) (cl : List (Str × Addr)) (fp : List Addr), PE (X.blk s H scope (compEnvC scope cl C X.env) fp) elt (tE G W0 f)) (hs : noSetT iter = true) :
    PS X (.Assign [.Name y py] (.ListComp elt [⟨tg, iter, ifs, 0⟩] scope pos) spos) (tS G W (sAsg (dCompN fs g t f (own.map (·.2))) (.nm i))) :=
  PS.imp (ps_setLc hc hN hy hyl hsw hi ok hg ht he (folded_of hs)) fun Z σ H ⟨S, h, e, R, E, P⟩ => tE_lcN hcu _ hsl ⟨S, h, e, R, E, P.st R E fun d h1 S1 H1 v _ N1 R1 v1 P1 => by
    unfold bindT at P1
    exact P1.next R1 ((E.mono N1 R.bad).set v1 fun c a z => by rw [hcu] at z; cases z)⟩
end
/-! ### a + b, a new list that will be changed -/
def rDX (G : Cg) (op : Hh → D → D → Option (D × Hh)) : R2 := fun x y H Q => ∃ S h d e z h', Rel G S h H ∧ VD G S H d x ∧ VD G S H e y ∧ op h d e = some (z, h') ∧ ∀ S' H' v, Nx G S H S' H' → Rel G S' h' H' → VD G S' H' z v → Q v H'
def dBX (f g : F D) (op : Hh → D → D → Option (D × Hh)) : F D := fun e h => (f e h).bind fun x h1 => (g e h1).bind fun y h2 => match op h2 x y with
  | some (z, h3) => .ok z h3
  | none => .fail
def opAddN (h : Hh) (x y : D) : Option (D × Hh) := match asM h x, asM h y with
  | some a, some b => if fits (a.length + b.length) = true then some (.ref h.length, h ++ [.lst (a ++ b)]) else none
  | _, _ => none
section
variable {X : Cx} {G : Cf} {W : WX} {a b : Expr} {f g : F D} {pos : Pos}
theorem tE_opX {op : Hh → D → D → Option (D × Hh)} {σ : L2.St} {H : Hp} {Q : VK} (h : tE G W (dBX f g op) σ H Q) : tOp (rDX G op) (tE G W f) (tE G W g) σ H Q := by
  obtain ⟨S, h, e, R, E, P⟩ := h
  refine ⟨S, h, e, R, E, P.bind fun x h1 S1 H1 v _ N1 R1 v1 P1 => ?_⟩
  have E1 := E.mono N1 R.bad
  refine ⟨S1, h1, e, R1, E1, P1.bind fun y h2 S2 H2 w _ N2 R2 v2 P2 => ?_⟩
  cases q : op h2 x y with
  | none => rw [q] at P2; exact P2.elim
  | some z =>
    obtain ⟨z, h3⟩ := z
    rw [q] at P2
    exact ⟨S2, h2, x, y, z, h3, R2, v1.mono N2 R1.bad, v2, q, fun S' H' v n r x => P2 S' H' v n r x⟩
theorem or_addN : OpR X (binaryOp .Add) (rDX G opAddN) := by
  intro pins s σ H x y v u Q I rx ry hq
  obtain ⟨S, h, d, e, z, h', R, vx, vy, q, k⟩ := hq
  unfold opAddN at q
  split at q
  · rename_i l m q1 q2
    split at q
    · rename_i c
      cases q
      obtain ⟨p1, vs, rfl, h1, r1⟩ := asM_at R vx q1
      obtain ⟨p2, ws, rfl, h2, r2⟩ := asM_at R vy q2
      have l1 := r1.length
      have l2 := r2.length
      have c2 := fits_ok c
      refine op_cat pins s σ H _ _ v u Q I rx ry ⟨p1, p2, vs, ws, rfl, rfl, h1, h2, by omega, fun p hp => ?_⟩
      obtain ⟨n1, rr, x1⟩ := new_ref R hp (o := .lst (l ++ m)) (.lst upd_same ((r1.append r2).mono (.push hp) R.bad))
      exact k _ _ _ n1 rr x1
    · cases q
  · cases q
theorem e_ban (ha : PE X a (tE G W f)) (hb : PE X b (tE G W g)) : PE X (.BinOp a .Add b pos) (tE G W (dBX f g opAddN)) :=
  PE.imp (pe_op or_addN ha hb) fun _ _ _ h => tE_opX h
end
end Sb

/-! SbK: name.get(x, y) of a dict of the module's top, texts its keys. -/
namespace Sb
open L2 PySem PySem.Spec PyProof.Rows
def tabAt (t : List (Str × D)) (z : Str) : Option D := (t.find? fun p => decide (p.1 = z)).map (·.2)
def tabV (t : List (Str × V)) (z : Str) : Option V := (t.find? fun p => decide (p.1 = z)).map (·.2)
/-- what stands at a is just this table -/
def KTab (K : PySem.W.Frag) (w : World) (a : Addr) (t : List (Str × V)) : Prop := ∃ es n, KDict K w a es n ∧ ∀ z : Str, ∃ r, PySem.W.nsIn K a z = some r ∧ (match tabV t z with
  | some v => ∃ u, r = some u ∧ RelV v u
  | none => r = none)
theorem isStr_iff (x z : Str) (k : Tok) : (Value.str x k).isStr z = decide (x = z) := by
  show (x == z) = _
  by_cases c : x = z
  · subst c; simp
  · simp [c]
theorem nsIn_keys {P : Params} {K : PySem.W.Frag} {a : Addr} {es : Array DictEntry} {n : Nat} (hl : K.lookup a = some ⟨.type "dict", none, .dict es n, #[]⟩) : ∀ {ks : List Str}, es.toList.map He.keyOf = He.keysIn P ks → ∀ z : Str, z ∉ ks → PySem.W.nsIn K a z = some none := by
  intro ks h z hz
  unfold PySem.W.nsIn
  rw [hl]
  have key : ∀ (l : List DictEntry) (ks : List Str), l.map He.keyOf = He.keysIn P ks → z ∉ ks → l.find? (·.key.isStr z) = none ∧ l.any (·.refKey) = false := by
    intro l
    induction l with
    | nil => intro ks _ _; exact ⟨rfl, rfl⟩
    | cons e l ih =>
      intro ks h hz
      cases ks with
      | nil => cases h
      | cons k ks =>
        have h1 : He.keyOf e :: l.map He.keyOf = some (k, PyData.keyHash P k) :: He.keysIn P ks := h
        injection h1 with h2 h3
        obtain ⟨i1, i2⟩ := ih ks h3 (fun q => hz (List.mem_cons_of_mem _ q))
        unfold He.keyOf at h2
        split at h2
        · rename_i x t q
          obtain ⟨h5, h6⟩ := Prod.mk.inj (Option.some.inj h2)
          have hne : ¬ x = z := fun c => hz (by rw [← c, h5]; exact List.mem_cons_self)
          constructor
          · rw [List.find?_cons, q, isStr_iff, decide_eq_false hne]; exact i1
          · rw [List.any_cons, i2, Bool.or_false]
            unfold DictEntry.refKey
            rw [q]
        · cases h2
  obtain ⟨k1, k2⟩ := key es.toList ks h hz
  simp only [k1, k2, Bool.false_eq_true, if_false]
/-- from what is looked at -/
theorem ktab_ok {K : PySem.W.Frag} {w : World} {a : Addr} {t : List (Str × He.Dv)} (h : He.dicW K a = some (He.keysIn w.params (t.map (·.1)))) (hv : He.valsB K a t = true) : KTab K w a (t.map fun p => (p.1, p.2.v K)) := by
  obtain ⟨es, n, D⟩ := He.dicW_ok h
  refine ⟨es, n, D, fun z => ?_⟩
  have hk : es.toList.map He.keyOf = He.keysIn w.params (t.map (·.1)) := by
    unfold He.dicW at h
    rw [D.at_] at h
    simp only at h
    split at h
    · exact Option.some.inj h
    · cases h
  have key : ∀ l : List (Str × He.Dv), (∀ p ∈ l, p ∈ t) → (match tabV (l.map fun p => (p.1, p.2.v K)) z with
      | some v => ∃ u, PySem.W.nsIn K a z = some (some u) ∧ RelV v u
      | none => z ∉ l.map (·.1)) := by
    intro l
    induction l with
    | nil => intro _; show z ∉ []; simp
    | cons p l ih =>
      intro hm
      have ih2 := ih fun q hq => hm q (List.mem_cons_of_mem _ hq)
      unfold tabV at ih2 ⊢
      rw [List.map_cons, List.find?_cons]
      by_cases c : p.1 = z
      · simp only [c, decide_true, Option.map_some]
        obtain ⟨u, e1, e2⟩ := He.valsB_ok hv (hm p List.mem_cons_self)
        rw [c] at e1
        exact ⟨u, e1, e2⟩
      · simp only [c, decide_false]
        split at ih2
        · rename_i v q
          rw [q]
          exact ih2
        · rename_i q
          rw [q]
          simp only
          rw [List.map_cons, List.mem_cons, not_or]
          exact ⟨fun z => c z.symm, ih2⟩
  have fin := key t fun p hp => hp
  cases q : tabV (t.map fun p => (p.1, p.2.v K)) z with
  | some v =>
    rw [q] at fin
    obtain ⟨u, e1, e2⟩ := fin
    exact ⟨some u, e1, u, rfl, e2⟩
  | none =>
    rw [q] at fin
    exact ⟨none, nsIn_keys D.at_ hk z fin, rfl⟩
/-! ### the rule -/
def endK (t : List (Str × D)) (x y : D) (h : Hh) : R D := match x with
  | .str z => .ok (getK (tabAt t z) y) h
  | _ => .fail
def kGet (t : List (Str × D)) (f g : F D) : F D := fun e h => (f e h).bind fun x h1 => (g e h1).bind fun y h2 => endK t x y h2
theorem tab_rel {G : Cg} {S : Rho} {H : Hp} (z : Str) : ∀ {t : List (Str × D)} {tv : List (Str × V)}, VDf G S H t tv → (tabAt t z = none ∧ tabV tv z = none) ∨ ∃ d v, tabAt t z = some d ∧ tabV tv z = some v ∧ VD G S H d v
  | _, _, .nil => .inl ⟨rfl, rfl⟩
  | _, _, .cons (k := k) (d := d) (v := v) x r => by
    unfold tabAt tabV
    rw [List.find?_cons, List.find?_cons]
    by_cases c : k = z
    · simp only [c, decide_true]
      exact .inr ⟨d, v, rfl, rfl, x⟩
    · simp only [c, decide_false]
      exact tab_rel z r
theorem e_kget {X : Cx} {G : Cf} {W : WX} {e e' : Expr} {f g : F D} {y : Str} {a : Addr} {p0 apos cpos : Pos} {t : List (Str × D)} {tv : List (Str × V)} (hg : Gl X y) (hm : X.mg y = some (.ref a)) (hdb : (y == ("__debug__" : Str)) = false) (hT : KTab X.K X.w a tv) (ht : ∀ S H, VDf G.toCg S H t tv)
    (he : PE X e (tE G W f)) (hf : PE X e' (tE G W g)) (hl : (apos.endLine == cpos.line) = true) (h1 : noStar e = true) (h2 : noStar e' = true) :
    PE X (.Call (.Attribute (.Name y p0) "get" apos) [e, e'] [] cpos) (tE G W (kGet t f g)) := by
  have m : M2 X (.Name y p0) "get" apos e e' cpos := m2_of rfl hl h1 h2
  obtain ⟨es, n, D, hns⟩ := hT
  refine ⟨fun pins s σ H Q I h => ?_⟩
  refine wpAny_Call_method m.base m.few m.line PySem.F.plainAttrs_dict PySem.F.slot_dict_get PySem.F.type_dict_get (thn ((pe_glob (v := .ref a) hg hm rfl hdb).run pins s σ H (fun x H1 => x = .ref a ∧ tE G W (kGet t f g) σ H1 Q) I ⟨rfl, h⟩) fun u s1 ⟨x, H1, I1, rx, ex, q1⟩ => ?_)
  subst ex
  obtain rfl : u = Value.ref a := rx
  have hob := I1.kIn _ _ D.at_
  have hmo := PySem.W.mapOf_K (prog := X.prog) (w := X.w) I1.kIn D.at_ D.lit
  refine ⟨hmo.typeIs, fun b hb => ?_, ?_⟩
  · cases hb
    exact ⟨_, hob, rfl⟩
  rw [m.trees]
  obtain ⟨S, h0, en, R, E, P⟩ := q1
  refine Calls.callWith_builtin rfl (Calls.evalArgs_plain (Calls.spliced_cons (thn (he.run pins s1 σ H1 (fun xv H2 => ∃ S1 h1 xd, Rel G.toCg S1 h1 H2 ∧ EnR G S1 H2 en σ ∧ VD G.toCg S1 H2 xd xv ∧ Pst G.toCg (fun c d H => W c d σ H) S1 H2 (relV G.toCg) ((g en h1).bind fun y h2 => endK t xd y h2) Q) I1 ⟨S, h0, en, R, E, P.bind fun x h1 S1 H2 v _ N1 R1 v1 P1 => ⟨S1, h1, x, R1, E.mono N1 R.bad, v1, P1⟩⟩) fun iv s2 ⟨xv, H2, I2, ry, S1, h1, xd, R1, E1, v1, P1⟩ =>
    Calls.spliced_cons (thn (hf.run pins s2 σ H2 (fun yv H3 => ∃ S2 h2 yd, Rel G.toCg S2 h2 H3 ∧ VD G.toCg S2 H3 yd yv ∧ VD G.toCg S2 H3 xd xv ∧ Pst G.toCg (fun c d H => W c d σ H) S2 H3 (relV G.toCg) (endK t xd yd h2) Q) I2 ⟨S1, h1, en, R1, E1, P1.bind fun y h2 S2 H3 v _ N2 R2 v2 P2 => ⟨S2, h2, y, R2, v2, v1.mono N2 R1.bad, P2⟩⟩) fun fv s3 ⟨yv, H3, I3, rz, S2, h2, yd, R2, v2, v1', P2⟩ => Calls.spliced_nil ?_))))
  cases v1' with
  | str z =>
    obtain ⟨tk, rfl⟩ := ry
    have hmo3 := PySem.W.mapOf_K (prog := X.prog) (w := X.w) I3.kIn D.at_ D.lit
    obtain ⟨r, e1, e2⟩ := hns z
    have ef := PySem.W.find_K D.at_ e1
    refine call_meetsIn PySem.F.slot_dict_get hmo3.typeIs PySem.F.entry_dict_get (PySem.F.args_dict_get_3 _ _ _) (meets_dict_get_default (strKind X.prog X.w) a (strKind_is X.prog X.w z tk) D.low fv) ⟨_, hmo3, ?_⟩
    rcases tab_rel z (ht S2 H3) with ⟨t1, t2⟩ | ⟨d1, w1, t1, t2, r1⟩
    · rw [t2] at e2
      simp only at e2
      unfold endK at P2
      simp only [t1, getK] at P2
      refine ⟨yv, H3, I3.tok _, ?_, P2.here R2 v2⟩
      show RelV yv ((findBy Value.isStrOf es z).getD fv)
      rw [ef, e2]
      exact rz
    · rw [t2] at e2
      obtain ⟨u, e3, e4⟩ := e2
      unfold endK at P2
      simp only [t1, getK] at P2
      refine ⟨w1, H3, I3.tok _, ?_, P2.here R2 r1⟩
      show RelV w1 ((findBy Value.isStrOf es z).getD fv)
      rw [ef, e3]
      exact e4
  | _ => exact P2.elim
/-! ### list(range(..)) -/
def dLrg (f : F D) : F D := fun e h => (f e h).bind fun d h1 => match d with
  | .int j => if -(2 ^ 62) ≤ j ∧ j ≤ 16777216 then .ok (D.lst ((List.range j.toNat).map fun i : Nat => D.int (i : Int))) h1 else .fail
  | _ => .fail
theorem vds_rg {G : Cg} {S : Rho} {H : Hp} : ∀ l : List Nat, VDs G S H (l.map fun i : Nat => D.int (i : Int)) (l.map fun i : Nat => V.int (0 + (i : Int)))
  | [] => .nil
  | i :: l => by
    rw [List.map_cons, List.map_cons, Int.zero_add]
    exact .cons (.int _) (vds_rg l)
theorem e_lrg {X : Cx} {G : Cf} {W : WX} {a : Expr} {f : F D} {p p2 q pos : Pos} (hK : G.K = X.K) (hc : X.calm = true) (hg : Gl X "list") (hm : X.mg "list" = none) (hg2 : Gl X "range") (hm2 : X.mg "range" = none) (ha : PE X a (tE G W f)) (hs : noStar a = true) :
    PE X (.Call (.Name "list" p) [.Call (.Name "range" p2) [a] [] q] [] pos) (tE G W (dLrg f)) :=
  PE.imp (pe_listRg hc hg hm (prg_1 hg2 hm2 ha (star_of hs _ _)) (star_of rfl _ _)) fun σ H Q ⟨S, h, e, R, E, P⟩ => ⟨S, h, e, R, E, P.bind fun d h1 S1 H1 v _ N1 R1 v1 P1 => by
    cases v1 with
    | int j =>
      by_cases c : -(2 ^ 62) ≤ j ∧ j ≤ 16777216
      · have P2 : Pst G (fun c d H => W c d σ H) S1 H1 (relV G) (Sb.R.ok (D.lst ((List.range j.toNat).map fun i : Nat => D.int (i : Int))) h1) Q := by
          have z : (if -(2 ^ 62) ≤ j ∧ j ≤ 16777216 then (Sb.R.ok (D.lst ((List.range j.toNat).map fun i : Nat => D.int (i : Int))) h1) else Sb.R.fail) = Sb.R.ok (D.lst ((List.range j.toNat).map fun i : Nat => D.int (i : Int))) h1 := if_pos c
          rw [← z]; exact P1
        refine ⟨j, rfl, ⟨by omega, by omega, by omega, by omega, by omega⟩, fun p hp => ?_⟩
        have r : VDs G.toCg S1 H1 ((List.range j.toNat).map fun i : Nat => D.int (i : Int)) (rgV 0 j) := by
          have z := vds_rg (G := G.toCg) (S := S1) (H := H1) (List.range j.toNat)
          unfold rgV
          rw [show j - 0 = j from by omega]
          exact z
        obtain ⟨n1, r1, x1⟩ := new_lst R1 r hp
        exact P2 _ _ _ n1 r1 x1
      · have P2 : Pst G (fun c d H => W c d σ H) S1 H1 (relV G) (Sb.R.fail (α := D)) Q := by
          have z : (if -(2 ^ 62) ≤ j ∧ j ≤ 16777216 then (Sb.R.ok (D.lst ((List.range j.toNat).map fun i : Nat => D.int (i : Int))) h1) else Sb.R.fail) = Sb.R.fail := if_neg c
          rw [← z]; exact P1
        exact P2.elim
    | _ => exact P1.elim⟩
def rg2L (i j : Int) : List D := (List.range (j - i).toNat).map fun q : Nat => D.int (i + (q : Int))
def dLr2 (f g : F D) : F D := fun e h => (f e h).bind fun d h1 => (g e h1).bind fun d2 h2 => match d, d2 with
  | .int i, .int j => if -(2 ^ 62) ≤ i ∧ i < 2 ^ 62 ∧ -(2 ^ 62) ≤ j ∧ j < 2 ^ 62 ∧ j - i ≤ 16777216 then .ok (.lst (rg2L i j)) h2 else .fail
  | _, _ => .fail
theorem vds_rg2 {G : Cg} {S : Rho} {H : Hp} (a : Int) : ∀ l : List Nat, VDs G S H (l.map fun i : Nat => D.int (a + (i : Int))) (l.map fun i : Nat => V.int (a + (i : Int)))
  | [] => .nil
  | i :: l => .cons (.int _) (vds_rg2 a l)
theorem e_lr2 {X : Cx} {G : Cf} {W : WX} {a b : Expr} {f g : F D} {p p2 q pos : Pos} (hK : G.K = X.K) (hc : X.calm = true) (hg : Gl X "list") (hm : X.mg "list" = none) (hg2 : Gl X "range") (hm2 : X.mg "range" = none) (ha : PE X a (tE G W f)) (hb : PE X b (tE G W g)) (hs : noStar a = true) (hs2 : noStar b = true) :
    PE X (.Call (.Name "list" p) [.Call (.Name "range" p2) [a, b] [] q] [] pos) (tE G W (dLr2 f g)) :=
  PE.imp (pe_listRg hc hg hm (prg_2 hg2 hm2 ha hb (star_of hs _ _) (star_of hs2 _ _) (by rw [star_of hs2]; rfl)) (star_of rfl _ _)) fun σ H Q ⟨S, h, e, R, E, P⟩ => ⟨S, h, e, R, E, P.bind fun d h1 S1 H1 v ef N1 R1 v1 P1 =>
    ⟨S1, h1, e, R1, E.mono N1 R.bad, P1.bind fun d2 h2 S2 H2 v' ef2 N2 R2 v2 P2 => by
    cases v1 with
    | int i =>
      cases v2 with
      | int j =>
        by_cases c : -(2 ^ 62) ≤ i ∧ i < 2 ^ 62 ∧ -(2 ^ 62) ≤ j ∧ j < 2 ^ 62 ∧ j - i ≤ 16777216
        · have P3 : Pst G (fun c d H => W c d σ H) S2 H2 (relV G) (Sb.R.ok (D.lst (rg2L i j)) h2) Q := by
            have z : (if -(2 ^ 62) ≤ i ∧ i < 2 ^ 62 ∧ -(2 ^ 62) ≤ j ∧ j < 2 ^ 62 ∧ j - i ≤ 16777216 then (Sb.R.ok (D.lst (rg2L i j)) h2) else Sb.R.fail) = Sb.R.ok (D.lst (rg2L i j)) h2 := if_pos c
            rw [← z]; exact P2
          refine ⟨i, j, rfl, rfl, ⟨c.1, c.2.1, c.2.2.1, c.2.2.2.1, by omega⟩, fun p hp => ?_⟩
          have r : VDs G.toCg S2 H2 (rg2L i j) (rgV i j) := vds_rg2 (G := G.toCg) (S := S2) (H := H2) i (List.range (j - i).toNat)
          obtain ⟨n1, r1, x1⟩ := new_lst R2 r hp
          exact P3 _ _ _ n1 r1 x1
        · have P3 : Pst G (fun c d H => W c d σ H) S2 H2 (relV G) (Sb.R.fail (α := D)) Q := by
            have z : (if -(2 ^ 62) ≤ i ∧ i < 2 ^ 62 ∧ -(2 ^ 62) ≤ j ∧ j < 2 ^ 62 ∧ j - i ≤ 16777216 then (Sb.R.ok (D.lst (rg2L i j)) h2) else Sb.R.fail) = Sb.R.fail := if_neg c
            rw [← z]; exact P2
          exact P3.elim
      | _ => exact P2.elim
    | _ => exact P2.elim⟩⟩
/-! ### {"a": "b", ..} -/
def strC (z : Str) : Expr → Bool
  | .Constant (.str y) _ _ => decide (y = z)
  | _ => false
def chDc : List (Str × Str) → List (Option Expr) → List Expr → Bool
  | [], [], [] => true
  | p :: t, some e :: ks, e' :: vs => strC p.1 e && strC p.2 e' && chDc t ks vs
  | _, _, _ => false
def dcD (t : List (Str × Str)) : List (Key × D) := t.map fun p => (.inr p.1, .str p.2)
def dcV (t : List (Str × Str)) : List (Key × V) := t.map fun p => (.inr p.1, .str p.2)
def dDcl (t : List (Str × Str)) : F D := fun _ h => .ok (.dct (dcD t)) h
theorem pe_strC {X : Cx} {z : Str} {e : Expr} (h : strC z e = true) : PE X e (tC (.str z)) := by
  unfold strC at h
  split at h
  · have := of_decide_eq_true h
    subst this
    exact pe_str
  · cases h
def dcT (t : List (Str × Str)) : List (TE × TE) := t.map fun p => (tC (.str p.1), tC (.str p.2))
theorem pps_dc {X : Cx} {pos : Pos} : ∀ {t : List (Str × Str)} {ks : List (Option Expr)} {vs : List Expr}, chDc t ks vs = true → PPs X pos ks vs (dcT t) ∧ ks.all (·.isSome) = true ∧ ks.length = vs.length ∧ ks.length = t.length
  | [], [], [], _ => ⟨pps_nil, rfl, rfl, rfl⟩
  | p :: t, some e :: ks, e' :: vs, h => by
    unfold chDc at h
    obtain ⟨h12, h3⟩ := Bool.and_eq_true_iff.mp h
    obtain ⟨h1, h2⟩ := Bool.and_eq_true_iff.mp h12
    obtain ⟨q1, q2, q3, q4⟩ := pps_dc (X := X) (pos := pos) h3
    exact ⟨pps_cons (pe_strC h1) (pe_strC h2) q1, by simpa using q2, by simp [q3], by simp [q4]⟩
  | [], [], _ :: _, h => by cases h
  | [], _ :: _, _, h => by cases h
  | _ :: _, [], _, h => by cases h
  | _ :: _, none :: _, _, h => by cases h
  | _ :: _, some _ :: _, [], h => by cases h
theorem pairs_dc {σ : L2.St} : ∀ {t : List (Str × Str)} {H : Hp} {Q : List (V × V) → Hp → Prop}, Q ((dcV t).map fun kv => (kV kv.1, kv.2)) H → tPairs (dcT t) σ H Q
  | [], _, _, h => h
  | p :: t, H, Q, h => by
    show tPairs (dcT t) σ H fun ps H3 => Q ((V.str p.1, V.str p.2) :: ps) H3
    exact pairs_dc h
theorem merge_dc : ∀ (t : List (Str × Str)) (kvs : List (Key × V)), ((kvs.map (·.1)) ++ (dcV t).map (·.1)).Nodup → mergeK kvs (dcV t) = kvs ++ dcV t
  | [], kvs, _ => by show kvs = kvs ++ []; rw [List.append_nil]
  | p :: t, kvs, h => by
    show mergeK (putK kvs (.inr p.1) (.str p.2)) (dcV t) = _
    have hn : (.inr p.1 : Key) ∉ kvs.map (·.1) := by
      intro z
      have := (List.nodup_append.mp h).2.2 _ z (.inr p.1) (by show _ ∈ ((.inr p.1, .str p.2) :: dcV t).map (·.1); simp)
      exact this rfl
    have e : putK kvs (.inr p.1) (.str p.2) = kvs ++ [(.inr p.1, .str p.2)] := by
      unfold putK
      rw [if_neg]
      intro z
      obtain ⟨kv, h1, h2⟩ := List.any_eq_true.mp z
      exact hn (List.mem_map.mpr ⟨kv, h1, of_decide_eq_true h2⟩)
    rw [e, merge_dc t _ (by
      rw [List.map_append, List.append_assoc]
      exact h), List.append_assoc]
    rfl
theorem vdk_dc {G : Cg} {S : Rho} {H : Hp} : ∀ t : List (Str × Str), VDk G S H (dcD t) (dcV t)
  | [] => .nil
  | p :: t => .cons (.str _) (vdk_dc t)
theorem e_dcl {X : Cx} {G : Cf} {W : WX} {t : List (Str × Str)} {ks : List (Option Expr)} {vs : List Expr} {pos : Pos} (hc : chDc t ks vs = true) (h0 : t ≠ []) (h15 : t.length ≤ 15) (nd : (t.map (·.1)).Nodup) :
    PE X (.Dict ks vs pos) (tE G W (dDcl t)) := by
  obtain ⟨q1, q2, q3, q4⟩ := pps_dc (X := X) (pos := pos) hc
  refine PE.imp (pe_disp q1 q2 q3 (fun z => h0 (List.eq_nil_of_length_eq_zero (by rw [← q4, z]; rfl))) (by omega)) fun σ H Q ⟨S, h, e, R, E, P⟩ p hp => pairs_dc ⟨upd_same, dcV t, rfl, by unfold dcV; rw [List.length_map]; exact h15, ?_⟩
  have nd2 : ((([] : List (Key × V)).map (·.1)) ++ (dcV t).map (·.1)).Nodup := by
    show ((dcV t).map (·.1)).Nodup
    unfold dcV
    rw [List.map_map]
    have : ((fun x : Key × V => x.1) ∘ fun p : Str × Str => ((.inr p.1 : Key), V.str p.2)) = (fun z : Str => (.inr z : Key)) ∘ fun p : Str × Str => p.1 := rfl
    rw [this, ← List.map_map]
    exact List.Pairwise.map _ (fun a b hab hz => hab (Sum.inr.inj hz)) nd
  rw [merge_dc t [] nd2, List.nil_append]
  obtain ⟨n, r, x⟩ := new_dct (l := dcD t) (vs := dcV t) R (vdk_dc t) hp
  have e2 : upd (upd H p (.dK [])) p (.dK (dcV t)) = upd H p (.dK (dcV t)) := by
    funext q
    unfold upd
    split <;> rfl
  rw [e2]
  exact P _ _ _ n r x
end Sb

/-! SbD: walks over dicts. -/
namespace Sb
open L2 PySem PySem.Spec PyProof.Rows
/-! ### a thing that was locked on the way is unlocked at the end -/
def Fresh0 (X : Cx) (d : Addr) : Prop := ∀ o' u', X.H_0 d ≠ some (.frz o' u')
def unlP (X : Cx) (Q : Hp → Prop) : Hp → Prop := fun H => Q H ∨ ∃ d od u, H d = some (.frz od u) ∧ Fresh0 X d ∧ Q (upd H d u)
def unlD (X : Cx) (D : Ends) : Ends := ⟨fun σ H => unlP X (D.nx σ) H, fun v H => unlP X (D.rt v) H, fun σ H => unlP X (D.bk σ) H, fun σ H => unlP X (D.ct σ) H⟩
theorem unl_inv {X : Cx} {pins : List (Addr × Obj)} {σ : L2.St} {H : Hp} {s : Shared} {Q : Hp → Prop} (I : Inv X pins σ H s) (q : unlP X Q H) : ∃ H', Inv X pins σ H' s ∧ Q H' := by
  rcases q with q | ⟨d, od, u, e, f, q⟩
  · exact ⟨H, I, q⟩
  · exact ⟨_, I.unlock e f, q⟩
theorem ps_unl {X : Cx} {st : Stmt} {t : TS} (h : PS X st t) : PS X st (fun D σ H => t (unlD X D) σ H) := by
  refine ⟨fun pins s σ H D I hw => ?_⟩
  refine thn (h.run pins s σ _ _ I hw) fun f s1 q => ?_
  cases f with
  | next => obtain ⟨σ', H', I2, q⟩ := q; obtain ⟨H2, I3, q⟩ := unl_inv I2 q; exact ⟨σ', H2, I3, q⟩
  | brk => obtain ⟨σ', H', I2, q⟩ := q; obtain ⟨H2, I3, q⟩ := unl_inv I2 q; exact ⟨σ', H2, I3, q⟩
  | cont => obtain ⟨σ', H', I2, q⟩ := q; obtain ⟨H2, I3, q⟩ := unl_inv I2 q; exact ⟨σ', H2, I3, q⟩
  | ret v => obtain ⟨x, σ', H', I2, r, q⟩ := q; obtain ⟨H2, I3, q⟩ := unl_inv I2 q; exact ⟨x, σ', H2, I3, r, q⟩
theorem pe_unl {X : Cx} {e : Expr} {t : TE} (h : PE X e t) : PE X e (fun σ H Q => t σ H fun v H' => unlP X (Q v) H') := by
  refine ⟨fun pins s σ H Q I hw => ?_⟩
  refine thn (h.run pins s σ H _ I hw) fun v s1 ⟨x, H1, I2, r, q⟩ => ?_
  obtain ⟨H2, I3, q⟩ := unl_inv I2 q
  exact ⟨x, H2, I3, r, q⟩
/-! ### what is walked: the dict is locked now, or was -/
def tLkE (X : Cx) (td : TE) : TE := fun σ H Q => td σ H fun x H1 => ∃ d kvs, x = .ref d ∧
  ((H1 d = some (.dK kvs) ∧ ∀ od, Fresh0 X d → Q x (upd H1 d (.frz od (.dK kvs)))) ∨ ∃ od, H1 d = some (.frz od (.dK kvs)) ∧ Q x H1)
theorem pe_lk {X : Cx} {e : Expr} {td : TE} (he : PE X e td) : PE X e (tLkE X td) := by
  refine ⟨fun pins s σ H Q I h => thn (he.run pins s σ H _ I h) fun u s1 ⟨x, H1, I1, rx, d, kvs, ex, q⟩ => ?_⟩
  rcases q with ⟨e, q⟩ | ⟨od, e, q⟩
  · obtain ⟨od, I2⟩ := I1.lock e trivial
    exact ⟨x, _, I2, rx, q od (I1.nofrz e trivial)⟩
  · exact ⟨x, H1, I1, rx, q⟩
def tLk (X : Cx) (td : TE) (J : Addr → Obj → List (Key × V) → It) : TI := fun σ H R => td σ H fun x H1 => ∃ d kvs, x = .ref d ∧
  ((H1 d = some (.dK kvs) ∧ ∀ od, Fresh0 X d → R (J d od kvs) (upd H1 d (.frz od (.dK kvs)))) ∨ ∃ od, H1 d = some (.frz od (.dK kvs)) ∧ R (J d od kvs) H1)
theorem tE_mono {G : Cf} {W : WX} {f : F D} {σ : L2.St} {H : Hp} {Q Q' : VK} (h : tE G W f σ H Q) (m : ∀ v H, Q v H → Q' v H) : tE G W f σ H Q' := by
  obtain ⟨S, h, e, R, E, P⟩ := h
  exact ⟨S, h, e, R, E, P.imp m⟩
theorem lk_of {X : Cx} {G : Cf} {W : WX} {f : F D} {J : Addr → Obj → List (Key × V) → It} {σ : L2.St} {H : Hp} {R : It → Hp → Prop} {Q : VK} (h : tLk X (tE G W f) J σ H R) (m : ∀ d od kvs H, H d = some (.frz od (.dK kvs)) → R (J d od kvs) H → Q (.ref d) H) : tLkE X (tE G W f) σ H Q := by
  refine tE_mono h fun x H1 ⟨d, kvs, ex, q⟩ => ⟨d, kvs, ex, ?_⟩
  subst ex
  rcases q with ⟨e, q⟩ | ⟨od, e, q⟩
  · exact .inl ⟨e, fun od fr => m d od kvs _ upd_same (q od fr)⟩
  · exact .inr ⟨od, e, m d od kvs H1 e q⟩
section
variable {X : Cx} {G : Cf} {W : WX} {f : F D} {tg e : Expr} {apos cpos : Pos}
theorem pi_keysL (he : PE X e (tE G W f)) : PI X tg e (tLk X (tE G W f) Itk) :=
  Sb.PI.imp (pi_keys (pe_lk he)) fun _ _ _ h => lk_of h fun d od kvs _ e q => ⟨d, od, rfl, .inl ⟨kvs, e, q⟩⟩
theorem pi_valuesL (he : PE X e (tE G W f)) (hbase : attributeBase e "values" X.env (eval e X.env) = eval e X.env) (hline : (apos.endLine == cpos.line) = true) : PI X tg (.Call (.Attribute e "values" apos) [] [] cpos) (tLk X (tE G W f) Itd) :=
  Sb.PI.imp (pi_values (pe_lk he) hbase hline) fun _ _ _ h => lk_of h fun d od kvs _ e q => ⟨d, od, kvs, rfl, e, q⟩
theorem pi_itemsL {elts : List Expr} {kk : Nat} {tpos : Pos} (he : PE X e (tE G W f)) (hbase : attributeBase e "items" X.env (eval e X.env) = eval e X.env) (hline : (apos.endLine == cpos.line) = true) :
    PI X (.Tuple elts kk tpos) (.Call (.Attribute e "items" apos) [] [] cpos) (tLk X (tE G W f) Iti) :=
  Sb.PI.imp (pi_items (pe_lk he) hbase hline) fun _ _ _ h => lk_of h fun d od kvs _ e q => ⟨d, od, kvs, rfl, e, q⟩
theorem pi_keysML (he : PE X e (tE G W f)) (hbase : attributeBase e "keys" X.env (eval e X.env) = eval e X.env) (hline : (apos.endLine == cpos.line) = true) : PI X tg (.Call (.Attribute e "keys" apos) [] [] cpos) (tLk X (tE G W f) Itk) :=
  Sb.PI.imp (pi_keysM (pe_lk he) hbase hline) fun _ _ _ h => lk_of h fun d od kvs _ e q => ⟨d, od, kvs, rfl, e, q⟩
end
/-! ### locking in the small heap's eyes -/
section
variable {G : Cg} {S S1 : Rho} {H H1 : Hp} {h : Hh} {a : Addr} {od : Obj} {vs : List (Key × V)}
/-- the heaps are alike but at a: there a dict, unlocked or locked -/
structure Lk (H H' : Hp) (a : Addr) (od : Obj) (vs : List (Key × V)) : Prop where
  ne : ∀ b, b ≠ a → H' b = H b
  at_ : H a = some (.dK vs) ∨ H a = some (.frz od (.dK vs))
  at' : H' a = some (.dK vs) ∨ H' a = some (.frz od (.dK vs))
theorem Lk.seqT {H H' : Hp} (L : Lk H H' a od vs) {K : PySem.W.Frag} {b : Addr} {xs : List V} (q : SqT K H b xs) : SqT K H' b xs := by
  rcases q with (q | ⟨o, q⟩) | q
  · refine .inl (.inl ?_)
    rw [L.ne b (fun z => by rw [z] at q; rcases L.at_ with e | e <;> rw [e] at q <;> cases q)]; exact q
  · refine .inl (.inr ⟨o, ?_⟩)
    rw [L.ne b (fun z => by rw [z] at q; rcases L.at_ with e | e <;> rw [e] at q <;> cases q)]; exact q
  · exact .inr q
theorem Lk.seqF {H H' : Hp} (L : Lk H H' a od vs) {K : PySem.W.Frag} {b : Addr} {xs : List V} (q : SqF K H b xs) : SqF K H' b xs := by
  rcases q with ⟨o, q⟩ | q
  · refine .inl ⟨o, ?_⟩
    rw [L.ne b (fun z => by rw [z] at q; rcases L.at_ with e | e <;> rw [e] at q <;> cases q)]; exact q
  · exact .inr q
theorem Lk.rd {H H' : Hp} (L : Lk H H' a od vs) {b : Addr} {ws : List (Key × V)} (q : Rd H b (.dK ws)) : Rd H' b (.dK ws) := by
  by_cases z : b = a
  · subst z
    have e : ws = vs := by
      rcases q with q | ⟨o, q⟩ <;> rcases L.at_ with e | e <;> rw [e] at q <;> cases q <;> rfl
    subst e
    rcases L.at' with e | e
    · exact .inl e
    · exact .inr ⟨_, e⟩
  · rcases q with q | ⟨o, q⟩
    · exact .inl (by rw [L.ne b z]; exact q)
    · exact .inr ⟨o, by rw [L.ne b z]; exact q⟩
theorem Lk.other {H H' : Hp} (L : Lk H H' a od vs) {b : Addr} {u : HO} (q : H b = some u) (n1 : ∀ ws, u ≠ .dK ws) (n2 : ∀ o w, u ≠ .frz o w) : H' b = some u := by
  rw [L.ne b (fun z => by rw [z] at q; rcases L.at_ with e | e <;> rw [e] at q <;> cases q <;> first | exact n1 _ rfl | exact n2 _ _ rfl)]; exact q
theorem Lk.there {H H' : Hp} (L : Lk H H' a od vs) {b : Addr} (q : H b ≠ none) : H' b ≠ none := by
  by_cases z : b = a
  · subst z; rcases L.at' with e | e <;> rw [e] <;> simp
  · rw [L.ne b z]; exact q
theorem Lk.back {H H' : Hp} (L : Lk H H' a od vs) {b : Addr} (q : H' b = none) : H b = none := by
  by_cases z : b = a
  · subst z; rcases L.at' with e | e <;> rw [e] at q <;> cases q
  · rw [← L.ne b z]; exact q
theorem lk_lock (e : H a = some (.dK vs)) : Lk H (upd H a (.frz od (.dK vs))) a od vs := ⟨fun b z => upd_ne z, .inl e, .inr upd_same⟩
theorem lk_unl (e : H a = some (.frz od (.dK vs))) : Lk H (upd H a (.dK vs)) a od vs := ⟨fun b z => upd_ne z, .inr e, .inl upd_same⟩
mutual
theorem VD.lk {H H' : Hp} (L : Lk H H' a od vs) : ∀ {d : D} {v : V}, VD G S H d v → VD G S H' d v
  | _, _, .non => .non
  | _, _, .bl b => .bl b
  | _, _, .int b => .int b
  | _, _, .str b => .str b
  | _, _, .tup q r => .tup (L.seqT q) (VDs.lk L r)
  | _, _, .scr q => .scr (L.seqF q)
  | _, _, .lst q n r => .lst (L.other q (fun _ z => by cases z) (fun _ _ z => by cases z)) n (VDs.lk L r)
  | _, _, .dct q n r => .dct (L.rd q) n (VDk.lk L r)
  | _, _, .ins q n r => .ins (L.other q (fun _ z => by cases z) (fun _ _ z => by cases z)) n (VDf.lk L r)
  | _, _, .ref hi => .ref hi
theorem VDs.lk {H H' : Hp} (L : Lk H H' a od vs) : ∀ {d : List D} {v : List V}, VDs G S H d v → VDs G S H' d v
  | _, _, .nil => .nil
  | _, _, .cons q r => .cons (VD.lk L q) (VDs.lk L r)
theorem VDk.lk {H H' : Hp} (L : Lk H H' a od vs) : ∀ {d : List (Key × D)} {v : List (Key × V)}, VDk G S H d v → VDk G S H' d v
  | _, _, .nil => .nil
  | _, _, .cons q r => .cons (VD.lk L q) (VDk.lk L r)
theorem VDf.lk {H H' : Hp} (L : Lk H H' a od vs) : ∀ {d : List (Str × D)} {v : List (Str × V)}, VDf G S H d v → VDf G S H' d v
  | _, _, .nil => .nil
  | _, _, .cons q r => .cons (VD.lk L q) (VDf.lk L r)
end
theorem EnR.lk {G : Cf} {H H' : Hp} {e : En} {σ : L2.St} (L : Lk H H' a od vs) (E : EnR G S H e σ) : EnR G S H' e σ :=
  ⟨E.len, fun i d h => let ⟨v, x, y⟩ := E.at_ i d h; ⟨v, x, y.lk L⟩, E.cur⟩
/-- an object of the small heap that isn't at a -/
theorem OD.lk {H H' : Hp} (L : Lk H H' a od vs) {b : Addr} (hb : b ≠ a) {o : O} (x : OD G S H b o) : OD G S H' b o := by
  have e := L.ne b hb
  cases x with
  | lst q v => exact .lst (by rw [e]; exact q) (v.lk L)
  | dct q v => exact .dct (by rw [e]; exact q) (v.lk L)
  | ins q v => exact .ins (by rw [e]; exact q) (v.lk L)
  | lckL q v => exact .lckL (by rw [e]; exact q) (v.lk L)
  | lckD q v => exact .lckD (by rw [e]; exact q) (v.lk L)
/-- a frozen dict is locked, unlocked: the small heap is as it was -/
theorem Rel.lk {H H' : Hp} (L : Lk H H' a od vs) (nb : ¬ S.B a) (R : Rel G S h H) : Rel G S h H' :=
  ⟨R.len, R.bad, R.inj, fun b z => L.there (R.live b z), fun i o e => (R.obj i o e).lk L fun z => nb (z ▸ R.bad i (by rw [← R.len]; exact (List.getElem?_eq_some_iff.mp e).1))⟩
/-- a dict of the small heap is locked, unlocked -/
theorem Rel.lkI {H H' : Hp} {i : Nat} {o : O} (L : Lk H H' (S.r i) od vs) (hi : i < S.n) (R : Rel G S h H) (ho : OD G S H' (S.r i) o) : Rel G S (h.set i o) H' where
  len := by rw [List.length_set]; exact R.len
  bad := R.bad
  inj := R.inj
  live := fun b z => L.there (R.live b z)
  obj := fun j q e => by
    by_cases z : j = i
    · subst z
      rw [List.getElem?_set_self (by rw [R.len]; exact hi)] at e
      cases e
      exact ho
    · rw [List.getElem?_set_ne (fun y => z y.symm)] at e
      have hj : j < S.n := by rw [← R.len]; exact (List.getElem?_eq_some_iff.mp e).1
      exact (R.obj j q e).lk L fun y => z (R.inj j i hj hi y)
/-- from the heap ahead of the lock to the one behind the unlocking -/
theorem Nx.unl {S1 S2 : Rho} {H1 H2 : Hp} (e : H1 a = some (.dK vs)) (N : Nx G S1 (upd H1 a (.frz od (.dK vs))) S2 H2) : Nx G S1 H1 S2 (upd H2 a (.dK vs)) := by
  have L1 : Lk H1 (upd H1 a (.frz od (.dK vs))) a od vs := lk_lock e
  have e2 : H2 a = some (.frz od (.dK vs)) := N.frz a od _ upd_same
  have L2 : Lk H2 (upd H2 a (.dK vs)) a od vs := lk_unl e2
  have ne : ∀ {b : Addr}, H1 b = none → b ≠ a := fun z y => by rw [y, e] at z; cases z
  exact ⟨N.n, N.r, fun i h1 h2 => L1.back (N.new i h1 h2), N.up, fun b z => (N.dn b z).imp_right L1.back, fun b u n q => by
    by_cases z : b = a
    · subst z; rw [e] at q; cases q; exact upd_same
    · rw [upd_ne z]; exact N.keep b u n (by rw [upd_ne z]; exact q), fun b q => L2.there (N.there b (L1.there q)), fun b xs q => L2.seqT (N.seqT b xs (L1.seqT q)), fun b xs q => L2.seqF (N.seqF b xs (L1.seqF q)), fun b o u q => by
    have z : b ≠ a := fun y => by rw [y, e] at q; cases q
    rw [upd_ne z]; exact N.frz b o u (by rw [upd_ne z]; exact q)⟩
end
/-! ### what is handed over -/
inductive Dw where
  | ks | km | vs | its
  deriving DecidableEq
def itsD : Dw → List (Key × D) → List D
  | .ks, l => l.map fun p => kD p.1
  | .km, l => l.map fun p => kD p.1
  | .vs, l => l.map (·.2)
  | .its, l => l.map fun p => .tup [kD p.1, p.2]
def Dw.J (K : PySem.W.Frag) : Dw → Addr → Obj → List (Key × V) → It
  | .ks => Itk
  | .km => Itk
  | .vs => Itd
  | .its => Iti
def lkK (h : Hh) : D → Option (List (Key × D))
  | .dct l => some l
  | .ref i => match h[i]? with
    | some (.lck (.dct l)) => some l
    | _ => none
  | _ => none
def dwAt (w : Dw) (d : D) : Hh → Nat → Option (Option D) := fun h i => match lkK h d with
  | some l => some (itsD w l)[i]?
  | none => none
theorem kD_at {G : Cg} {S : Rho} {H : Hp} (k : Key) : VD G S H (kD k) (kV k) := by
  cases k with
  | inl n => exact .int n
  | inr s => exact .str s
theorem VDk.get {G : Cg} {S : Rho} {H : Hp} : ∀ {l : List (Key × D)} {vs : List (Key × V)} (i : Nat), VDk G S H l vs → (l[i]? = none ∧ vs.length ≤ i) ∨ ∃ k d v, l[i]? = some (k, d) ∧ vs[i]? = some (k, v) ∧ VD G S H d v
  | _, _, i, .nil => .inl ⟨rfl, Nat.zero_le _⟩
  | _, _, 0, .cons a _ => .inr ⟨_, _, _, rfl, rfl, a⟩
  | _, _, i + 1, .cons _ t => by
    rcases VDk.get i t with ⟨q1, q2⟩ | ⟨k, d, v, q1, q2, q3⟩
    · exact .inl ⟨by simpa using q1, by simpa using q2⟩
    · exact .inr ⟨k, d, v, by simpa using q1, by simpa using q2, q3⟩
theorem itsD_none {l : List (Key × D)} {i : Nat} (w : Dw) (h : l[i]? = none) : (itsD w l)[i]? = none := by
  cases w <;> simp only [itsD, List.getElem?_map, h, Option.map_none]
/-- one turn -/
theorem dw_turn {G : Cg} {S : Rho} {H : Hp} {h : Hh} {w : Dw} {K : PySem.W.Frag} {a : Addr} {od : Obj} {l : List (Key × D)} {vs : List (Key × V)} (R : Rel G S h H) (e : H a = some (.frz od (.dK vs))) (r : VDk G S H l vs) (i : Nat) :
    ((itsD w l)[i]? = none → (w.J K a od vs).stop i H) ∧ ∀ d, (itsD w l)[i]? = some d → (w.J K a od vs).go i H ∧ ∀ x H', (w.J K a od vs).yld i H x H' → Nx G S H S H' ∧ Rel G S h H' ∧ VD G S H' d x := by
  rcases r.get i with ⟨q1, q2⟩ | ⟨k, d, v, q1, q2, q3⟩
  · refine ⟨fun _ => by cases w <;> exact ⟨e, q2⟩, fun d z => by rw [itsD_none w q1] at z; cases z⟩
  · have hl : i < vs.length := (List.getElem?_eq_some_iff.mp q2).1
    refine ⟨fun z => ?_, fun d' z => ⟨by cases w <;> exact ⟨e, hl⟩, fun x H' y => ?_⟩⟩
    · cases w <;> simp only [itsD, List.getElem?_map, q1, Option.map_some] at z <;> cases z
    · cases w with
      | ks =>
        simp only [itsD, List.getElem?_map, q1, Option.map_some, Option.some.injEq] at z
        subst z
        obtain ⟨rfl, k2, v2, e2, rfl⟩ := y
        rw [q2] at e2
        cases e2
        exact ⟨.refl, R, kD_at k⟩
      | km =>
        simp only [itsD, List.getElem?_map, q1, Option.map_some, Option.some.injEq] at z
        subst z
        obtain ⟨rfl, k2, v2, e2, rfl⟩ := y
        rw [q2] at e2
        cases e2
        exact ⟨.refl, R, kD_at k⟩
      | vs =>
        simp only [itsD, List.getElem?_map, q1, Option.map_some, Option.some.injEq] at z
        subst z
        obtain ⟨rfl, k2, e2⟩ := y
        rw [q2] at e2
        cases e2
        exact ⟨.refl, R, q3⟩
      | its =>
        simp only [itsD, List.getElem?_map, q1, Option.map_some, Option.some.injEq] at z
        subst z
        obtain ⟨T, k2, v2, e2, rfl, hT, rfl⟩ := y
        rw [q2] at e2
        cases e2
        exact new_tup R (.cons (kD_at k) (.cons q3 .nil)) hT
/-- the dict is there in the heap, what is walked -/
theorem walks_dw {G : Cg} {S : Rho} {H : Hp} {w : Dw} {K : PySem.W.Frag} {a : Addr} {od : Obj} {d : D} {vs : List (Key × V)} (bad : ∀ i, i < S.n → S.B (S.r i)) (e : H a = some (.frz od (.dK vs))) (x : VD G S H d (.ref a)) : Walks G (w.J K a od vs) (dwAt w d) S H := fun S' h H' i N R => by
  have e' := N.frz a od _ e
  have x' := x.mono N bad
  unfold dwAt
  cases q : lkK h d with
  | none => exact ⟨fun z => (by cases z), fun d z => (by cases z)⟩
  | some l =>
    have r : VDk G S' H' l vs := by
      cases x' with
      | dct q1 q2 q3 =>
        cases q
        rcases q1 with q1 | ⟨o, q1⟩
        · rw [e'] at q1; cases q1
        · rw [e'] at q1; cases q1; exact q3
      | @ref j hj =>
        have q' : (match h[j]? with | some (.lck (.dct l)) => some l | _ => none) = some l := q
        split at q'
        · rename_i l' ql
          cases q'
          cases R.obj j _ ql with
          | lckD q1 q2 => rw [e'] at q1; cases q1; exact q2
        · cases q'
      | _ => cases q
    obtain ⟨t1, t2⟩ := dw_turn (w := w) (K := K) R e' r i
    exact ⟨fun z => t1 (Option.some.inj z), fun d z => t2 d (Option.some.inj z)⟩
/-! ### for, with the dict locked -/
theorem for_core {G : Cf} {W : WX} {S1 : Rho} {H1 : Hp} {h1 : Hh} {e1 : En} {σ : L2.St} {J : It} {at_ : Hh → Nat → Option (Option D)} {g : Tg} {b : FS} {n : Nat} {Z : Ends} (w : Walks G J at_ S1 H1) (R1 : Rel G S1 h1 H1) (E1 : EnR G S1 H1 e1 σ) (P1 : PstS G W S1 H1 (forS at_ g b n 0 e1 h1) Z) :
    ∃ W' : Nat → Nat → L2.St → Hp → Prop, (∃ m, W' 0 m σ H1) ∧ ∀ i m σ H, W' i m σ H →
      (J.stop i H ∧ Z.nx σ H) ∨ (J.go i H ∧ ∃ N : L2.St → Hp → Prop, (∀ σ' H', N σ' H' → ∃ m', m' < m ∧ W' (i + 1) m' σ' H') ∧ ∀ x H', J.yld i H x H' → gT G g x σ H' fun σ2 H2 => tS G W b { Z with nx := N, ct := N, bk := Z.nx } σ2 H2) := by
  refine ⟨fun i m σ H => ∃ S h e, Nx G S1 H1 S H ∧ Rel G S h H ∧ EnR G S H e σ ∧ PstS G W S H (forS at_ g b m i e h) Z, ⟨n, S1, h1, e1, .refl, R1, E1, P1⟩, ?_⟩
  rintro i m σ2 H2 ⟨S2, h2, e2, N2, R2, E2, P2⟩
  obtain ⟨w1, w2⟩ := w S2 h2 H2 i N2 R2
  unfold forS at P2
  split at P2
  · rename_i q
    exact .inl ⟨w1 q, P2.next R2 E2⟩
  · rename_i d q
    obtain ⟨g1, g2⟩ := w2 d q
    refine .inr ⟨g1, ?_⟩
    cases m with
    | zero => exact P2.elim
    | succ m =>
      simp only at P2
      split at P2
      · rename_i e3 q3
        refine ⟨fun σ' H' => ∃ S h e, Nx G S1 H1 S H' ∧ Rel G S h H' ∧ EnR G S H' e σ' ∧ PstS G W S H' (forS at_ g b m (i + 1) e h) Z, fun σ' H' z => ⟨m, Nat.lt_succ_self m, z⟩, fun x H3 y => ?_⟩
        obtain ⟨N3, R3, x3⟩ := g2 x H3 y
        refine ⟨S2, h2, e2, d, e3, R3, E2.mono N3 R2.bad, x3, q3, fun σ4 E4 _ => ⟨S2, h2, e3, R3, E4, ?_⟩⟩
        have P3 := PstS.mono P2 N3
        cases q5 : b e3 h2 with
        | nx e5 h5 => rw [q5] at P3; exact fun S' H' σ' N R' E' => ⟨S', h5, e5, (N2.trans N3).trans N, R', E', PstS.mono (r := forS at_ g b m (i + 1) e5 h5) P3 N⟩
        | ct e5 h5 => rw [q5] at P3; exact fun S' H' σ' N R' E' => ⟨S', h5, e5, (N2.trans N3).trans N, R', E', PstS.mono (r := forS at_ g b m (i + 1) e5 h5) P3 N⟩
        | bk e5 h5 => rw [q5] at P3; exact P3
        | rt _ _ => rw [q5] at P3; exact P3
        | exc _ _ _ _ => rw [q5] at P3; exact P3
        | fail => rw [q5] at P3; exact P3
      · exact P2.elim
  · exact P2.elim
theorem tS_W0 {G : Cf} {W : WX} {b : FS} {Z : Ends} {σ : L2.St} {H : Hp} (h : tS G W0 b Z σ H) : tS G W b Z σ H := by
  obtain ⟨S, h, e, R, E, P⟩ := h
  refine ⟨S, h, e, R, E, ?_⟩
  cases q : b e h with
  | exc c fs e1 h1 =>
    rw [q] at P
    exact fun S' H' σ' d N R' E' x => (P S' H' σ' d N R' E' x).elim
  | nx e1 h1 => rw [q] at P; exact P
  | rt d h1 => rw [q] at P; exact P
  | bk e1 h1 => rw [q] at P; exact P
  | ct e1 h1 => rw [q] at P; exact P
  | fail => rw [q] at P; exact P
/-- an end; i: the dict of the small heap that is unlocked -/
def unlR (i : Nat) (l : List (Key × D)) : RS → RS
  | .nx e h => .nx e (h.set i (.dct l))
  | .rt d h => .rt d (h.set i (.dct l))
  | _ => .fail
def calR : RS → RS
  | .nx e h => .nx e h
  | .rt d h => .rt d h
  | _ => .fail
def forDw (w : Dw) (d : D) (g : Tg) (b : FS) (e : En) (h : Hh) : RS := match d with
  | .dct l => calR (forS (dwAt w d) g b l.length 0 e h)
  | .ref i => match h[i]? with
    | some (.dct l) => unlR i l (forS (dwAt w d) g b l.length 0 e (h.set i (.lck (.dct l))))
    | some (.lck (.dct l)) => calR (forS (dwAt w d) g b l.length 0 e h)
    | _ => .fail
  | _ => .fail
def sForD (w : Dw) (f : F D) (g : Tg) (b : FS) : FS := fun e h => (f e h).st e fun d h1 => forDw w d g b e h1
theorem cal_W0 {G : Cf} {W : WX} {S : Rho} {H : Hp} {r : RS} {Z : Ends} (P : PstS G W S H (calR r) Z) : PstS G W0 S H r Z := by
  cases r with
  | nx e h => exact P
  | rt d h => exact P
  | _ => exact P.elim
theorem PstS.ends {G : Cf} {W : WX} {S : Rho} {H : Hp} {r : RS} {Z Z' : Ends} (P : PstS G W S H r Z) (h1 : ∀ σ H, Z.nx σ H → Z'.nx σ H) (h2 : ∀ v H, Z.rt v H → Z'.rt v H) (h3 : ∀ σ H, Z.bk σ H → Z'.bk σ H) (h4 : ∀ σ H, Z.ct σ H → Z'.ct σ H) : PstS G W S H r Z' := by
  cases r with
  | nx e h => exact fun S' H' σ' N R E => h1 _ _ (P S' H' σ' N R E)
  | rt d h => exact fun S' H' v N R x => h2 _ _ (P S' H' v N R x)
  | bk e h => exact fun S' H' σ' N R E => h3 _ _ (P S' H' σ' N R E)
  | ct e h => exact fun S' H' σ' N R E => h4 _ _ (P S' H' σ' N R E)
  | exc c fs e h => exact P
  | fail => exact P
theorem unl_ends {G : Cf} {W : WX} {X : Cx} {S : Rho} {H : Hp} {r : RS} {Z : Ends} (P : PstS G W S H r Z) : PstS G W S H r (unlD X Z) := P.ends (fun _ _ => .inl) (fun _ _ => .inl) (fun _ _ => .inl) (fun _ _ => .inl)
theorem unlR_ends {G : Cf} {W : WX} {X : Cx} {S1 : Rho} {H1 : Hp} {a : Addr} {od : Obj} {vs : List (Key × V)} {i : Nat} {l : List (Key × D)} {r : RS} {Z : Ends} (hi : i < S1.n) (ha : S1.r i = a) (e : H1 a = some (.dK vs)) (rl : VDk G S1 H1 l vs) (bad : ∀ i, i < S1.n → S1.B (S1.r i)) (f : Fresh0 X a) (P : PstS G W S1 H1 (unlR i l r) Z) : PstS G W0 S1 (upd H1 a (.frz od (.dK vs))) r (unlD X Z) := by
  subst ha
  have key : ∀ S' H' h', Nx G S1 (upd H1 (S1.r i) (.frz od (.dK vs))) S' H' → Rel G S' h' H' → H' (S1.r i) = some (.frz od (.dK vs)) ∧ Lk H' (upd H' (S1.r i) (.dK vs)) (S1.r i) od vs ∧ Nx G S1 H1 S' (upd H' (S1.r i) (.dK vs)) ∧ Rel G S' (h'.set i (.dct l)) (upd H' (S1.r i) (.dK vs)) := fun S' H' h' N R => by
    have e2 : H' (S1.r i) = some (.frz od (.dK vs)) := N.frz _ od _ upd_same
    have N2 := N.unl e
    have L := lk_unl (a := S1.r i) e2
    refine ⟨e2, L, N2, ?_⟩
    have hr := N.r i hi
    have hi' : i < S'.n := Nat.lt_of_lt_of_le hi N.n
    have L' : Lk H' (upd H' (S1.r i) (.dK vs)) (S'.r i) od vs := by rw [hr]; exact L
    refine Rel.lkI L' hi' R ?_
    rw [hr]
    exact .dct upd_same (rl.mono N2 bad)
  cases r with
  | nx e1 h1 =>
    intro S' H' σ' N R E
    obtain ⟨e2, L, N2, R2⟩ := key S' H' h1 N R
    exact .inr ⟨S1.r i, od, .dK vs, e2, f, P S' _ σ' N2 R2 (E.lk L)⟩
  | rt d h1 =>
    intro S' H' v N R x
    obtain ⟨e2, L, N2, R2⟩ := key S' H' h1 N R
    exact .inr ⟨S1.r i, od, .dK vs, e2, f, P S' _ v N2 R2 (x.lk L)⟩
  | _ => exact P.elim
theorem calR_ends {G : Cf} {W : WX} {X : Cx} {S1 : Rho} {H1 : Hp} {a : Addr} {od : Obj} {vs : List (Key × V)} {r : RS} {Z : Ends} (nb : ¬ S1.B a) (e : H1 a = some (.dK vs)) (f : Fresh0 X a) (P : PstS G W S1 H1 (calR r) Z) : PstS G W0 S1 (upd H1 a (.frz od (.dK vs))) r (unlD X Z) := by
  have key : ∀ S' H' h', Nx G S1 (upd H1 a (.frz od (.dK vs))) S' H' → Rel G S' h' H' → H' a = some (.frz od (.dK vs)) ∧ Lk H' (upd H' a (.dK vs)) a od vs ∧ Nx G S1 H1 S' (upd H' a (.dK vs)) ∧ Rel G S' h' (upd H' a (.dK vs)) := fun S' H' h' N R => by
    have e2 : H' a = some (.frz od (.dK vs)) := N.frz _ od _ upd_same
    have L := lk_unl (a := a) e2
    exact ⟨e2, L, N.unl e, R.lk L (N.nb nb (by rw [upd_same]; simp))⟩
  cases r with
  | nx e1 h1 =>
    intro S' H' σ' N R E
    obtain ⟨e2, L, N2, R2⟩ := key S' H' h1 N R
    exact .inr ⟨a, od, .dK vs, e2, f, P S' _ σ' N2 R2 (E.lk L)⟩
  | rt d h1 =>
    intro S' H' v N R x
    obtain ⟨e2, L, N2, R2⟩ := key S' H' h1 N R
    exact .inr ⟨a, od, .dK vs, e2, f, P S' _ v N2 R2 (x.lk L)⟩
  | _ => exact P.elim
/-- what is walked is read as told -/
structure IterOk (X : Cx) (w : Dw) (tg a iter : Expr) : Prop where
  run : ∀ {G : Cf} {W : WX} {f : F D}, PE X a (tE G W f) → PI X tg iter (tLk X (tE G W f) (w.J X.K))
theorem tFor_W0 {G : Cf} {W : WX} {wi : TI} {g : TG} {b : FS} {Z : Ends} {σ : L2.St} {H : Hp} (h : tFor wi g (tS G W0 b) Z σ H) (mono : ∀ {R R' : It → Hp → Prop}, (∀ J H, R J H → R' J H) → wi σ H R → wi σ H R') (gm : ∀ {x σ H} {Q Q' : L2.St → Hp → Prop}, (∀ σ H, Q σ H → Q' σ H) → g x σ H Q → g x σ H Q') : tFor wi g (tS G W b) Z σ H := by
  refine mono (fun J H1 ⟨W', w0, w1⟩ => ⟨W', w0, fun i m σ H w => ?_⟩) h
  rcases w1 i m σ H w with z | ⟨z, N, n1, n2⟩
  · exact .inl z
  · exact .inr ⟨z, N, n1, fun x H' y => gm (fun _ _ => tS_W0) (n2 x H' y)⟩
theorem gT_mono {G : Cf} {g : Tg} {x : V} {σ : L2.St} {H : Hp} {Q Q' : L2.St → Hp → Prop} (h : ∀ σ H, Q σ H → Q' σ H) (q : gT G g x σ H Q) : gT G g x σ H Q' := by
  obtain ⟨S, h0, e, d, e', R, E, r, b, k⟩ := q
  exact ⟨S, h0, e, d, e', R, E, r, b, fun σ' E' a => h _ _ (k σ' E' a)⟩
theorem s_forD {X : Cx} {G : Cf} {W : WX} {tg a iter : Expr} {body : List Stmt} {f : F D} {w : Dw} {g : Tg} {b : FS} {pos : Pos} (hc : X.calm = true) (hp : PassesOwn (model X.prog X.w) X.A X.env X.xe) (ha : PE X a (tE G W f)) (hi : IterOk X w tg a iter) (hg : PG X tg (gT G g)) (hb : PSs X body (tS G W b)) (hs : noSetT iter = true) :
    PS X (.For tg iter body [] pos) (tS G W (sForD w f g b)) :=
  PS.imp (ps_unl (ps_for hp hc (hi.run ha) hg hb (folded_of hs))) fun Z σ H ⟨S, h, e, R, E, P⟩ => by
    refine ⟨S, h, e, R, E, P.st R E fun d h1 S1 H1 v _ N1 R1 v1 P1 => ?_⟩
    have E1 := E.mono N1 R.bad
    -- the loop, by a locked heap
    have fin : ∀ (od : Obj) (vs : List (Key × V)) (ad : Addr) (h2 : Hh) (H2 : Hp) (n : Nat), H2 ad = some (.frz od (.dK vs)) → VD G S1 H2 d (.ref ad) → Rel G S1 h2 H2 → EnR G S1 H2 e σ → PstS G W0 S1 H2 (forS (dwAt w d) g b n 0 e h2) (unlD X Z) →
        ∃ W' : Nat → Nat → L2.St → Hp → Prop, (∃ m, W' 0 m σ H2) ∧ ∀ i m σ H, W' i m σ H → ((w.J X.K ad od vs).stop i H ∧ (unlD X Z).nx σ H) ∨ ((w.J X.K ad od vs).go i H ∧ ∃ N : L2.St → Hp → Prop, (∀ σ' H', N σ' H' → ∃ m', m' < m ∧ W' (i + 1) m' σ' H') ∧ ∀ x H', (w.J X.K ad od vs).yld i H x H' → gT G g x σ H' fun σ2 H2 => tS G W b { unlD X Z with nx := N, ct := N, bk := (unlD X Z).nx } σ2 H2) := fun od vs ad h2 H2 n e2 x2 R2 E2 P2 => by
      obtain ⟨W', w0, w1⟩ := for_core (walks_dw (w := w) (K := X.K) R2.bad e2 x2) R2 E2 P2
      refine ⟨W', w0, fun i m σ H w => ?_⟩
      rcases w1 i m σ H w with z | ⟨z, N, n1, n2⟩
      · exact .inl z
      · exact .inr ⟨z, N, n1, fun x H' y => gT_mono (fun _ _ => tS_W0) (n2 x H' y)⟩
    have P2 : PstS G W S1 H1 (forDw w d g b e h1) Z := P1
    clear P1
    cases v1 with
    | @dct l ad vs q nb r =>
      have P3 : PstS G W S1 H1 (calR (forS (dwAt w (.dct l)) g b l.length 0 e h1)) Z := P2
      refine ⟨ad, vs, rfl, ?_⟩
      rcases q with q | ⟨o, q⟩
      · refine .inl ⟨q, fun od fr => ?_⟩
        have L := lk_lock (od := od) q
        exact fin od vs ad h1 _ l.length upd_same (.dct (.inr ⟨od, upd_same⟩) nb (r.lk L)) (R1.lk L nb) (E1.lk L) (calR_ends nb q fr P3)
      · exact .inr ⟨o, q, fin o vs ad h1 H1 l.length q (.dct (.inr ⟨o, q⟩) nb r) R1 E1 (unl_ends (cal_W0 P3))⟩
    | @ref i hi2 =>
      have P3 : PstS G W S1 H1 (match h1[i]? with
        | some (.dct l) => unlR i l (forS (dwAt w (.ref i)) g b l.length 0 e (h1.set i (.lck (.dct l))))
        | some (.lck (.dct l)) => calR (forS (dwAt w (.ref i)) g b l.length 0 e h1)
        | _ => .fail) Z := P2
      split at P3
      · rename_i l ql
        cases R1.obj i _ ql with
        | @dct _ vs q r =>
          refine ⟨S1.r i, vs, rfl, .inl ⟨q, fun od fr => ?_⟩⟩
          have L := lk_lock (od := od) q
          exact fin od vs _ _ _ l.length upd_same (.ref hi2) (Rel.lkI L hi2 R1 (.lckD upd_same (r.lk L))) (E1.lk L) (unlR_ends hi2 rfl q r R1.bad fr P3)
      · rename_i l ql
        cases R1.obj i _ ql with
        | @lckD _ vs o q r =>
          exact ⟨S1.r i, vs, rfl, .inr ⟨o, q, fin o vs _ h1 H1 l.length q (.ref hi2) R1 E1 (unl_ends (cal_W0 P3))⟩⟩
      · exact P3.elim
    | _ => exact P2.elim
theorem it_ks {X : Cx} {tg a : Expr} : IterOk X .ks tg a a := ⟨fun h => pi_keysL h⟩
theorem it_km {X : Cx} {tg a : Expr} {p q : Pos} (hb : okBase a = true) (hl : (p.endLine == q.line) = true) : IterOk X .km tg a (.Call (.Attribute a "keys" p) [] [] q) := ⟨fun h => pi_keysML h (base_of hb _ _ _) hl⟩
theorem it_vs {X : Cx} {tg a : Expr} {p q : Pos} (hb : okBase a = true) (hl : (p.endLine == q.line) = true) : IterOk X .vs tg a (.Call (.Attribute a "values" p) [] [] q) := ⟨fun h => pi_valuesL h (base_of hb _ _ _) hl⟩
theorem it_its {X : Cx} {es : List Expr} {kk : Nat} {tp : Pos} {a : Expr} {p q : Pos} (hb : okBase a = true) (hl : (p.endLine == q.line) = true) : IterOk X .its (.Tuple es kk tp) a (.Call (.Attribute a "items" p) [] [] q) := ⟨fun h => pi_itemsL h (base_of hb _ _ _) hl⟩
/-! ### comprehensions over a dict -/
theorem lc_mid {G : Cf} {g : Tg} {t : F Bool} {f : F D} (hcu : G.cur = none) (vs : List Nat) (hsl : ∀ i ∈ slotsT g, i ∈ vs) {S1 : Rho} {H1 : Hp} {h1 h2 : Hh} {e : En} {σ : L2.St} {J : It} {at_ : Hh → Nat → Option (Option D)} {n : Nat} {l : List D} {p : Addr} {Q : VK}
    (w : Walks G J at_ S1 H1) (R1 : Rel G S1 h1 H1) (E1 : EnR G S1 H1 e σ) (hp : H1 p = none) (q : compS at_ g t f n 0 (wipeE e vs) h1 = some (l, h2)) (hn : n ≤ sizeLine) (fin : ∀ S' H', Nx G S1 H1 S' H' → Rel G S' h2 H' → VD G S' H' (.lst l) (.ref p) → Q (.ref p) H') :
    ∃ W : Nat → Nat → Hp → Prop, (∃ m, W 0 m (upd H1 p (.lst []))) ∧ ∀ i m H, W i m H →
      (J.stop i H ∧ Q (.ref p) H) ∨ (J.go i H ∧ ∃ Nx : Hp → Prop, (∀ H', Nx H' → ∃ m', m' < m ∧ W (i + 1) m' H') ∧ ∀ x H', J.yld i H x H' → gT G g x (wipe σ vs) H' fun σ2 H2 => wipe σ2 vs = wipe σ vs ∧ tT G W0 t σ2 H2 fun b H3 =>
        if b = true then tE G W0 f σ2 H3 fun y H4 => ∃ acc, H4 p = some (.lst acc) ∧ acc.length < sizeLine ∧ Nx (upd H4 p (.lst (acc ++ [y]))) else Nx H3) := by
  refine ⟨fun i m H => ∃ S4 h4 acc vacc l', Nx G S1 H1 S4 H ∧ Rel G S4 h4 H ∧ S4.B p ∧ (∀ i, i < S4.n → S4.r i ≠ p) ∧ H p = some (.lst vacc) ∧ VDs G S4 H acc vacc ∧ acc.length ≤ i ∧ i + m = n ∧
    compS at_ g t f m i (wipeE e vs) h4 = some (l', h2) ∧ l = acc ++ l', ⟨n, ?_⟩, ?_⟩
  · -- the start
    have k := keeps_new (o := .lst []) hp
    have N2 : Nx G S1 H1 (S1.ban p) (upd H1 p (.lst [])) := ⟨Nat.le_refl _, fun _ _ => rfl, fun i a b => absurd b (Nat.not_lt.mpr a), fun _ z => .inl z, fun b z => z.elim .inl fun y => .inr (by rw [y]; exact hp), fun b u _ e => k b u e,
      (Nx.same (G := G) (S := S1) k).there, (Nx.same (G := G) (S := S1) k).seqT, (Nx.same (G := G) (S := S1) k).seqF, (Nx.same (G := G) (S := S1) k).frz⟩
    have ne : ∀ i, i < S1.n → S1.r i ≠ p := fun i hi z => R1.nb hp (z ▸ R1.bad i hi)
    refine ⟨S1.ban p, h1, [], [], l, N2, ⟨R1.len, fun i hi => .inl (R1.bad i hi), R1.inj, fun b z => ?_, fun i o q => (R1.obj i o q).mono N2 R1.bad fun u q => k _ u q⟩, .inr rfl, ne, upd_same, .nil, Nat.le_refl _, Nat.zero_add _, q, rfl⟩
    rcases z with z | z
    · exact N2.there b (R1.live b z)
    · rw [z, upd_same]; simp
  · rintro i m H4 ⟨S4, h4, acc, vacc, l', N4, R4, hb, ne, hpl, va, la, im, q4, el⟩
    obtain ⟨w1, w2⟩ := w S4 h4 H4 i N4 R4
    unfold compS at q4
    split at q4
    · -- the end
      rename_i qa
      cases q4
      refine .inl ⟨w1 qa, ?_⟩
      rw [List.append_nil] at el
      subst el
      have hB : ∀ b, (S4.unban p).B b → S4.B b := fun b z => z.1
      refine fin (S4.unban p) H4 ⟨N4.n, N4.r, N4.new, fun b z => ⟨N4.up b z, fun y => R1.live b z (by rw [y]; exact hp)⟩, fun b z => N4.dn b z.1, N4.keep, N4.there, N4.seqT, N4.seqF, N4.frz⟩
        ⟨R4.len, fun i hi => ⟨R4.bad i hi, ne i hi⟩, R4.inj, fun b z => R4.live b z.1, fun i o q => OD.lessB (S := S4) (S' := S4.unban p) rfl rfl hB (R4.obj i o q)⟩ (.lst hpl (fun z => z.2 rfl) (VDs.lessB (S := S4) (S' := S4.unban p) rfl rfl hB va))
    · rename_i d qa
      obtain ⟨g1, g2⟩ := w2 d qa
      refine .inr ⟨g1, ?_⟩
      cases m with
      | zero => cases q4
      | succ m =>
        simp only at q4
        split at q4
        rotate_left
        · cases q4
        rename_i e1 qb
        refine ⟨fun H' => ∃ S4 h4 acc vacc l', Nx G S1 H1 S4 H' ∧ Rel G S4 h4 H' ∧ S4.B p ∧ (∀ i, i < S4.n → S4.r i ≠ p) ∧ H' p = some (.lst vacc) ∧ VDs G S4 H' acc vacc ∧ acc.length ≤ i + 1 ∧ (i + 1) + m = n ∧
          compS at_ g t f m (i + 1) (wipeE e vs) h4 = some (l', h2) ∧ l = acc ++ l', fun H' z => ⟨m, Nat.lt_succ_self m, z⟩, fun x H5 y => ?_⟩
        obtain ⟨N5, R5, x5⟩ := g2 x H5 y
        have N05 := N4.trans N5
        have E5 : EnR G S4 H5 (wipeE e vs) (wipe σ vs) := (E1.mono N05 R1.bad).wipe hcu vs
        -- what stays of the list apart
        have stay : ∀ {S6 H6}, Nx G S4 H4 S6 H6 → S6.B p ∧ (∀ i, i < S6.n → S6.r i ≠ p) ∧ H6 p = some (.lst vacc) := fun {S6 H6} N => by
          refine ⟨N.up p hb, fun i hi z => ?_, N.keep p _ ne hpl⟩
          by_cases k : i < S4.n
          · exact ne i k ((N.r i k).symm.trans z)
          · have := N.new i (Nat.not_lt.mp k) hi
            rw [z, hpl] at this
            cases this
        refine ⟨S4, h4, wipeE e vs, d, e1, R5, E5, x5, qb, fun σ2 E6 A6 => ⟨?_, ?_⟩⟩
        · exact (wipe_same ⟨A6.1, fun j hj => A6.2 j (fun z => hj (hsl j z))⟩).trans (wipe_wipe vs σ)
        refine ⟨S4, h4, e1, R5, E6, ?_⟩
        cases qt : t e1 h4 with
        | fail => rw [qt] at q4; cases q4
        | exc _ _ _ => rw [qt] at q4; cases q4
        | ok b h6 =>
          rw [qt] at q4
          simp only at q4
          intro S6 H6 b' N6 R6 eb
          subst eb
          have N46 := N5.trans N6
          cases b with
          | false =>
            obtain ⟨k1, k2, k3⟩ := stay N46
            exact ⟨S6, h6, acc, vacc, l', N4.trans N46, R6, k1, k2, k3, va.mono N46 R4.bad, by omega, by omega, q4, el⟩
          | true =>
            refine ⟨S6, h6, e1, R6, E6.mono N6 R5.bad, ?_⟩
            rw [if_pos rfl] at q4
            cases qf : f e1 h6 with
            | fail => rw [qf] at q4; cases q4
            | exc _ _ _ => rw [qf] at q4; cases q4
            | ok y7 h7 =>
              rw [qf] at q4
              simp only at q4
              intro S7 H7 v7 N7 R7 x7
              cases q8 : compS at_ g t f m (i + 1) (wipeE e vs) h7 with
              | none => rw [q8] at q4; cases q4
              | some z8 =>
                obtain ⟨l8, h8⟩ := z8
                rw [q8] at q4
                have N47 := N46.trans N7
                obtain ⟨k1, k2, k3⟩ := stay N47
                have va7 := va.mono N47 R4.bad
                have l1 := va7.length
                refine ⟨vacc, k3, by omega, S7, h7, acc ++ [y7], vacc ++ [v7], l8, (N4.trans N47).updB hp k3, R7.updB k1 k3 k2, k1, k2, upd_same, (va7.append (.cons x7 .nil)).updB k1 k3, by rw [List.length_append]; exact Nat.succ_le_succ la, by omega, ?_, ?_⟩
                · cases q4; exact q8
                · cases q4; rw [el, List.append_assoc]; rfl
    · cases q4
def endDw (i : Nat) (l : List (Key × D)) : Option (List D × Hh) → R D
  | some (r, h) => .ok (.lst r) (h.set i (.dct l))
  | none => .fail
def endCw : Option (List D × Hh) → R D
  | some (r, h) => .ok (.lst r) h
  | none => .fail
def compDw (w : Dw) (d : D) (g : Tg) (t : F Bool) (f : F D) (vs : List Nat) (e : En) (h : Hh) : R D := match d with
  | .dct l => if fits l.length = true then endCw (compS (dwAt w d) g t f l.length 0 (wipeE e vs) h) else .fail
  | .ref i => match h[i]? with
    | some (.dct l) => if fits l.length = true then endDw i l (compS (dwAt w d) g t f l.length 0 (wipeE e vs) (h.set i (.lck (.dct l)))) else .fail
    | some (.lck (.dct l)) => if fits l.length = true then endCw (compS (dwAt w d) g t f l.length 0 (wipeE e vs) h) else .fail
    | _ => .fail
  | _ => .fail
def dCompD (w : Dw) (fs : F D) (g : Tg) (t : F Bool) (f : F D) (vs : List Nat) : F D := fun e h => (fs e h).bind fun d h1 => compDw w d g t f vs e h1
theorem e_lcD {X : Cx} {G : Cf} {W : WX} {elt tg a iter : Expr} {ifs : List Expr} {scope : Scope} {own : List (Str × Nat)} {pos : Pos} {fs : F D} {w : Dw} {g : Tg} {t : F Bool} {f : F D} (hc : X.calm = true) (hN : X.N.Nodup) (hcu : G.cur = none) (ha : PE X a (tE G W fs)) (hi : IterOk X w tg a iter) (ok : BlkOk X.N X.env.scope scope own) (hsl : ∀ i ∈ slotsT g, i ∈ own.map (·.2))
    (hg : ∀ (s : Shared) (H : Hp) (C : Addr) (cl : List (Str × Addr)) (fp : List Addr), PG (X.blk s H scope (compEnvC scope cl C X.env) fp) tg (gT G g)) (ht : ∀ (s : Shared) (H : Hp) (C : Addr) (cl : List (Str × Addr)) (fp : List Addr), PTs (X.blk s H scope (compEnvC scope cl C X.env) fp) ifs (tT G W0 t))
    (he : ∀ (s : Shared) (H : Hp) (C : Addr) (cl : List (Str × Addr)) (fp : List Addr), PE (X.blk s H scope (compEnvC scope cl C X.env) fp) elt (tE G W0 f)) (hs : noSetT iter = true) :
    PE X (.ListComp elt [⟨tg, iter, ifs, 0⟩] scope pos) (tE G W (dCompD w fs g t f (own.map (·.2)))) :=
  PE.imp (pe_unl (pe_lc hc hN (hi.run ha) ok hg ht he (folded_of hs))) fun σ H Q ⟨S, h, e, R, E, P⟩ => by
    refine ⟨S, h, e, R, E, P.bind fun d h1 S1 H1 v _ N1 R1 v1 P1 => ?_⟩
    have E1 := E.mono N1 R.bad
    have P2 : Pst G (fun c d H => W c d σ H) S1 H1 (relV G) (compDw w d g t f (own.map (·.2)) e h1) Q := P1
    clear P1
    cases v1 with
    | @dct l ad vs q nb r =>
      have P3 : Pst G (fun c d H => W c d σ H) S1 H1 (relV G) (if fits l.length = true then endCw (compS (dwAt w (.dct l)) g t f l.length 0 (wipeE e (own.map (·.2))) h1) else .fail) Q := P2
      refine ⟨ad, vs, rfl, ?_⟩
      by_cases c : fits l.length = true
      rotate_left
      · rw [if_neg c] at P3; exact P3.elim
      rw [if_pos c] at P3
      cases qc : compS (dwAt w (.dct l)) g t f l.length 0 (wipeE e (own.map (·.2))) h1 with
      | none => rw [qc] at P3; exact P3.elim
      | some z =>
        obtain ⟨rr, h2⟩ := z
        rw [qc] at P3
        rcases q with q | ⟨o, q⟩
        · refine .inl ⟨q, fun od fr p hp => ?_⟩
          have L := lk_lock (od := od) q
          have R2 := R1.lk L nb
          have x2 : VD G S1 (upd H1 ad (.frz od (.dK vs))) (.dct l) (.ref ad) := .dct (.inr ⟨od, upd_same⟩) nb (r.lk L)
          refine lc_mid (Q := fun v H' => unlP X (Q v) H') hcu _ hsl (walks_dw (w := w) (K := X.K) R2.bad upd_same x2) R2 (E1.lk L) hp qc (fits_ok c) fun S' H' N R' x' => ?_
          have e2 : H' ad = some (.frz od (.dK vs)) := N.frz _ od _ upd_same
          have L2 := lk_unl (a := ad) e2
          exact .inr ⟨ad, od, .dK vs, e2, fr, P3 S' _ _ (N.unl q) (R'.lk L2 (N.nb nb (by rw [upd_same]; simp))) (x'.lk L2)⟩
        · refine .inr ⟨o, q, fun p hp => ?_⟩
          exact lc_mid (Q := fun v H' => unlP X (Q v) H') hcu _ hsl (walks_dw (w := w) (K := X.K) R1.bad q (.dct (.inr ⟨o, q⟩) nb r)) R1 E1 hp qc (fits_ok c) fun S' H' N R' x' => .inl (P3 S' _ _ N R' x')
    | @ref i hi2 =>
      have P3 : Pst G (fun c d H => W c d σ H) S1 H1 (relV G) (match h1[i]? with
        | some (.dct l) => if fits l.length = true then endDw i l (compS (dwAt w (.ref i)) g t f l.length 0 (wipeE e (own.map (·.2))) (h1.set i (.lck (.dct l)))) else .fail
        | some (.lck (.dct l)) => if fits l.length = true then endCw (compS (dwAt w (.ref i)) g t f l.length 0 (wipeE e (own.map (·.2))) h1) else .fail
        | _ => .fail) Q := P2
      split at P3
      · rename_i l ql
        cases R1.obj i _ ql with
        | @dct _ vs q r =>
          refine ⟨S1.r i, vs, rfl, .inl ⟨q, fun od fr p hp => ?_⟩⟩
          by_cases c : fits l.length = true
          rotate_left
          · rw [if_neg c] at P3; exact P3.elim
          rw [if_pos c] at P3
          cases qc : compS (dwAt w (.ref i)) g t f l.length 0 (wipeE e (own.map (·.2))) (h1.set i (.lck (.dct l))) with
          | none => rw [qc] at P3; exact P3.elim
          | some z =>
            obtain ⟨rr, h2⟩ := z
            rw [qc] at P3
            have L := lk_lock (od := od) q
            have R2 := Rel.lkI L hi2 R1 (.lckD upd_same (r.lk L))
            refine lc_mid (Q := fun v H' => unlP X (Q v) H') hcu _ hsl (walks_dw (w := w) (K := X.K) (d := .ref i) R2.bad upd_same (.ref hi2)) R2 (E1.lk L) hp qc (fits_ok c) fun S' H' N R' x' => ?_
            have e2 : H' (S1.r i) = some (.frz od (.dK vs)) := N.frz _ od _ upd_same
            have L2 := lk_unl (a := S1.r i) e2
            have hr := N.r i hi2
            have hi' : i < S'.n := Nat.lt_of_lt_of_le hi2 N.n
            have L' : Lk H' (upd H' (S1.r i) (.dK vs)) (S'.r i) od vs := by rw [hr]; exact L2
            have N2 := N.unl q
            have R3 : Rel G S' (h2.set i (.dct l)) (upd H' (S1.r i) (.dK vs)) := Rel.lkI L' hi' R' (by rw [hr]; exact .dct upd_same (r.mono N2 R1.bad))
            exact .inr ⟨S1.r i, od, .dK vs, e2, fr, P3 S' _ _ N2 R3 (x'.lk L2)⟩
      · rename_i l ql
        cases R1.obj i _ ql with
        | @lckD _ vs o q r =>
          refine ⟨S1.r i, vs, rfl, .inr ⟨o, q, fun p hp => ?_⟩⟩
          by_cases c : fits l.length = true
          rotate_left
          · rw [if_neg c] at P3; exact P3.elim
          rw [if_pos c] at P3
          cases qc : compS (dwAt w (.ref i)) g t f l.length 0 (wipeE e (own.map (·.2))) h1 with
          | none => rw [qc] at P3; exact P3.elim
          | some z =>
            obtain ⟨rr, h2⟩ := z
            rw [qc] at P3
            exact lc_mid (Q := fun v H' => unlP X (Q v) H') hcu _ hsl (walks_dw (w := w) (K := X.K) (d := .ref i) R1.bad q (.ref hi2)) R1 E1 hp qc (fits_ok c) fun S' H' N R' x' => .inl (P3 S' _ _ N R' x')
      · exact P3.elim
    | _ => exact P2.elim
end Sb

/-! SbS: sorted(set(xs)) of a list of ints; sorted(d.keys()), list(d.keys()). -/
namespace Sb
open L2 PySem PySem.Spec PyProof.Rows
/-! ### set(xs): the set that is made -/
abbrev setObj (w : World) : Obj := { cls := .type "set", dict := none, data := .set #[] 0 (.fresh 0 0 (!w.params.followText "set-order")) }
section
variable {P : Program} {w : World} {A : Around} {E : Value → Shared → Prop} {s : Shared}
theorem setListI {l : Addr} {xs : Array Value} (ns : List Int) {Q : Value → Shared → Prop} (hh : A.handled = none) (hl : s.heap.IsList l xs) (hit : IntsAre xs.toList ns) (hb : ns.length + 1 < scanBound)
    (h : ∀ (h' : Heap) (tk c : Nat), SetR w h' s.heap.objs.size (fun j => decide (j ∈ ns)) c → c ≤ ns.length → (∀ b o, s.heap.get? b = some o → h'.get? b = some o) → Q (.ref s.heap.objs.size) { s with heap := h', toks := tk }) :
    wpAny (model P w) A (call (.type "set") [.ref l]) Q E s := by
  have hz : xs.size = ns.length := by
    have q := IntsAre.length hit
    rwa [Array.length_toList] at q
  obtain ⟨c, tl, hmro⟩ := F.called_set.mro
  have hmade := F.called_set.made
  have hsub := F.called_set.sub
  refine wpAny_call (codeAny_of_tree ?_)
  show wpAny _ _ (callAny (.type "set") _) _ _ _
  refine wpAny_pure ⟨Code.quiet_builtin _ (by decide +kernel), codeAny_builtin F.entry_type_call ?_⟩
  rw [Around.under_plain (weight_type_call_type "set" [.ref l] []) rfl]
  have h1 := F.called_set.notType
  have h2 := F.called_set.canCreate
  have hct := F.typeCall_set_1 (.ref l)
  repeat (any_goals (first | assumption | wp_step))
  refine codeAny_mono (code_set_led1 (.ref l) (E := E) (Q₁ := fun obj s₁ => obj = .ref s.heap.objs.size ∧ s₁ = { s with heap := s.heap.push (setObj w) }) ⟨rfl, rfl⟩) fun r s₁ hr => ?_
  cases r with
  | error e => exact hr
  | ok fl =>
    cases fl with
    | ret obj =>
      obtain ⟨rfl, rfl⟩ := hr
      have hS : (s.heap.push (setObj w)).get? s.heap.objs.size = some (setObj w) := Heap.get?_push_size _ rfl
      have hT : Shared.TypeIs { s with heap := s.heap.push (setObj w) } (.ref s.heap.objs.size) "set" := ⟨_, hS, rfl⟩
      have hli := F.called_set.init.lookup
      have hbi := F.called_set.init.bind (.ref s.heap.objs.size)
      repeat (any_goals (first | assumption | wp_step))
      refine codeAny_mono (codeAny_call_builtin (R := wants (fun r s₂ => r = .none ∧ ∃ h' tk c, s₂ = { s with heap := h', toks := tk } ∧ SetR w h' s.heap.objs.size (fun j => decide (j ∈ ns)) c ∧ c ≤ ns.length ∧
          (∀ b o, s.heap.get? b = some o → h'.get? b = some o)) E) F.called_set.init.plain F.entry_set_init (check_set_init_1 hT ?_)) fun r₂ s₂ hr₂ => ?_
      · obtain ⟨⟨ocls, odict, odata, oslots⟩, hol, hcl, nl, hdl⟩ := hl
        simp only at hcl hdl
        subst hcl; subst hdl
        have hol' : (s.heap.push (setObj w)).get? l = some { cls := .type "list", dict := odict, data := .seq xs nl, slots := oslots } := Heap.get?_push_of_some _ hol
        have hsls := F.sub_list_set
        have hslf := F.sub_list_frozenset
        have hne : (Value.type "list" == Value.type "dict") = false := by decide
        have hl1 : (s.heap.push (setObj w)).IsList l xs := ⟨_, hol', rfl, nl, rfl⟩
        unfold Builtin.«set.__init__» noKeywords Builtin.Frozenset.updateFrom
        generalize hPI : pyIter = PI
        wp_walk
        subst hPI
        refine wpAny_pyIter_list hl1 ?_
        refine wpAny_bind (wpAny_runValue ?_)
        have hlS : l < s.heap.objs.size := Heap.lt_size hol
        have hh3 : A.in1.in1.in1.handled = none := by simp [hh]
        have hz1 : (s.heap.push (setObj w)).objs.size = s.heap.objs.size + 1 := Heap.size_push ..
        have hneI : l ≠ (s.heap.push (setObj w)).objs.size := by
          rw [hz1]; exact Nat.ne_of_lt (Nat.lt_succ_of_lt hlS)
        have hSf : s.heap.objs.size ∉ [(s.heap.push (setObj w)).objs.size, l] := by
          simp only [List.mem_cons, List.not_mem_nil, or_false, not_or]
          exact ⟨by rw [hz1]; exact Nat.ne_of_lt (Nat.lt_succ_self _), Nat.ne_of_gt hlS⟩
        have hval : ∀ (i : Nat) (v : Value), xs[i]? = some v → ∃ k t, ns[i]? = some k ∧ v = .int k t := fun i v hv => by
          have hi : i < ns.length := by rw [← hz]; exact (Array.getElem?_eq_some_iff.mp hv).1
          obtain ⟨t, e⟩ := PyProof.Rows.IntsAre.int_at hit i v (by rw [Array.getElem?_toList]; exact hv)
          refine ⟨ns[i], t, List.getElem?_eq_getElem hi, ?_⟩
          rw [e, List.getD_eq_getElem?_getD, List.getElem?_eq_getElem hi] <;> rfl
        refine set_update_ints ((Walks.list hh3 _ l hneI xs).toS) s.heap.objs.size
          hSf ns hz hb hval (xs.size - 0) 0 _ (by omega) (Nat.zero_le _)
          ⟨⟨_, Heap.get?_push_size _ rfl, rfl, rfl⟩, (hl1.push _)⟩ ?hS0 ?hR
        case hS0 => exact ⟨0, Nat.le_refl 0, setR_new_at (Heap.get?_push_of_some _ hS)⟩
        case hR =>
          intro s' c' hm hc' hS'
          obtain ⟨h', g2, d', tk', os'⟩ := s'
          have eg : g2 = s.gens := hm.gens
          have ed : d' = s.drawn := hm.drawn
          have eo : os' = s.os := hm.os
          subst eg; subst ed; subst eo
          show wpAny _ _ _ _ _ _
          refine wpAny_pure ?_
          show wpAny _ _ (ret Value.none) _ _ _
          rw [hz] at hc'
          refine wpAny_pure ⟨rfl, h', tk', c', rfl, hS', hc', fun b o e => ?_⟩
          have hb0 : b < s.heap.objs.size := Heap.lt_size e
          exact hm.heap b o (by
            simp only [List.mem_cons, List.not_mem_nil, or_false, not_or]
            exact ⟨Nat.ne_of_lt hb0, by rw [hz1]; exact Nat.ne_of_lt (Nat.lt_succ_of_lt hb0)⟩) (Heap.get?_push_of_some _ (Heap.get?_push_of_some _ e))
      · cases r₂ with
        | error e => exact hr₂
        | ok fl₂ =>
          cases fl₂ with
          | ret r =>
            obtain ⟨rfl, h', tk, c', rfl, hS', hc', hk'⟩ := hr₂
            repeat (any_goals (first | assumption | wp_step))
            exact h _ _ _ hS' hc' hk'
          | _ => exact hr₂.elim
    | _ => exact hr.elim
end
def rSetLI (w : World) (K : PySem.W.Frag) : List V → Hp → VK → Prop := fun xs H Q => ∃ (l : Addr) (ns : List Int), xs = [V.ref l] ∧ SqL K H l (ns.map V.int) ∧ ns.length < 64 ∧
  ∀ (a : Addr) (n : Nat), n ≤ ns.length → H a = none → Q (.ref a) (upd H a (SetO w a (fun j => decide (j ∈ ns)) n))
theorem cr_setLI {X : Cx} (hc : X.calm = true) : CallR X (.type "set") (rSetLI X.w X.K) := by
  intro pins s σ H xs us Q I r h
  obtain ⟨l, ns, rfl, hq, h64, q⟩ := h
  rw [Vals.ref1 r]
  obtain ⟨its, rv, pl, hz⟩ := I.list hq
  refine setListI ns (I.ok.hd hc) pl.isList (by simpa using rv.ints) (by unfold scanBound; omega) fun h' tk c hS hn hk => ?_
  exact ⟨.ref _, _, I.laid (t' := tk) hk (Nat.le_refl _) (setO_new hS), rfl, q _ c hn (I.hok.fresh (Nat.le_refl _))⟩
/-! ### the sorted members -/
def insU (a : Int) : List Int → List Int
  | [] => [a]
  | b :: l => if a < b then a :: b :: l else if a = b then b :: l else b :: insU a l
def sortU (l : List Int) : List Int := l.foldr insU []
theorem mem_insU (a x : Int) : ∀ l : List Int, x ∈ insU a l ↔ x = a ∨ x ∈ l
  | [] => by simp [insU]
  | b :: l => by
    unfold insU
    split
    · simp
    · split
      · rename_i h; subst h; simp
      · rw [List.mem_cons, mem_insU a x l, List.mem_cons]
        constructor
        · rintro (h | h | h)
          · exact .inr (.inl h)
          · exact .inl h
          · exact .inr (.inr h)
        · rintro (h | h | h)
          · exact .inr (.inl h)
          · exact .inl h
          · exact .inr (.inr h)
theorem insU_lt (a : Int) : ∀ {l : List Int}, l.Pairwise (· < ·) → (insU a l).Pairwise (· < ·)
  | [], _ => by simp [insU]
  | b :: l, h => by
    rw [List.pairwise_cons] at h
    unfold insU
    split
    · rename_i c
      refine List.pairwise_cons.mpr ⟨fun x hx => ?_, List.pairwise_cons.mpr h⟩
      rcases List.mem_cons.mp hx with rfl | hx
      · exact c
      · have := h.1 x hx; omega
    · split
      · exact List.pairwise_cons.mpr h
      · refine List.pairwise_cons.mpr ⟨fun x hx => ?_, insU_lt a h.2⟩
        rcases (mem_insU a x l).mp hx with rfl | hx
        · omega
        · exact h.1 x hx
theorem mem_sortU (x : Int) : ∀ l : List Int, x ∈ sortU l ↔ x ∈ l
  | [] => Iff.rfl
  | a :: l => by
    show x ∈ insU a (sortU l) ↔ _
    rw [mem_insU, mem_sortU x l, List.mem_cons]
theorem sortU_lt : ∀ l : List Int, (sortU l).Pairwise (· < ·)
  | [] => List.Pairwise.nil
  | a :: l => insU_lt a (sortU_lt l)
theorem lt_ext : ∀ {l m : List Int}, l.Pairwise (· < ·) → m.Pairwise (· < ·) → (∀ x, x ∈ l ↔ x ∈ m) → l = m
  | [], [], _, _, _ => rfl
  | [], b :: m, _, _, h => by have := (h b).mpr List.mem_cons_self; cases this
  | a :: l, [], _, _, h => by have := (h a).mp List.mem_cons_self; cases this
  | a :: l, b :: m, hl, hm, h => by
    rw [List.pairwise_cons] at hl hm
    have e : a = b := by
      rcases List.mem_cons.mp ((h a).mp List.mem_cons_self) with z | z
      · exact z
      · rcases List.mem_cons.mp ((h b).mpr List.mem_cons_self) with y | y
        · exact y.symm
        · have := hm.1 a z
          have := hl.1 b y
          omega
    subst e
    congr 1
    refine lt_ext hl.2 hm.2 fun x => ⟨fun hx => ?_, fun hx => ?_⟩
    · rcases List.mem_cons.mp ((h x).mp (List.mem_cons_of_mem _ hx)) with z | z
      · have := hl.1 x hx; omega
      · exact z
    · rcases List.mem_cons.mp ((h x).mpr (List.mem_cons_of_mem _ hx)) with z | z
      · have := hm.1 x hx; omega
      · exact z
/-! ### sorted(set(xs)) -/
def opSst (h : Hh) (d : D) : Option D := match (asL h d).bind intsD with
  | some ns => if ns.length < 64 then some (.lst ((sortU ns).map .int)) else none
  | none => none
theorem e_sst {X : Cx} {G : Cf} {W : WX} {a : Expr} {f : F D} {p p2 q pos : Pos} (hK : G.K = X.K) (hc : X.calm = true) (hg : Gl X "sorted") (hm : X.mg "sorted" = none) (hg2 : Gl X "set") (hm2 : X.mg "set" = none) (ha : PE X a (tE G W f)) (hs : noStar a = true) :
    PE X (.Call (.Name "sorted" p) [.Call (.Name "set" p2) [a] [] q] [] pos) (tE G W (dU f opSst)) := by
  have inner := pe_callTy (X := X) (x := "set") (p := p2) (pos := q) (cr_setLI hc) hg2 hm2 boot_set (pa_cons ha pa_nil (star_of hs _ _)) (by decide) (by decide) (star_of hs _ _) (stars_of rfl)
  refine PE.imp (pe_callB (id := "sorted") (cr_sortedSet hc) hg hm (by decide +kernel) (pa_cons inner pa_nil (star_of rfl _ _)) (by decide) (by decide) (star_of rfl _ _) (stars_of rfl)) fun σ H Q ⟨S, h, e, R, E, P⟩ => ?_
  refine ⟨S, h, e, R, E, P.bind fun d h1 S1 H1 v _ N1 R1 v1 P1 => ?_⟩
  unfold opSst at P1
  split at P1
  · rename_i ns en
    split at P1
    · rename_i c
      obtain ⟨l, e1, e2⟩ := Option.bind_eq_some_iff.mp en
      obtain ⟨a0, vs, rfl, hq, r⟩ := asL_at R1 v1 e1
      have ev := intsD_at r e2
      subst ev
      rw [hK] at hq
      refine ⟨a0, ns, rfl, hq, c, fun s0 n hn hs0 => ⟨s0, _, n, rfl, upd_same, by omega, fun ns' p' hlt hmem hlen hp => ?_⟩⟩
      have e : ns' = sortU ns := lt_ext hlt (sortU_lt ns) fun x => by rw [hmem, mem_sortU]; simp
      subst e
      have N2 : Nx G S1 H1 S1 (upd H1 s0 (SetO X.w s0 (fun j => decide (j ∈ ns)) n)) := .same (keeps_new hs0)
      have R2 : Rel G S1 h1 (upd H1 s0 (SetO X.w s0 (fun j => decide (j ∈ ns)) n)) := R1.same (keeps_new hs0)
      obtain ⟨n1, r1, x1⟩ := new_lst R2 (VDs.ints (G := G) (S := S1) (H := upd H1 s0 (SetO X.w s0 (fun j => decide (j ∈ ns)) n)) (sortU ns)) hp
      exact P1 _ _ _ (N2.trans n1) r1 x1
    · exact P1.elim
  · exact P1.elim
/-! ### d.keys(), a view -/
def KvO (a d : Addr) : HO := .ext fun h => PySem.W.KdlKeysView h a d
theorem kvO_new {w : World} {P : Program} {H : Hp} {h : Heap} {a d : Addr} (k : PySem.W.KdlKeysView h a d) : ObjOk P w H h a (KvO a d) := by
  have ⟨o, ho, _, _⟩ := k
  exact ⟨k, ⟨o, ho⟩, fun h1 h2 ⟨o, ho, a, b⟩ hk => ⟨o, hk o ho, a, b⟩⟩
def tKv (te : TE) : TE := fun σ H Q => te σ H fun x H1 => ∃ d kvs, x = .ref d ∧ Rd H1 d (.dK kvs) ∧ ∀ v, H1 v = none → Q (.ref v) (upd H1 v (KvO v d))
theorem pe_keysV {X : Cx} {e : Expr} {te : TE} {apos cpos : Pos} (he : PE X e te) (hbase : attributeBase e "keys" X.env (eval e X.env) = eval e X.env) (hline : (apos.endLine == cpos.line) = true) : PE X (.Call (.Attribute e "keys" apos) [] [] cpos) (tKv te) := by
  refine ⟨fun pins s σ H Q I h => ?_⟩
  refine wpAny_Call_method (T := "dict") (id := "dict.keys") hbase rfl hline F.plainAttrs_dict F.slot_dict_keys F.type_dict_keys (thn (he.run pins s σ H _ I h) fun u s1 ⟨x, H1, I1, rx, d, kvs, ex, hd, q⟩ => ?_)
  subst ex
  obtain rfl : u = Value.ref d := rx
  obtain ⟨hz, lo, vs, kv, hm⟩ := dk_rd I1.hok hd
  refine ⟨hm.typeIs, hm.mapOf.noDict, ?_⟩
  have I2 : Inv X pins σ (upd H1 s1.heap.objs.size (KvO s1.heap.objs.size d)) { s1 with heap := s1.heap.push { cls := .type "dict_keys", data := .fields #[.ref d] } } :=
    I1.laid (t' := s1.toks) (fun b ob q => Heap.get?_push_of_some _ q) (Nat.le_refl _) (kvO_new ⟨_, Heap.get?_push_size _ rfl, rfl, rfl⟩)
  show wpAny _ _ (callWith cpos (.builtin "dict.keys") [.ref d] [] []) _ X.xe s1
  exact method_meetsIn F.slot_dict_keys F.entry_dict_keys rfl (PySem.evalArgs_none ⟨rfl, hm.typeIs, F.args_dict_keys_1 _, _, PySem.W.kdl_meets_keys (mixKind X.prog X.w) d lo, ⟨vs, hm⟩, ⟨.ref _, _, I2, rfl, q _ (I1.hok.fresh (Nat.le_refl _))⟩⟩)
theorem kvO_get {X : Cx} {pins : List (Addr × Obj)} {σ : L2.St} {H : Hp} {s : Shared} {a d : Addr} (I : Inv X pins σ H s) (ha : H a = some (KvO a d)) : PySem.W.KdlKeysView s.heap a d := (I.hok a _ ha).1
/-- list(d.keys()) -/
def rListKv : List V → Hp → VK → Prop := fun xs H Q => ∃ v d kvs, xs = [.ref v] ∧ H v = some (KvO v d) ∧ Rd H d (.dK kvs) ∧ ∀ q, H q = none → Q (.ref q) (upd H q (.lst (kvs.map fun kv => kV kv.1)))
theorem cr_listKv {X : Cx} (hc : X.calm = true) : CallR X (.type "list") rListKv := by
  intro pins s σ H xs us Q I r h
  obtain ⟨v, d, kvs, rfl, hv, hk, q⟩ := h
  rw [Vals.ref1 r]
  have kv := kvO_get I hv
  obtain ⟨z, lo, vs, rk, hd⟩ := dk_rd I.hok hk
  obtain ⟨ep, hat⟩ := hd.dictAt
  have hl : kvs.length = vs.length := Paired.length rk
  refine PySem.W.kdl_call (PySem.W.kdl_keys (knd := mixKind X.prog X.w) (kvs := vs) (ep := ep)) (I.ok.hd hc) ⟨kv, hat⟩ (by rw [← hl]; exact z) fun h' tk acc' c' hkeep hS hacc => ?_
  refine ⟨.ref s.heap.objs.size, upd H s.heap.objs.size (.lst (kvs.map fun kv => kV kv.1)), I.laid hkeep (Nat.le_refl _) (show ObjOk X.prog X.w _ _ _ (.lst (kvs.map fun kv => kV kv.1)) from ⟨?_, acc'.toList, c', ?_, ?_⟩), rfl, q _ (I.hok.fresh (Nat.le_refl _))⟩
  · rw [List.length_map]; exact z
  · have el : acc'.toList.length = acc'.size := by simp
    refine vals_of_at (by rw [List.length_map, el, hacc.1, hl]) fun j x w h1 h2 => ?_
    obtain ⟨k, y, hky, hi⟩ := hacc.2 j w (by rw [← Array.getElem?_toList]; exact h2)
    have e1 : (kvs.map (·.1))[j]? = some k := by
      rw [KV.keys rk, List.getElem?_map, hky] <;> rfl
    have e2 : (kvs.map fun kv => kV kv.1)[j]? = some (kV k) := by
      have e3 : (kvs.map fun kv => kV kv.1) = (kvs.map (·.1)).map kV := by rw [List.map_map] <;> rfl
      rw [e3, List.getElem?_map, e1] <;> rfl
    rw [e2] at h1
    cases h1
    exact keyIs_rel hi
  · rw [Array.toArray_toList]; exact hS
/-- sorted(d.keys()), int keys -/
def rSortKv : List V → Hp → VK → Prop := fun xs H Q => ∃ v d kvs, ∃ ks : List Int, xs = [.ref v] ∧ H v = some (KvO v d) ∧ Rd H d (.dK kvs) ∧ kvs.map (·.1) = ks.map Sum.inl ∧ ks.length < 64 ∧
  ∀ (ys : List Int) (p : Addr), ys.Perm ks → ys.Pairwise (· ≤ ·) → H p = none → Q (.ref p) (upd H p (.lst (ys.map V.int)))
theorem cr_sortKv {X : Cx} (hc : X.calm = true) : CallR X (.builtin "sorted") rSortKv := by
  intro pins s σ H xs us Q I r h
  obtain ⟨v, d, kvs, ks, rfl, hv, hd, hks, h64, q⟩ := h
  rw [Vals.ref1 r]
  have kv := kvO_get I hv
  obtain ⟨z, lo, vs, rel, dd⟩ := dk_rd I.hok hd
  obtain ⟨ep, hat⟩ := dd.dictAt
  have hkeys : vs.map (·.1) = ks.map Sum.inl := rel.keys.symm.trans hks
  have hl : vs.length = ks.length := by
    have e := congrArg List.length hkeys
    rwa [List.length_map, List.length_map] at e
  have h16 : vs.length ≤ sizeLine := by rw [hl, sizeLine_eq]; omega
  refine Calls.call_function_entry PyProof.Rows.kind_sorted PyProof.Rows.plain_sorted PyProof.Rows.entry_sorted (PyProof.Rows.args_sorted1 _) ?_
  unfold Builtin.«sorted»
  refine wpAny_bind (m := checkCount "sorted" 1 1 _) (wpAny_pure ?_)
  refine wpAny_bind (PySem.W.kdu_collect (A := X.A.in1) (PySem.W.kdl_keys (knd := mixKind X.prog X.w) (kvs := vs) (ep := ep)) (I.ok.hd hc) ⟨kv, hat⟩ h16 fun h' tk acc hk hacc => ?_)
  have hal : acc.toList.length = ks.length := by rw [Array.length_toList, hacc.1, hl]
  have hS : IntsAre acc.toList ks := ints_each hal fun j v e => by
    obtain ⟨k, x, e1, e2⟩ := hacc.2 j v (by rw [← Array.getElem?_toList]; exact e)
    have e3 : (vs.map (·.1))[j]? = some k := by rw [List.getElem?_map, e1]; rfl
    rw [hkeys, List.getElem?_map] at e3
    cases e4 : ks[j]? with
    | none => rw [e4] at e3; cases e3
    | some y =>
      rw [e4] at e3
      have e5 : Sum.inl y = k := Option.some.inj e3
      subst e5
      rcases keyIs_shape (show keyIs (Sum.inl y) v = true from e2) with ⟨i, t, ek, ev⟩ | ⟨z, t, ek, ev⟩
      · cases ek
        exact ⟨y, t, rfl, ev⟩
      · cases ek
  have I1 : Inv X pins σ H { s with heap := h', toks := tk } := I.kept hk
  refine wpAny_bind (wpAny_newList ?_ (by rw [hal, sizeLine_eq]; omega))
  have hoL : (h'.push (seqObj "list" acc.toList.toArray 0)).get? h'.objs.size = some (seqObj "list" acc.toList.toArray 0) := Heap.get?_push_size _ rfl
  show wpAny _ _ _ _ _ { s with heap := h'.push (seqObj "list" acc.toList.toArray 0), toks := tk }
  refine wpAny_bind (wpAny_holding (wpAny_call_entry PyProof.Rows.slot_list_sort ⟨_, hoL, rfl⟩ PyProof.Rows.entry_list_sort
    (PyProof.Rows.list_sort_tree (s := { s with heap := h'.push (seqObj "list" acc.toList.toArray 0), toks := tk }) hoL hS (by rw [hal]; exact h64) fun out ys g1 g2 g3 => ⟨_, rfl, ?_⟩) (PyProof.Rows.args_list_sort _)))
  obtain ⟨e', he'⟩ := PyProof.Rows.sortedHeap_at (vs := acc.toList) (out := out) hoL
  have hlen : (ys.map V.int).length ≤ sizeLine := by
    rw [List.length_map, g2.length_eq]
    exact Nat.le_trans (Nat.le_of_lt h64) (by decide)
  refine wpAny_pure ⟨_, rfl, .ref h'.objs.size, upd H h'.objs.size (.lst (ys.map V.int)), I1.laid (t' := tk) (fun b u e => ?_) (Nat.le_refl _)
    (show ObjOk X.prog X.w _ _ _ (.lst (ys.map V.int)) from ⟨hlen, out.toList, e', vals_of_ints g1, by rw [Array.toArray_toList]; exact he'⟩), rfl, q ys _ g2 g3 (I1.hok.fresh (Nat.le_refl _))⟩
  have hb : b < h'.objs.size := Heap.lt_size e
  rw [PyProof.Rows.sortedHeap_old (Nat.ne_of_lt hb) (by rw [size_push']; exact Nat.lt_succ_of_lt hb)]
  exact Heap.get?_push_of_some _ e
def opSky (h : Hh) (d : D) : Option D := match asK h d with
  | some l => match keysI l with
    | some ns => if ns.length < 64 then some (.lst ((sortI ns).map .int)) else none
    | none => none
  | none => none
def opLky (h : Hh) (d : D) : Option D := match asK h d with
  | some l => match keysI l with
    | some ns => some (.lst (ns.map .int))
    | none => none
  | none => none
theorem e_sky {X : Cx} {G : Cf} {W : WX} {a : Expr} {f : F D} {p ap q pos : Pos} (hc : X.calm = true) (hg : Gl X "sorted") (hm : X.mg "sorted" = none) (ha : PE X a (tE G W f)) (hbase : attributeBase a "keys" X.env (eval a X.env) = eval a X.env) (hline : (ap.endLine == q.line) = true) :
    PE X (.Call (.Name "sorted" p) [.Call (.Attribute a "keys" ap) [] [] q] [] pos) (tE G W (dU f opSky)) := by
  have inner := pe_keysV (X := X) ha hbase hline
  refine PE.imp (pe_callB (id := "sorted") (cr_sortKv hc) hg hm (by decide +kernel) (pa_cons inner pa_nil (star_of rfl _ _)) (by decide) (by decide) (star_of rfl _ _) (stars_of rfl)) fun σ H Q ⟨S, h, e, R, E, P⟩ => ?_
  refine ⟨S, h, e, R, E, P.bind fun d h1 S1 H1 v _ N1 R1 v1 P1 => ?_⟩
  unfold opSky at P1
  split at P1
  · rename_i l e1
    split at P1
    · rename_i ns e2
      split at P1
      · rename_i c
        obtain ⟨a0, vs, rfl, hq, r⟩ := asK_at R1 v1 e1
        refine ⟨a0, vs, rfl, hq, fun s0 hs0 => ⟨s0, a0, vs, ns, rfl, upd_same, ?_, keysI_at r e2, c, fun ns' p' hperm hsort hp => ?_⟩⟩
        · rcases hq with hq | ⟨o, hq⟩
          · exact .inl (by rw [upd_ne (fun z => by rw [z, hs0] at hq; cases hq)]; exact hq)
          · exact .inr ⟨o, by rw [upd_ne (fun z => by rw [z, hs0] at hq; cases hq)]; exact hq⟩
        · have e : ns' = sortI ns := perm_sorted (hperm.trans (sortI_perm ns).symm) hsort (sortI_sorted ns)
          subst e
          have N2 : Nx G S1 H1 S1 (upd H1 s0 (KvO s0 a0)) := .same (keeps_new hs0)
          have R2 : Rel G S1 h1 (upd H1 s0 (KvO s0 a0)) := R1.same (keeps_new hs0)
          obtain ⟨n1, r1, x1⟩ := new_lst R2 (VDs.ints (G := G) (S := S1) (H := upd H1 s0 (KvO s0 a0)) (sortI ns)) hp
          exact P1 _ _ _ (N2.trans n1) r1 x1
      · exact P1.elim
    · exact P1.elim
  · exact P1.elim
theorem e_lky {X : Cx} {G : Cf} {W : WX} {a : Expr} {f : F D} {p ap q pos : Pos} (hc : X.calm = true) (hg : Gl X "list") (hm : X.mg "list" = none) (ha : PE X a (tE G W f)) (hbase : attributeBase a "keys" X.env (eval a X.env) = eval a X.env) (hline : (ap.endLine == q.line) = true) :
    PE X (.Call (.Name "list" p) [.Call (.Attribute a "keys" ap) [] [] q] [] pos) (tE G W (dU f opLky)) := by
  have inner := pe_keysV (X := X) ha hbase hline
  refine PE.imp (pe_callTy (cr_listKv hc) hg hm (by decide +kernel) (pa_cons inner pa_nil (star_of rfl _ _)) (by decide) (by decide) (star_of rfl _ _) (stars_of rfl)) fun σ H Q ⟨S, h, e, R, E, P⟩ => ?_
  refine ⟨S, h, e, R, E, P.bind fun d h1 S1 H1 v _ N1 R1 v1 P1 => ?_⟩
  unfold opLky at P1
  split at P1
  · rename_i l e1
    split at P1
    · rename_i ns e2
      obtain ⟨a0, vs, rfl, hq, r⟩ := asK_at R1 v1 e1
      refine ⟨a0, vs, rfl, hq, fun s0 hs0 => ⟨s0, a0, vs, rfl, upd_same, ?_, fun p' hp => ?_⟩⟩
      · rcases hq with hq | ⟨o, hq⟩
        · exact .inl (by rw [upd_ne (fun z => by rw [z, hs0] at hq; cases hq)]; exact hq)
        · exact .inr ⟨o, by rw [upd_ne (fun z => by rw [z, hs0] at hq; cases hq)]; exact hq⟩
      · have e : (vs.map fun kv => kV kv.1) = ns.map V.int := by
          have := congrArg (List.map kV) (keysI_at r e2)
          rw [List.map_map, List.map_map] at this
          exact this
        rw [e] at *
        have N2 : Nx G S1 H1 S1 (upd H1 s0 (KvO s0 a0)) := .same (keeps_new hs0)
        have R2 : Rel G S1 h1 (upd H1 s0 (KvO s0 a0)) := R1.same (keeps_new hs0)
        obtain ⟨n1, r1, x1⟩ := new_lst R2 (VDs.ints (G := G) (S := S1) (H := upd H1 s0 (KvO s0 a0)) ns) hp
        exact P1 _ _ _ (N2.trans n1) r1 x1
    · exact P1.elim
  · exact P1.elim
/-! ### d.get(k) -/
def dGet1 (f g : F D) : F D := fun e h => (f e h).bind fun x h1 => if (asK h1 x).isSome = true then (g e h1).bind fun y h2 => match asK h2 x, keyD y with
  | some l, some q => .ok (getK (valD l q) .non) h2
  | _, _ => .fail else .fail
theorem e_dget1 {X : Cx} {G : Cf} {W : WX} {o e : Expr} {f g : F D} {apos cpos : Pos} (hu : X.A.units + 1 < cLine) (ho : PE X o (tE G W f)) (he : PE X e (tE G W g)) (hb : okBase o = true) (hl : (apos.endLine == cpos.line) = true) (h1 : noStar e = true) :
    PE X (.Call (.Attribute o "get" apos) [e] [] cpos) (tE G W (dGet1 f g)) :=
  PE.imp (pe_dget1 hu ho he (m1_of hb hl h1)) fun σ H Q ⟨S, h, en, R, E, P⟩ => ⟨S, h, en, R, E, P.bind fun x h1 S1 H1 v _ N1 R1 v1 P1 => by
    by_cases c : (asK h1 x).isSome = true
    rotate_left
    · rw [if_neg c] at P1; exact P1.elim
    rw [if_pos c] at P1
    obtain ⟨a, rfl, hd⟩ := isD_of R1 v1 c
    have E1 := E.mono N1 R.bad
    refine ⟨a, rfl, hd, S1, h1, en, R1, E1, P1.bind fun y h2 S2 H2 w _ N2 R2 v2 P2 => ?_⟩
    have x3 := v1.mono N2 R1.bad
    cases q : asK h2 x with
    | none => simp only [q] at P2; exact P2.elim
    | some l =>
      cases qk : keyD y with
      | none => simp only [q, qk] at P2; exact P2.elim
      | some kk =>
        simp only [q, qk] at P2
        obtain ⟨a', vs, ea, ha, r⟩ := asK_at R2 x3 q
        cases ea
        have ek := keyD_at v2 qk
        subst ek
        refine ⟨valV vs kk, .inl ⟨vs, kk, ha, rfl, rfl⟩, ?_⟩
        rcases r.val kk with ⟨e1, e2⟩ | ⟨d1, w1, e1, e2, r1⟩
        · rw [e1] at P2
          rw [e2]
          exact P2.here R2 .non
        · rw [e1] at P2
          rw [e2]
          exact P2.here R2 r1⟩
end Sb

/-! SbP: d.clear(), {k: v, ..}. -/
namespace Sb
open L2 PySem PySem.Spec PyProof.Rows
/-! ### d.clear() -/
def clD (x : D) (h : Hh) : R D := match x with
  | .ref i => (match h[i]? with
    | some (.dct _) => .ok .non (h.set i (.dct []))
    | _ => .fail)
  | _ => .fail
def dDcr (f : F D) : F D := fun e h => (f e h).bind clD
/-! ### {k: v, ..} -/
def mergeD (kvs more : List (Key × D)) : List (Key × D) := more.foldl (fun acc kv => putD acc kv.1 kv.2) kvs
def dPrs : List (F D × F D) → F (List (Key × D))
  | [] => fun _ h => .ok [] h
  | p :: r => fun e h => (p.1 e h).bind fun k h1 => (p.2 e h1).bind fun v h2 => match keyD k with
    | some q => (dPrs r e h2).bind fun ps h3 => .ok ((q, v) :: ps) h3
    | none => .fail
def disE (n : Nat) (r : R (List (Key × D))) : R D := r.bind fun ps h2 => match h2[n]? with
  | some (.dct []) => .ok (.ref n) (h2.set n (.dct (mergeD [] ps)))
  | _ => .fail
def dDis (l : List (F D × F D)) : F D := fun e h => disE h.length (dPrs l e (h ++ [.dct []]))
section
variable {X : Cx} {G : Cf} {W : WX}
theorem e_dclear {a : Expr} {f : F D} {p q : Pos} (ha : PE X a (tE G W f)) (hb : okBase a = true) (hl : (p.endLine == q.line) = true) : PE X (.Call (.Attribute a "clear" p) [] [] q) (tE G W (dDcr f)) :=
  PE.imp (pe_dclear ha (base_of hb _ _ _) hl) fun σ H Q ⟨S, h, e, R, E, P⟩ => ⟨S, h, e, R, E, P.bind fun x h1 S1 H1 v _ N1 R1 v1 P1 => by
    cases v1 with
    | @ref i hi =>
      have P2 : Pst G.toCg (fun c d H => W c d σ H) S1 H1 (relV G.toCg) (match h1[i]? with
        | some (.dct _) => .ok .non (h1.set i (.dct []))
        | _ => .fail) Q := P1
      split at P2
      rotate_left
      · exact P2.elim
      rename_i l e0
      cases R1.obj i _ e0 with
      | @dct _ vs e1 r1 =>
        refine ⟨.inr (.inr (.inl ⟨rfl, .inl ⟨vs, e1⟩⟩)), _, vs, rfl, rfl, e1, ?_⟩
        have N2 : Nx G.toCg S1 H1 S1 (upd H1 (S1.r i) (.dK [])) := Nx.write R1 hi e1 (fun _ z => by cases z) (fun _ _ z => by cases z)
        have R2 := R1.write (v := .dK []) (o := .dct []) hi e1 (fun _ z => by cases z) (fun _ _ z => by cases z) (.dct (l := []) upd_same .nil)
        exact P2 _ _ _ N2 R2 .non
    | _ => exact P1.elim⟩
theorem VDk.merge {G : Cg} {S : Rho} {H : Hp} : ∀ {more : List (Key × D)} {vs : List (Key × V)} {kvs : List (Key × D)} {ws : List (Key × V)}, VDk G S H more vs → VDk G S H kvs ws → VDk G S H (mergeD kvs more) (mergeK ws vs)
  | _, _, _, _, .nil, b => b
  | _, _, kvs, ws, .cons (k := k) (d := d) (v := v) (l := l) (vs := vs) x t, b => by
    show VDk G S H (mergeD (putD kvs k d) l) (mergeK (putK ws k v) vs)
    exact VDk.merge t (b.put k x)
def relK (G : Cg) : Rho → Hp → List (Key × D) → List (V × V) → Prop := fun S H a ps => ∃ vs, VDk G S H a vs ∧ ps = vs.map fun kv => (kV kv.1, kv.2)
theorem prs_of : ∀ (l : List (F D × F D)) {S : Rho} {h : Hh} {e : En} {σ : L2.St} {H : Hp} {Q : List (V × V) → Hp → Prop}, Rel G.toCg S h H → EnR G S H e σ → Pst G.toCg (fun c d H => W c d σ H) S H (relK G.toCg) (dPrs l e h) Q →
    tPairs (l.map fun p => (tE G W p.1, tE G W p.2)) σ H Q
  | [], S, h, e, σ, H, Q, R, E, P => P _ _ _ .refl R ⟨[], .nil, rfl⟩
  | p :: r, S, h, e, σ, H, Q, R, E, P => by
    show tE G W p.1 σ H fun x H1 => tE G W p.2 σ H1 fun y H2 => tPairs (r.map fun p => (tE G W p.1, tE G W p.2)) σ H2 fun ps H3 => Q ((x, y) :: ps) H3
    refine ⟨S, h, e, R, E, Pst.bind P fun k h1 S1 H1 kv _ N1 R1 k1 P1 => ?_⟩
    have E1 := E.mono N1 R.bad
    refine ⟨S1, h1, e, R1, E1, Pst.bind P1 fun v h2 S2 H2 vv _ N2 R2 v2 P2 => ?_⟩
    have E2 := E1.mono N2 R1.bad
    cases qk : keyD k with
    | none => simp only [qk] at P2; exact P2.elim
    | some q =>
      simp only [qk] at P2
      obtain rfl := keyD_at (k1.mono N2 R1.bad) qk
      refine prs_of r R2 E2 (Pst.bind P2 fun ps h3 S3 H3 ws _ N3 R3 w3 P3 => ?_)
      obtain ⟨vs, r3, rfl⟩ := w3
      exact P3.here R3 ⟨(q, vv) :: vs, .cons (v2.mono N3 R2.bad) r3, rfl⟩
theorem dPrs_len : ∀ (l : List (F D × F D)) {e : En} {h h2 : Hh} {ps : List (Key × D)}, dPrs l e h = .ok ps h2 → ps.length = l.length
  | [], e, h, h2, ps, q => by cases q; rfl
  | p :: r, e, h, h2, ps, q => by
    have q1 : ((p.1 e h).bind fun k h1 => (p.2 e h1).bind fun v h2 => match keyD k with
      | some q => (dPrs r e h2).bind fun ps h3 => .ok ((q, v) :: ps) h3
      | none => .fail) = .ok ps h2 := q
    cases a : p.1 e h with
    | ok k h1 =>
      rw [a] at q1
      have q2 : ((p.2 e h1).bind fun v h2 => match keyD k with
        | some q => (dPrs r e h2).bind fun ps h3 => .ok ((q, v) :: ps) h3
        | none => .fail) = .ok ps h2 := q1
      cases b : p.2 e h1 with
      | ok v h3 =>
        rw [b] at q2
        have q3 : (match keyD k with
          | some q => (dPrs r e h3).bind fun ps h3 => .ok ((q, v) :: ps) h3
          | none => .fail) = R.ok ps h2 := q2
        cases c : keyD k with
        | none => rw [c] at q3; cases q3
        | some kk =>
          rw [c] at q3
          cases d : dPrs r e h3 with
          | ok ps2 h4 =>
            simp only [d] at q3
            have q4 : R.ok ((kk, v) :: ps2) h4 = R.ok ps h2 := q3
            cases q4
            rw [List.length_cons, List.length_cons, dPrs_len r d]
          | exc _ _ _ => simp only [d] at q3; cases q3
          | fail => simp only [d] at q3; cases q3
      | exc _ _ _ => rw [b] at q2; cases q2
      | fail => rw [b] at q2; cases q2
    | exc _ _ _ => rw [a] at q1; cases q1
    | fail => rw [a] at q1; cases q1
theorem e_dis {l : List (F D × F D)} {ks : List (Option Expr)} {vs : List Expr} {pos : Pos} (hp : PPs X pos ks vs (l.map fun p => (tE G W p.1, tE G W p.2))) (hall : ks.all (·.isSome) = true) (hl : ks.length = vs.length) (h0 : ks ≠ []) (h15 : ks.length ≤ 15) (hn : l.length = ks.length) :
    PE X (.Dict ks vs pos) (tE G W (dDis l)) :=
  PE.imp (pe_disp hp hall hl h0 h15) fun σ H Q ⟨S, h, e, R, E, P⟩ p hp => by
    have R1 : Rel G.toCg (S.push p) (h ++ [.dct []]) (upd H p (.dK [])) := R.push hp (.dct (l := []) upd_same .nil)
    have N1 : Nx G.toCg S H (S.push p) (upd H p (.dK [])) := .push hp
    have E1 := E.mono N1 R.bad
    have P1 : Pst G.toCg (fun c d H => W c d σ H) (S.push p) (upd H p (.dK [])) (relV G.toCg) (disE h.length (dPrs l e (h ++ [.dct []]))) Q := Pst.mono (r := disE h.length (dPrs l e (h ++ [.dct []]))) P N1
    refine prs_of l R1 E1 (Pst.bind P1 fun ps h2 S2 H2 ws q2 N2 R2 w2 P2 => ?_)
    obtain ⟨us, r2, rfl⟩ := w2
    have hr : S2.r h.length = p := by
      have hh : h.length < (S.push p).n := by show h.length < S.n + 1; rw [R.len]; omega
      rw [N2.r _ hh]
      show (if h.length = S.n then p else S.r h.length) = p
      rw [if_pos R.len]
    split at P2
    rotate_left
    · exact P2.elim
    rename_i e2
    have hn2 : h.length < S2.n := by rw [← R2.len]; exact (List.getElem?_eq_some_iff.mp e2).1
    have ob := R2.obj _ _ e2
    rw [hr] at ob
    cases ob with
    | @dct _ vs0 q0 rv =>
      cases rv
      refine ⟨q0, us, rfl, ?_, ?_⟩
      · have : us.length = ps.length := r2.length.symm
        rw [this, dPrs_len l q2]; omega
      · have q0' : H2 (S2.r h.length) = some (.dK []) := by rw [hr]; exact q0
        have N3 : Nx G.toCg S2 H2 S2 (upd H2 (S2.r h.length) (.dK (mergeK [] us))) := Nx.write R2 hn2 q0' (fun _ z => by cases z) (fun _ _ z => by cases z)
        have R3 := R2.write (v := .dK (mergeK [] us)) (o := .dct (mergeD [] ps)) hn2 q0' (fun _ z => by cases z) (fun _ _ z => by cases z) (.dct upd_same ((r2.mono N3 R2.bad).merge .nil))
        have x3 : VD G.toCg S2 (upd H2 (S2.r h.length) (.dK (mergeK [] us))) (.ref h.length) (.ref (S2.r h.length)) := .ref hn2
        rw [hr] at N3 R3 x3
        exact P2 _ _ _ N3 R3 x3
end
end Sb

/-! Sb11: bodies as data, what they say, whether they are the row's. -/
namespace Sb
open L2 PySem PySem.Spec PyProof.Rows
inductive Cst where
  | non | bl (b : Bool) | int (i : Int) | str (x : Str)
  deriving DecidableEq
def Cst.d : Cst → D
  | .non => .non
  | .bl b => .bl b
  | .int i => .int i
  | .str x => .str x
def Cst.v : Cst → V
  | .non => .non
  | .bl b => .bl b
  | .int i => .int i
  | .str x => .str x
theorem Cst.vd (c : Cst) {G : Cg} {S : Rho} {H : Hp} : VD G S H c.d c.v := by cases c <;> constructor
theorem Cst.vds : ∀ (l : List Cst) {G : Cg} {S : Rho} {H : Hp}, VDs G S H (l.map Cst.d) (l.map Cst.v)
  | [], _, _, _ => .nil
  | c :: l, _, _, _ => .cons c.vd (Cst.vds l)
theorem Cst.vdf : ∀ (l : List (Str × Cst)) {G : Cg} {S : Rho} {H : Hp}, VDf G S H (l.map fun p => (p.1, p.2.d)) (l.map fun p => (p.1, p.2.v))
  | [], _, _, _ => .nil
  | c :: l, _, _, _ => .cons c.2.vd (Cst.vdf l)
/-! ### built-in functions, methods -/
inductive BF where
  | len | sum | all | any | max | min | int | list | tuple | sorted | dict
  deriving DecidableEq
def BF.nm : BF → String
  | .len => "len"
  | .sum => "sum"
  | .all => "all"
  | .any => "any"
  | .max => "max"
  | .min => "min"
  | .int => "int"
  | .list => "list"
  | .tuple => "tuple"
  | .sorted => "sorted"
  | .dict => "dict"
def BF.op : BF → Hh → List D → Option D
  | .len => bLen
  | .sum => bSum
  | .all => bAll
  | .any => bAny
  | .max => bMax
  | .min => bMin
  | .int => bInt
  | .list => bList
  | .tuple => bTuple
  | .sorted => bSorted
  | .dict => bDict
/-- .. that make an object to be changed -/
inductive BN where
  | list | dict
  deriving DecidableEq
def BN.nm : BN → String
  | .list => "list"
  | .dict => "dict"
def BN.op : BN → Hh → List D → Option (D × Hh)
  | .list => nList
  | .dict => nDict
inductive BM where
  | append | count | index | clear | extend | pop | cntb
  deriving DecidableEq
def BM.nm : BM → String
  | .append => "append"
  | .count => "count"
  | .index => "index"
  | .clear => "clear"
  | .extend => "extend"
  | .pop => "pop"
  | .cntb => "count"
def BM.op : BM → MOp
  | .append => mAppend
  | .count => mCount
  | .index => mIndex
  | .clear => mClear
  | .extend => mExtend
  | .pop => mPop
  | .cntb => mCountF
def BM.c : BM → Hh → D → Bool
  | .append => cLst
  | .count => cLst
  | .index => cLst
  | .clear => cLst
  | .extend => cLst
  | .pop => cLst
  | .cntb => cLst
/-! ### texts -/
mutual
inductive Ex where
  | var (i : Nat) | cst (c : Cst) | glb (c : Cst)
  | bin (o : Operator) (a b : Ex) | neg (a : Ex) | cmp (o : CmpOp) (a b : Ex) | chn (o o' : CmpOp) (a b c : Ex)
  | and (a b : Ex) | or (a b : Ex) | not (a : Ex) | ite (t : Tx) (a b : Ex)
  | tup (l : Exs) | lst (l : Exs) | new (l : Exs)
  | idx (a b : Ex) | slc (a : Ex) (lo hi : Oe) | fld (a : Ex) (f : Str)
  | cal (pu : Bool) (i : Nat) (dd : List Cst) (l : Exs)
  | met (pu : Bool) (a : Ex) (m : Str) (t : List (Nat × Nat × List Cst)) (l : Exs)
  | mak (pu : Bool) (c i : Nat) (dd : List Cst) (l : Exs)
  | bif (b : BF) (l : Exs) | bim (b : BM) (a : Ex) (l : Exs)
  | isi (t : BT) (a : Ex) | isx (i : Nat) (t : List (Nat × Bool))
  | com (e : Ex) (g : Tg) (s : Sr) (t : Ot) (own : List (Str × Nat))
  | dcr (a : Ex) | dis (l : Prs) | lset (a : Ex) | dfr | dnw | sst (a : Ex) | sky (a : Ex) | lky (a : Ex) | dg1 (a k : Ex)
  | isc (t : List (Nat × Bool)) (a : Ex) | bi0 (b : BM) (a : Ex) | bnw (b : BN) (l : Exs)
  | ban (a b : Ex) | kge (t : List (Str × Cst)) (a d : Ex) | dge (a k d : Ex) | dse (a k d : Ex) | dpo (a k : Ex) | lrg (a : Ex) | lr2 (a b : Ex) | dcl (t : List (Str × Str))
  | cmn (e : Ex) (g : Tg) (s : Sr) (t : Ot) (own : List (Str × Nat))
  | cod (e : Ex) (w : Dw) (g : Tg) (a : Ex) (t : Ot) (own : List (Str × Nat))
inductive Tx where
  | val (a : Ex) | cmp (o : CmpOp) (a b : Ex) | chn (o o' : CmpOp) (a b c : Ex) | and (a b : Tx) | or (a b : Tx) | not (a : Tx)
inductive Exs where
  | nil | cons (a : Ex) (l : Exs)
inductive Prs where
  | nil | cons (k v : Ex) (l : Prs)
inductive Oe where
  | no | so (a : Ex)
inductive Ot where
  | no | so (a : Tx)
inductive Sr where
  | seq (a : Ex) | rg1 (a : Ex) | rg2 (a b : Ex) | enu (a : Ex) | zip (a b : Ex)
end
mutual
inductive St where
  | pass | brk | cnt | never
  | asg (g : Tg) (e : Ex) | drop (e : Ex) | ret (e : Ex) | retN
  | ite (t : Tx) (a b : Bk) | whl (n : Nat) (t : Tx) (b : Bk) | for (s : Sr) (g : Tg) (b : Bk) | fod (w : Dw) (a : Ex) (g : Tg) (b : Bk)
  | fld (a : Ex) (f : Str) (v : Ex) | sub (o i v : Ex) | rai (c : Nat) | try (b : Bk) (l : Hcs)
inductive Bk where
  | nil | cons (s : St) (b : Bk) | wip (l : List Nat) (b : Bk)
inductive Hcs where
  | nil | cons (i : Option Nat) (t : List (Nat × Bool)) (b : Bk) (l : Hcs)
end
/-! ### what they say -/
structure Sm where
  M : Nat → FC
  ft : FT
abbrev Cu := Option (Nat × Nat)
def Sm.f (m : Sm) (pu : Bool) (i : Nat) : FC := if pu = true then pureC (m.M i) else m.M i
def binF (o : Operator) : Hh → D → D → Option D := (binD o).getD fun _ _ _ => none
def dNever : F D := fun _ _ => .fail
def dIsx (cu : Cu) (i : Nat) (t : List (Nat × Bool)) : F D := fun _ h => match cu with
  | some (j, c) => if i = j then (match t.lookup c with
    | some b => .ok (.bl b) h
    | none => .fail) else .fail
  | none => .fail
def Sm.me (m : Sm) (pu : Bool) (t : List (Nat × Nat × List Cst)) : Nat → Option (FC × List D) := fun c => match t.lookup c with
  | some q => some (m.f pu q.1, q.2.map Cst.d)
  | none => none
/-- slots that are not looked at again -/
def sWip (l : List Nat) (b : FS) : FS := fun e h => b (wipeE e l) h
theorem EnR.wip1 {G : Cf} {S : Rho} {H : Hp} {e : En} {σ : L2.St} (E : EnR G S H e σ) (i : Nat) : EnR G S H (e.set i none) σ where
  len := by rw [List.length_set]; exact E.len
  at_ := fun j d h => by
    by_cases c : i = j
    · subst c
      by_cases l : i < e.length
      · rw [List.getElem?_set_self l] at h; cases h
      · rw [List.getElem?_eq_none (by rw [List.length_set]; omega)] at h; cases h
    · rw [List.getElem?_set_ne c] at h
      exact E.at_ j d h
  cur := fun j c a z => by
    obtain ⟨h1, h2⟩ := E.cur j c a z
    refine ⟨h1, ?_⟩
    by_cases c : i = j
    · subst c
      rw [List.getElem?_set_self (List.getElem?_eq_some_iff.mp h2).1]
    · rw [List.getElem?_set_ne c]; exact h2
theorem EnR.wips {G : Cf} {S : Rho} {H : Hp} {e : En} {σ : L2.St} (E : EnR G S H e σ) : ∀ l : List Nat, EnR G S H (wipeE e l) σ
  | [] => E
  | i :: l => (EnR.wips E l).wip1 i
theorem b_wip {X : Cx} {G : Cf} {W : WX} {x : List Stmt} {f : FS} (l : List Nat) (h : PSs X x (tS G W f)) : PSs X x (tS G W (sWip l f)) :=
  PSs.imp h fun Z σ H ⟨S, h, e, R, E, P⟩ => ⟨S, h, wipeE e l, R, E.wips l, P⟩
mutual
def evE (m : Sm) : Cu → Ex → F D
  | _, .var i => dVar i
  | _, .cst c => dC c.d
  | _, .glb c => dC c.d
  | cu, .bin o a b => dB (evE m cu a) (evE m cu b) (binF o)
  | cu, .neg a => dU (evE m cu a) opNeg
  | cu, .cmp o a b => dB (evE m cu a) (evE m cu b) (cmpD o)
  | cu, .chn o o' a b c => dCh (evE m cu a) (evE m cu b) (evE m cu c) (cmpD o) (cmpD o')
  | cu, .and a b => dAnd (evE m cu a) (evE m cu b)
  | cu, .or a b => dOr (evE m cu a) (evE m cu b)
  | cu, .not a => dNot (evE m cu a)
  | cu, .ite t a b => dIf (evT m cu t) (evE m cu a) (evE m cu b)
  | cu, .tup l => dTup (evL m cu l)
  | cu, .lst l => dLst (evL m cu l)
  | cu, .new l => dNew (evL m cu l)
  | cu, .idx a b => dB (evE m cu a) (evE m cu b) opIdx
  | cu, .slc a lo hi => dSl (evE m cu a) (evO m cu lo) (evO m cu hi)
  | cu, .fld a f => dFld m.ft (evE m cu a) f
  | cu, .cal pu i dd l => dCl (evL m cu l) (m.f pu i) (dd.map Cst.d)
  | cu, .met pu a x t l => dMe (evE m cu a) (evL m cu l) (m.me pu t) x
  | cu, .mak pu c i dd l => dCl (evL m cu l) (if pu = true then mkP c (m.M i) (dd.map Cst.d) else mkC c (m.M i) (dd.map Cst.d)) []
  | cu, .bif b l => dBi (evL m cu l) b.op
  | cu, .bim b a l => dM (evE m cu a) b.c (evL m cu l) b.op
  | cu, .isi t a => dU (evE m cu a) (isiD t)
  | cu, .lset a => dU (evE m cu a) opLset
  | cu, .dcr a => dDcr (evE m cu a)
  | cu, .dis l => dDis (evP m cu l)
  | cu, .sst a => dU (evE m cu a) opSst
  | cu, .sky a => dU (evE m cu a) opSky
  | cu, .lky a => dU (evE m cu a) opLky
  | cu, .dg1 a k => dGet1 (evE m cu a) (evE m cu k)
  | _, .dfr => dDfr
  | _, .dnw => dDnw
  | cu, .isx i t => dIsx cu i t
  | cu, .isc t a => dU (evE m cu a) (iscD t)
  | cu, .bi0 b a => dM (evE m cu a) b.c dNil b.op
  | cu, .bnw b l => dBn (evL m cu l) b.op
  | cu, .kge t a d => kGet (t.map fun p => (p.1, p.2.d)) (evE m cu a) (evE m cu d)
  | cu, .ban a b => dBX (evE m cu a) (evE m cu b) opAddN
  | cu, .dge a k d => dGet (evE m cu a) (evE m cu k) (evE m cu d)
  | cu, .dse a k d => dSetd (evE m cu a) (evE m cu k) (evE m cu d)
  | _, .dcl t => dDcl t
  | cu, .lr2 a b => dLr2 (evE m cu a) (evE m cu b)
  | cu, .lrg a => dLrg (evE m cu a)
  | cu, .dpo a k => dPop (evE m cu a) (evE m cu k)
  | cu, .cmn e g s t own => dCompN (evS m cu s) g (evQ m cu t) (evE m cu e) (own.map (·.2))
  | cu, .cod e w g a t own => dCompD w (evE m cu a) g (evQ m cu t) (evE m cu e) (own.map (·.2))
  | cu, .com e g s t own => dComp (evS m cu s) g (evQ m cu t) (evE m cu e) (own.map (·.2))
def evT (m : Sm) : Cu → Tx → F Bool
  | cu, .val a => dT (evE m cu a)
  | cu, .cmp o a b => dT (dB (evE m cu a) (evE m cu b) (cmpD o))
  | cu, .chn o o' a b c => dT (dCh (evE m cu a) (evE m cu b) (evE m cu c) (cmpD o) (cmpD o'))
  | cu, .and a b => bAnd (evT m cu a) (evT m cu b)
  | cu, .or a b => bOr (evT m cu a) (evT m cu b)
  | cu, .not a => bNot (evT m cu a)
def evL (m : Sm) : Cu → Exs → F (List D)
  | _, .nil => dNil
  | cu, .cons a l => dCons (evE m cu a) (evL m cu l)
def evP (m : Sm) : Cu → Prs → List (F D × F D)
  | _, .nil => []
  | cu, .cons k v l => (evE m cu k, evE m cu v) :: evP m cu l
def evO (m : Sm) : Cu → Oe → F (Option Int)
  | _, .no => pNone
  | cu, .so a => pSome (evE m cu a)
def evQ (m : Sm) : Cu → Ot → F Bool
  | _, .no => bYes
  | cu, .so a => evT m cu a
def evS (m : Sm) : Cu → Sr → F Src
  | cu, .seq a => iSeq (evE m cu a)
  | cu, .rg1 a => iRange1 (evE m cu a)
  | cu, .rg2 a b => iRange2 (evE m cu a) (evE m cu b)
  | cu, .enu a => iEnu (evE m cu a)
  | cu, .zip a b => iZip (evE m cu a) (evE m cu b)
end
mutual
def evSt (m : Sm) : Cu → St → FS
  | _, .pass => sNx
  | _, .brk => sBrk
  | _, .cnt => sCnt
  | _, .never => sNever
  | cu, .asg g e => sAsg (evE m cu e) g
  | cu, .drop e => sDrop (evE m cu e)
  | cu, .ret e => sRet (evE m cu e)
  | _, .retN => sRetN
  | cu, .ite t a b => sIf (evT m cu t) (evB m cu a) (evB m cu b)
  | cu, .whl n t b => whl (evT m cu t) (evB m cu b) n
  | cu, .for s g b => sFor (evS m cu s) g (evB m cu b)
  | cu, .fod w a g b => sForD w (evE m cu a) g (evB m cu b)
  | cu, .fld a f v => sFldD m.ft (evE m cu a) f (evE m cu v)
  | cu, .sub o i v => sSub (evE m cu o) (evE m cu i) (evE m cu v)
  | _, .rai c => sRaise c
  | cu, .try b l => sTryN (evB m cu b) (evC m l)
def evB (m : Sm) : Cu → Bk → FS
  | _, .nil => sNx
  | cu, .cons s b => sSeq (evSt m cu s) (evB m cu b)
  | cu, .wip l b => sWip l (evB m cu b)
def evC (m : Sm) : Hcs → List DCl
  | .nil => []
  | .cons i t b l => ⟨i, fun c => match t.lookup c with
    | some true => some (some (evB m (i.map fun i => (i, c)) b))
    | some false => some none
    | none => none⟩ :: evC m l
end
/-! ### the module -/
structure FnT where
  nm : Str
  dd : List (Nat × List Cst)
structure Tb where
  fn : List FnT
  cs : List Str
  gl : List (Str × Cst)
  bn : List Str
  ft : List (Nat × Str)
  me : List (Nat × Str × Nat × Nat × List Cst)
  mks : List (Nat × Str × Nat × Nat × List Cst)
  ex : List (Nat × Str)
  xn : List Str
  xm : List (Nat × Str × Bool)
  xi : List (Nat × Str × Bool)
  inh : List (Nat × Str × Str) := []
  ic : List (Nat × Str × Bool) := []
  tab : List (Str × List (Str × Cst)) := []
def Tb.f (T : Tb) : FT := fun c f => decide ((c, f) ∈ T.ft)
def chOf (mg : Str → Option Value) (x : Str) : Value := match mg x with
  | some v => v
  | none => (bootBuiltins x).getD .none
def nmOk (x : Str) : Bool := !(x == ("__debug__" : Str)) && !(x == ("__classdict__" : Str))
structure TOk (T : Tb) (m : Sm) (k : Nat) (P : Program) (w : World) (K : PySem.W.Frag) (mg : Str → Option Value) (base : Heap) (G : Cg) : Prop where
  ft : m.ft = T.f
  fok : FOk G T.f
  bn : ∀ x ∈ T.bn, mg x = none
  gl : ∀ p ∈ T.gl, ∃ u, mg p.1 = some u ∧ RelV p.2.v u
  fn : ∀ i t, T.fn[i]? = some t → t.dd ≠ [] → ∃ fa, mg t.nm = some (.ref fa) ∧ ∀ n dd, (n, dd) ∈ t.dd → Cal G P w mg base (2 * k) fa n (dd.map Cst.d) (m.M i)
  me : ∀ c x n i dd, (c, x, n, i, dd) ∈ T.me → ∃ fa, Cls G.K (G.cad c) ∧ Meth G.K (G.cad c) x fa ∧ Cal G P w mg base (2 * k) fa n (dd.map Cst.d) (m.M i)
  mks : ∀ c x n i dd, (c, x, n, i, dd) ∈ T.mks → ∃ fi, mg x = some (.ref (G.cad c)) ∧ Mk G.K (G.cad c) fi ∧ Cal G P w mg base (2 * k) fi n (dd.map Cst.d) (m.M i)
  ex : ∀ q ∈ T.ex, mg q.2 = some (.ref (G.cad q.1)) ∧ ExC G q.1
  xn : ∀ x ∈ T.xn, mg x = some (chOf mg x) ∨ (mg x = none ∧ bootBuiltins x = some (chOf mg x) ∧ x ≠ "__name__")
  xm : ∀ q ∈ T.xm, PySem.W.exmOne G.K (.ref (G.cad q.1)) (chOf mg q.2.1) = some q.2.2
  xi : ∀ q ∈ T.xi, L2.ExcC G.K (G.cad q.1) ∧ ∃ v : V, RelV v (chOf mg q.2.1) ∧ (∀ u, RelV v u → u = chOf mg q.2.1) ∧ PySem.W.kitOne G.K (.ref (G.cad q.1)) (chOf mg q.2.1) = some q.2.2
  ic : ∀ q ∈ T.ic, InsX G.K (G.cad q.1) ∧ ∃ v : V, ClsV v (chOf mg q.2.1) ∧ RelV v (chOf mg q.2.1) ∧ PySem.W.kitOne G.K (.ref (G.cad q.1)) (chOf mg q.2.1) = some q.2.2
  tab : ∀ q ∈ T.tab, ∃ a, mg q.1 = some (.ref a) ∧ KTab K w a (q.2.map fun p => (p.1, p.2.v))
/-! ### the frame -/
structure Sc where
  N : List Str
  sc : Scope
  fn : Str → Bool
  cm : Bool
  df : Bool
def visB (sc : Scope) (x : Str) : Bool := match sc.names.lookup x with
  | some .local => true
  | some .cell => true
  | some .free => true
  | _ => false
def locB (sc : Scope) (x : Str) : Bool := match sc.names.lookup x with
  | some .local => true
  | some .cell => true
  | _ => false
def glB (sc : Scope) (x : Str) : Bool := match sc.names.lookup x with
  | some .globalImplicit => true
  | _ => false
def isLocal (sc : Scope) (x : Str) : Bool := match sc.names.lookup x with
  | some .local => true
  | _ => false
structure Ok (T : Tb) (m : Sm) (k : Nat) (Γ : Sc) (cu : Cu) (X : Cx) (G : Cf) (W : WX) : Prop where
  hK : G.K = X.K
  t : TOk T m k X.prog X.w X.K X.mg X.base G.toCg
  hN : X.N = Γ.N
  nd : X.N.Nodup
  un : X.A.units + 65 < cLine
  kd : X.env.scope.kind = .function
  sc : X.env.scope = Γ.sc
  fn : X.fn = Γ.fn
  cm : Γ.cm = true → X.calm = true ∧ Room (2 * k + 1) X.A ∧ Takes X W ∧ PassesOwn (model X.prog X.w) X.A X.env X.xe ∧ cu = none
  df : Γ.df = true → X.stack = X.env :: X.outer ∧ X.env.frame = some X.env.locals
  c0 : cu = none → G.cur = none
  c1 : ∀ i c, cu = some (i, c) → ∃ a, G.cur = some (i, c, a) ∧ (L2.ExcC X.K (G.cad c) → CallR X (.builtin "isinstance") (rIsE X.K (G.cad c) a))
  c2 : ∀ i c a, G.cur = some (i, c, a) → cu = some (i, c)
/-! ### checks -/
def chCst : Cst → Const → Bool
  | .non, .none => true
  | .bl b, .bool c => b == c
  | .int i, .int j => decide (i = j)
  | .str x, .str y => decide (x = y)
  | _, _ => false
def blkB (N : List Str) (sc scope : Scope) (own : List (Str × Nat)) : Bool :=
  decide (scope.kind = .function) && scope.names.all (fun y => decide (scope.names.lookup y.1 = some y.2)) && own.all (fun p => decide (N[p.2]? = some p.1)) &&
    scope.names.all (fun y => match y.2 with
      | .free => decide (sc.names.lookup y.1 = some .cell) || decide (sc.names.lookup y.1 = some .free)
      | .local => decide (y.1 ∈ own.map (·.1)) || !decide (y.1 ∈ N)
      | .cell => decide (y.1 ∈ own.map (·.1)) || !decide (y.1 ∈ N)
      | _ => true)
theorem blk_ok {N : List Str} {sc scope : Scope} {own : List (Str × Nat)} (h : blkB N sc scope own = true) : BlkOk N sc scope own := by
  unfold blkB at h
  simp only [Bool.and_eq_true, decide_eq_true_eq, List.all_eq_true] at h
  obtain ⟨⟨⟨h1, h2⟩, h3⟩, h4⟩ := h
  refine ⟨h1, h2, h3, fun y hy e => ?_, fun y hy e => ?_⟩
  · have z := h4 y hy
    rw [e] at z
    simpa using z
  · have z := h4 y hy
    rcases e with e | e <;> rw [e] at z <;> simpa using z
mutual
def chG (Γ : Sc) : Tg → Expr → Bool
  | .nm i, x => match x with
    | .Name y _ => decide (Γ.N[i]? = some y) && locB Γ.sc y && (Γ.fn y || isLocal Γ.sc y)
    | _ => false
  | .tp l, x => match x with
    | .Tuple es _ _ => Γ.cm && chGs Γ l es && es.all noStar && decide (es.length = l.length)
    | _ => false
def chGs (Γ : Sc) : List Tg → List Expr → Bool
  | [], es => match es with
    | [] => true
    | _ => false
  | t :: l, es => match es with
    | e :: es => chG Γ t e && noStar e && chGs Γ l es
    | [] => false
end
def Tb.okF (T : Tb) (i n : Nat) (dd : List Cst) (y : Str) : Bool := match T.fn[i]? with
  | some t => decide (t.nm = y) && decide ((n, dd) ∈ t.dd)
  | none => false
def Sc.blk (Γ : Sc) (scope : Scope) : Sc := ⟨Γ.N, relS scope Γ.sc, fun x => scope.names.lookup x == some .cell, Γ.cm, false⟩
def plainT : Expr → Bool
  | .UnaryOp .Not _ _ => false
  | .BoolOp _ _ _ => false
  | .IfExp _ _ _ _ => false
  | .Compare _ _ _ _ => false
  | _ => true
/-- what is walked hands over new tuples -/
def srT : Sr → Bool
  | .enu _ => true
  | .zip _ _ => true
  | _ => false
def isTupE : Expr → Bool
  | .Tuple _ _ _ => true
  | _ => false
/-- the dict that is walked -/
def dwI (w : Dw) (x : Expr) : Option Expr := match w with
  | .ks => some x
  | .km => match x with
    | .Call (.Attribute o y p) [] [] q => if (decide (y = ("keys" : Str)) && okBase o && (p.endLine == q.line)) = true then some o else none
    | _ => none
  | .vs => match x with
    | .Call (.Attribute o y p) [] [] q => if (decide (y = ("values" : Str)) && okBase o && (p.endLine == q.line)) = true then some o else none
    | _ => none
  | .its => match x with
    | .Call (.Attribute o y p) [] [] q => if (decide (y = ("items" : Str)) && okBase o && (p.endLine == q.line)) = true then some o else none
    | _ => none
def notCod : Ex → Bool
  | .cod _ _ _ _ _ _ => false
  | _ => true
mutual
def chE (T : Tb) : Sc → Ex → Expr → Bool
  | Γ, .var i, x => match x with
    | .Name y _ => decide (Γ.N[i]? = some y) && visB Γ.sc y && nmOk y
    | _ => false
  | _, .cst c, x => match x with
    | .Constant k _ _ => chCst c k
    | _ => false
  | Γ, .glb c, x => match x with
    | .Name y _ => glB Γ.sc y && decide ((y, c) ∈ T.gl) && nmOk y
    | _ => false
  | Γ, .bin o a b, x => match x with
    | .BinOp p q r _ => decide (q = o) && (binD o).isSome && chE T Γ a p && chE T Γ b r
    | _ => false
  | Γ, .neg a, x => match x with
    | .UnaryOp .USub p _ => chE T Γ a p
    | _ => false
  | Γ, .cmp o a b, x => match x with
    | .Compare p [q] [r] _ => decide (q = o) && noSet r && chE T Γ a p && chE T Γ b r
    | _ => false
  | Γ, .chn o o' a b c, x => match x with
    | .Compare p [q, q'] [r, s] _ => decide (q = o) && decide (q' = o') && noSet s && chE T Γ a p && chE T Γ b r && chE T Γ c s
    | _ => false
  | Γ, .and a b, x => match x with
    | .BoolOp .And (p :: q :: r) ps => chE T Γ a p && (match r with
      | [] => chE T Γ b q
      | _ => chE T Γ b (.BoolOp .And (q :: r) ps))
    | _ => false
  | Γ, .or a b, x => match x with
    | .BoolOp .Or (p :: q :: r) ps => chE T Γ a p && (match r with
      | [] => chE T Γ b q
      | _ => chE T Γ b (.BoolOp .Or (q :: r) ps))
    | _ => false
  | Γ, .not a, x => match x with
    | .UnaryOp .Not p _ => chE T Γ a p
    | _ => false
  | Γ, .ite t a b, x => match x with
    | .IfExp c p q _ => chT T Γ t c && chE T Γ a p && chE T Γ b q
    | _ => false
  | Γ, .tup l, x => match x with
    | .Tuple es _ _ => chL T Γ l es
    | _ => false
  | Γ, .lst l, x => match x with
    | .List es _ => chL T Γ l es
    | _ => false
  | Γ, .new l, x => match x with
    | .List es _ => chL T Γ l es
    | _ => false
  | Γ, .idx a b, x => match x with
    | .Subscript p q _ => noSlice q && chE T Γ a p && chE T Γ b q
    | _ => false
  | Γ, .slc a lo hi, x => match x with
    | .Subscript p (.Slice l h none _) _ => chE T Γ a p && chO T Γ lo l && chO T Γ hi h
    | _ => false
  | Γ, .fld a f, x => match x with
    | .Attribute p g _ => decide (g = f) && okBase p && chE T Γ a p
    | _ => false
  | Γ, .cal _ i dd l, x => match x with
    | .Call (.Name y _) es [] _ => Γ.cm && glB Γ.sc y && nmOk y && T.okF i es.length dd y && es.all noStar && chL T Γ l es
    | _ => false
  | Γ, .met _ a m t l, x => match x with
    | .Call (.Attribute o y p) es [] q => Γ.cm && decide (y = m) && okBase o && (p.endLine == q.line) && es.all noStar && decide (es.length < 18) && t.all (fun z => decide ((z.1, m, es.length + 1, z.2.1, z.2.2) ∈ T.me)) && chE T Γ a o && chL T Γ l es
    | _ => false
  | Γ, .mak _ c i dd l, x => match x with
    | .Call (.Name y _) es [] _ => Γ.cm && glB Γ.sc y && nmOk y && decide ((c, y, es.length + 1, i, dd) ∈ T.mks) && es.all noStar && chL T Γ l es
    | _ => false
  | Γ, .bif b l, x => match x with
    | .Call (.Name y _) (e :: es) [] _ => Γ.cm && glB Γ.sc y && decide (y = Str.ofString b.nm) && decide (y ∈ T.bn) && (e :: es).all noStar && chL T Γ l (e :: es)
    | _ => false
  | Γ, .bim b a l, x => match x with
    | .Call (.Attribute o y p) (e :: es) [] q => decide (y = Str.ofString b.nm) && okBase o && (p.endLine == q.line) && (e :: es).all noStar && decide (es.length < 20) && chE T Γ a o && chL T Γ l (e :: es)
    | _ => false
  | Γ, .isi t a, x => match x with
    | .Call (.Name y _) [e, .Name z _] [] _ => glB Γ.sc y && glB Γ.sc z && decide (y = ("isinstance" : Str)) && decide (y ∈ T.bn) && decide (z = Str.ofString t.name) && decide (z ∈ T.bn) && noStar e && decide (t ≠ .non) && chE T Γ a e
    | _ => false
  | Γ, .sst a, x => match x with
    | .Call (.Name y _) [.Call (.Name z _) [e] [] _] [] _ => Γ.cm && glB Γ.sc y && glB Γ.sc z && decide (y = ("sorted" : Str)) && decide (y ∈ T.bn) && decide (z = ("set" : Str)) && decide (z ∈ T.bn) && noStar e && chE T Γ a e
    | _ => false
  | Γ, .sky a, x => match x with
    | .Call (.Name y _) [.Call (.Attribute o z p) [] [] q] [] _ => Γ.cm && glB Γ.sc y && decide (y = ("sorted" : Str)) && decide (y ∈ T.bn) && decide (z = ("keys" : Str)) && okBase o && (p.endLine == q.line) && chE T Γ a o
    | _ => false
  | Γ, .lky a, x => match x with
    | .Call (.Name y _) [.Call (.Attribute o z p) [] [] q] [] _ => Γ.cm && glB Γ.sc y && decide (y = ("list" : Str)) && decide (y ∈ T.bn) && decide (z = ("keys" : Str)) && okBase o && (p.endLine == q.line) && chE T Γ a o
    | _ => false
  | Γ, .dg1 a k, x => match x with
    | .Call (.Attribute o y p) [e] [] q => decide (y = ("get" : Str)) && okBase o && (p.endLine == q.line) && noStar e && chE T Γ a o && chE T Γ k e
    | _ => false
  | Γ, .dcr a, x => match x with
    | .Call (.Attribute o y p) [] [] q => decide (y = ("clear" : Str)) && okBase o && (p.endLine == q.line) && chE T Γ a o
    | _ => false
  | Γ, .dis l, x => match x with
    | .Dict ks vs _ => decide (ks ≠ []) && decide (ks.length ≤ 15) && chP T Γ l ks vs
    | _ => false
  | Γ, .lset a, x => match x with
    | .Call (.Name y _) [.Call (.Name z _) [e] [] _] [] _ => Γ.cm && glB Γ.sc y && glB Γ.sc z && decide (y = ("len" : Str)) && decide (y ∈ T.bn) && decide (z = ("set" : Str)) && decide (z ∈ T.bn) && noStar e && chE T Γ a e
    | _ => false
  | _, .dfr, x => match x with
    | .Dict [] [] _ => true
    | _ => false
  | _, .dnw, x => match x with
    | .Dict [] [] _ => true
    | _ => false
  | Γ, .isx i t, x => match x with
    | .Call (.Name y _) [.Name e _, .Name z _] [] _ => glB Γ.sc y && glB Γ.sc z && decide (y = ("isinstance" : Str)) && decide (y ∈ T.bn) && decide (Γ.N[i]? = some e) && visB Γ.sc e && nmOk e && nmOk z && decide (z ∈ T.xn) && t.all (fun q => decide ((q.1, z, q.2) ∈ T.xi))
    | _ => false
  | Γ, .isc t a, x => match x with
    | .Call (.Name y _) [e, .Name z _] [] _ => glB Γ.sc y && glB Γ.sc z && decide (y = ("isinstance" : Str)) && decide (y ∈ T.bn) && nmOk z && decide (z ∈ T.xn) && t.all (fun q => decide ((q.1, z, q.2) ∈ T.ic)) && noStar e && !t.isEmpty && chE T Γ a e
    | _ => false
  | Γ, .bi0 b a, x => match x with
    | .Call (.Attribute o y p) [] [] q => decide (y = Str.ofString b.nm) && okBase o && (p.endLine == q.line) && chE T Γ a o
    | _ => false
  | Γ, .bnw b l, x => match x with
    | .Call (.Name y _) (e :: es) [] _ => Γ.cm && glB Γ.sc y && decide (y = Str.ofString b.nm) && decide (y ∈ T.bn) && (e :: es).all noStar && chL T Γ l (e :: es)
    | _ => false
  | Γ, .kge t a d, x => match x with
    | .Call (.Attribute (.Name z _) y p) [e, e'] [] q => decide (y = ("get" : Str)) && glB Γ.sc z && nmOk z && decide ((z, t) ∈ T.tab) && (p.endLine == q.line) && noStar e && noStar e' && chE T Γ a e && chE T Γ d e'
    | _ => false
  | Γ, .ban a b, x => match x with
    | .BinOp p .Add r _ => chE T Γ a p && chE T Γ b r
    | _ => false
  | Γ, .dge a k d, x => match x with
    | .Call (.Attribute o y p) [e, e'] [] q => decide (y = ("get" : Str)) && okBase o && (p.endLine == q.line) && noStar e && noStar e' && chE T Γ a o && chE T Γ k e && chE T Γ d e'
    | _ => false
  | Γ, .dse a k d, x => match x with
    | .Call (.Attribute o y p) [e, e'] [] q => decide (y = ("setdefault" : Str)) && okBase o && (p.endLine == q.line) && noStar e && noStar e' && chE T Γ a o && chE T Γ k e && chE T Γ d e'
    | _ => false
  | _, .dcl t, x => match x with
    | .Dict ks vs _ => chDc t ks vs && decide (t ≠ []) && decide (t.length ≤ 15) && decide (t.map (·.1)).Nodup
    | _ => false
  | Γ, .lr2 a b, x => match x with
    | .Call (.Name y _) [.Call (.Name z _) [e, e'] [] _] [] _ => Γ.cm && glB Γ.sc y && glB Γ.sc z && decide (y = ("list" : Str)) && decide (y ∈ T.bn) && decide (z = ("range" : Str)) && decide (z ∈ T.bn) && noStar e && noStar e' && chE T Γ a e && chE T Γ b e'
    | _ => false
  | Γ, .lrg a, x => match x with
    | .Call (.Name y _) [.Call (.Name z _) [e] [] _] [] _ => Γ.cm && glB Γ.sc y && glB Γ.sc z && decide (y = ("list" : Str)) && decide (y ∈ T.bn) && decide (z = ("range" : Str)) && decide (z ∈ T.bn) && noStar e && chE T Γ a e
    | _ => false
  | Γ, .dpo a k, x => match x with
    | .Call (.Attribute o y p) [e] [] q => decide (y = ("pop" : Str)) && okBase o && (p.endLine == q.line) && noStar e && chE T Γ a o && chE T Γ k e
    | _ => false
  | Γ, .cmn e g s t own, x => match x with
    | .ListComp el [⟨tg, it, ifs, 0⟩] scope _ => Γ.cm && (!srT s || isTupE tg) && chS T Γ s it && noSetT it && blkB Γ.N Γ.sc scope own && (slotsT g).all (fun i => decide (i ∈ own.map (·.2))) && chG (Γ.blk scope) g tg && chQ T (Γ.blk scope) t ifs && chE T (Γ.blk scope) e el
    | _ => false
  | Γ, .cod e w g a t own, x => match x with
    | .ListComp el [⟨tg, it, ifs, 0⟩] scope _ => Γ.cm && (!decide (w = .its) || isTupE tg) && (match dwI w it with
      | some o => chE T Γ a o
      | none => false) && noSetT it && blkB Γ.N Γ.sc scope own && (slotsT g).all (fun i => decide (i ∈ own.map (·.2))) && chG (Γ.blk scope) g tg && chQ T (Γ.blk scope) t ifs && chE T (Γ.blk scope) e el
    | _ => false
  | Γ, .com e g s t own, x => match x with
    | .ListComp el [⟨tg, it, ifs, 0⟩] scope _ => Γ.cm && (!srT s || isTupE tg) && chS T Γ s it && noSetT it && blkB Γ.N Γ.sc scope own && (slotsT g).all (fun i => decide (i ∈ own.map (·.2))) && chG (Γ.blk scope) g tg && chQ T (Γ.blk scope) t ifs && chE T (Γ.blk scope) e el
    | _ => false
def chT (T : Tb) : Sc → Tx → Expr → Bool
  | Γ, .val a, x => plainT x && chE T Γ a x
  | Γ, .cmp o a b, x => match x with
    | .Compare p [q] [r] _ => decide (q = o) && noSet r && chE T Γ a p && chE T Γ b r
    | _ => false
  | Γ, .chn o o' a b c, x => match x with
    | .Compare p [q, q'] [r, s] _ => decide (q = o) && decide (q' = o') && noSet s && chE T Γ a p && chE T Γ b r && chE T Γ c s
    | _ => false
  | Γ, .and a b, x => match x with
    | .BoolOp .And (p :: q :: r) ps => chT T Γ a p && (match r with
      | [] => chT T Γ b q
      | _ => chT T Γ b (.BoolOp .And (q :: r) ps))
    | _ => false
  | Γ, .or a b, x => match x with
    | .BoolOp .Or (p :: q :: r) ps => chT T Γ a p && (match r with
      | [] => chT T Γ b q
      | _ => chT T Γ b (.BoolOp .Or (q :: r) ps))
    | _ => false
  | Γ, .not a, x => match x with
    | .UnaryOp .Not p _ => chT T Γ a p
    | _ => false
def chL (T : Tb) : Sc → Exs → List Expr → Bool
  | _, .nil, es => match es with
    | [] => true
    | _ => false
  | Γ, .cons a l, es => match es with
    | e :: es => noStar e && chE T Γ a e && chL T Γ l es
    | [] => false
def chP (T : Tb) : Sc → Prs → List (Option Expr) → List Expr → Bool
  | _, .nil, ks, vs => match ks, vs with
    | [], [] => true
    | _, _ => false
  | Γ, .cons k v l, ks, vs => match ks, vs with
    | some a :: ks, b :: vs => chE T Γ k a && chE T Γ v b && chP T Γ l ks vs
    | _, _ => false
def chO (T : Tb) : Sc → Oe → Option Expr → Bool
  | _, .no, x => match x with
    | none => true
    | _ => false
  | Γ, .so a, x => match x with
    | some e => chE T Γ a e
    | none => false
def chQ (T : Tb) : Sc → Ot → List Expr → Bool
  | _, .no, es => match es with
    | [] => true
    | _ => false
  | Γ, .so a, es => match es with
    | [e] => chT T Γ a e
    | _ => false
def chS (T : Tb) : Sc → Sr → Expr → Bool
  | Γ, .seq a, x => chE T Γ a x
  | Γ, .rg1 a, x => match x with
    | .Call (.Name y _) [e] [] _ => glB Γ.sc y && decide (y = ("range" : Str)) && decide (y ∈ T.bn) && noStar e && chE T Γ a e
    | _ => false
  | Γ, .rg2 a b, x => match x with
    | .Call (.Name y _) [e, e'] [] _ => glB Γ.sc y && decide (y = ("range" : Str)) && decide (y ∈ T.bn) && noStar e && noStar e' && chE T Γ a e && chE T Γ b e'
    | _ => false
  | Γ, .enu a, x => match x with
    | .Call (.Name y _) [e] [] _ => glB Γ.sc y && decide (y = ("enumerate" : Str)) && decide (y ∈ T.bn) && noStar e && chE T Γ a e
    | _ => false
  | Γ, .zip a b, x => match x with
    | .Call (.Name y _) [e, e'] [] _ => glB Γ.sc y && decide (y = ("zip" : Str)) && decide (y ∈ T.bn) && noStar e && noStar e' && chE T Γ a e && chE T Γ b e'
    | _ => false
end
/-- name = [..]: the slot, or a cell -/
def swB (Γ : Sc) (tg v : Expr) : Bool := match tg, v with
  | .Name y py, .ListComp _ _ scope pos => (isLocal Γ.sc y && (py.line == pos.line) && !(scope.names.any fun (n, k) => n == y && (k == .local || k == .cell))) || decide (Γ.sc.names.lookup y = some .cell)
  | _, _ => false
mutual
def chSt (T : Tb) : Sc → St → Stmt → Bool
  | _, .pass, x => match x with
    | .Pass _ => true
    | _ => false
  | _, .brk, x => match x with
    | .Break _ => true
    | _ => false
  | _, .cnt, x => match x with
    | .Continue _ => true
    | _ => false
  | _, .never, _ => true
  | Γ, .asg g e, x => match x with
    | .Assign [tg] v _ => chE T Γ e v && chG Γ g tg && (noTup tg || noTup v) && noStar tg && (noComp v || swB Γ tg v) && notCod e
    | _ => false
  | Γ, .drop e, x => match x with
    | .Expr v _ => chE T Γ e v && noComp v
    | _ => false
  | Γ, .ret e, x => match x with
    | .Return (some v) _ => chE T Γ e v
    | _ => false
  | _, .retN, x => match x with
    | .Return none _ => true
    | _ => false
  | Γ, .ite t a b, x => match x with
    | .If c p q _ => chT T Γ t c && chB T Γ a p && chB T Γ b q
    | _ => false
  | Γ, .whl _ t b, x => match x with
    | .While c p [] _ => Γ.cm && chT T Γ t c && chB T Γ b p
    | _ => false
  | Γ, .for s g b, x => match x with
    | .For tg it p [] _ => Γ.cm && (!srT s || isTupE tg) && chS T Γ s it && noSetT it && chG Γ g tg && chB T Γ b p
    | _ => false
  | Γ, .fod w a g b, x => match x with
    | .For tg it p [] _ => Γ.cm && (!decide (w = .its) || isTupE tg) && (match dwI w it with
      | some o => chE T Γ a o
      | none => false) && noSetT it && chG Γ g tg && chB T Γ b p
    | _ => false
  | Γ, .fld a f v, x => match x with
    | .Assign [.Attribute o g _] e _ => decide (g = f) && chE T Γ a o && chE T Γ v e
    | _ => false
  | Γ, .sub o i v, x => match x with
    | .Assign [.Subscript p q _] e _ => noComp e && noSlice q && chE T Γ o p && chE T Γ i q && chE T Γ v e
    | _ => false
  | Γ, .rai c, x => match x with
    | .Raise (some (.Call (.Name y _) [.Constant (.str _) _ _] [] _)) none _ => Γ.cm && glB Γ.sc y && nmOk y && decide ((c, y) ∈ T.ex)
    | _ => false
  | Γ, .try b l, x => match x with
    | .Try p (h :: hs) [] [] _ => Γ.cm && Γ.df && chB T Γ b p && chC T Γ l (h :: hs)
    | _ => false
def chB (T : Tb) : Sc → Bk → List Stmt → Bool
  | _, .nil, x => match x with
    | [] => true
    | _ => false
  | Γ, .cons s b, x => match x with
    | y :: l => chSt T Γ s y && chB T Γ b l
    | [] => false
  | Γ, .wip _ b, x => chB T Γ b x
def chC (T : Tb) : Sc → Hcs → List ExceptHandler → Bool
  | _, .nil, x => match x with
    | [] => true
    | _ => false
  | Γ, .cons i t b l, x => match x with
    | .ExceptHandler (some (.Name y _)) nm (b0 :: rest) _ :: hs => glB Γ.sc y && nmOk y && decide (y ∈ T.xn) && (match nm, i with
      | none, none => true
      | some n, some i => decide (Γ.N[i]? = some n) && isLocal Γ.sc n
      | _, _ => false) && t.all (fun q => decide ((q.1, y, q.2) ∈ T.xm)) && chB T ⟨Γ.N, Γ.sc, Γ.fn, false, false⟩ b (b0 :: rest) && chC T Γ l hs
    | _ => false
end
end Sb

/-! Sb12: what is checked does what it says. -/
namespace Sb
open L2 PySem PySem.Spec PyProof.Rows
theorem vis_of {sc : Scope} {x : Str} (h : visB sc x = true) : Vis sc x := by
  unfold visB at h
  split at h
  · rename_i e; exact .inl e
  · rename_i e; exact .inr (.inl e)
  · rename_i e; exact .inr (.inr e)
  · cases h
theorem loc_of {sc : Scope} {x : Str} (h : locB sc x = true) : Loc sc x := by
  unfold locB at h
  split at h
  · rename_i e; exact .inl e
  · rename_i e; exact .inr e
  · cases h
theorem gl_of {sc : Scope} {x : Str} (h : glB sc x = true) : sc.names.lookup x = some .globalImplicit := by
  unfold glB at h
  split at h
  · rename_i e; exact e
  · cases h
theorem isl_of {sc : Scope} {x : Str} (h : isLocal sc x = true) : sc.names.lookup x = some .local := by
  unfold isLocal at h
  split at h
  · rename_i e; exact e
  · cases h
theorem nm1 {x : Str} (h : nmOk x = true) : (x == ("__debug__" : Str)) = false := by
  unfold nmOk at h
  have z := (Bool.and_eq_true_iff.mp h).1
  simpa using z
theorem nm2 {x : Str} (h : nmOk x = true) : (x == ("__classdict__" : Str)) = false := by
  unfold nmOk at h
  have z := (Bool.and_eq_true_iff.mp h).2
  simpa using z
theorem plain_true {x : Expr} (h : plainT x = true) (env : Env) : ∀ whole, isTrue x env whole = (do let v ← whole; standAt x.pos; holding [v] (truthy v)) := by
  intro whole
  cases x with
  | UnaryOp op a p => cases op <;> first | rfl | cases h
  | BoolOp _ _ _ => cases h
  | IfExp _ _ _ _ => cases h
  | Compare _ _ _ _ => cases h
  | _ => rfl
theorem pw_of {X : Cx} {op : BoolOp} {l : List Expr} {pos : Pos} {t : TT} (h : PT X (.BoolOp op l pos) t) : PW X (.BoolOp op l pos) t := ⟨fun whole pins s σ H Q I q => h.run pins s σ H Q I q⟩
theorem w0 {X : Cx} : Takes X W0 := fun _ _ x => by
  obtain ⟨_, _, _, _, _, _, _, _, _, _, _, _, _, _, _, _, z⟩ := x
  exact z.elim
theorem tk_mem {α : Type} {l : List (Nat × α)} {c : Nat} {q : α} (h : l.lookup c = some q) : (c, q) ∈ l := by
  induction l with
  | nil => cases h
  | cons p r ih =>
    obtain ⟨a, b⟩ := p
    rw [List.lookup_cons] at h
    cases e : c == a with
    | true =>
      rw [e] at h
      cases h
      have := eq_of_beq e
      subst this
      exact List.mem_cons_self
    | false =>
      rw [e] at h
      exact List.mem_cons_of_mem _ (ih h)
section
variable {T : Tb} {m : Sm} {k : Nat} {Γ : Sc} {cu : Cu} {X : Cx} {G : Cf} {W : WX}
theorem Ok.gl (o : Ok T m k Γ cu X G W) {x : Str} (h : glB Γ.sc x = true) : Gl X x := by
  show X.env.scope.names.lookup x = _
  rw [o.sc]; exact gl_of h
theorem Ok.blk (o : Ok T m k Γ cu X G W) (hc : Γ.cm = true) {scope : Scope} (hk : scope.kind = .function) (s : Shared) (H : Hp) (C : Addr) (cl : List (Str × Addr)) (fp : List Addr) : Ok T m k (Γ.blk scope) cu (X.blk s H scope (compEnvC scope cl C X.env) fp) G W0 where
  hK := o.hK
  t := o.t
  hN := o.hN
  nd := o.nd
  un := o.un
  kd := hk
  sc := by show relS scope X.env.scope = relS scope Γ.sc; rw [o.sc]
  fn := rfl
  cm := fun _ => ⟨(o.cm hc).1, (o.cm hc).2.1, w0, PassesOwn.never, (o.cm hc).2.2.2.2⟩
  df := fun z => by cases z
  c0 := o.c0
  c1 := fun i c z => by rw [(o.cm hc).2.2.2.2] at z; cases z
  c2 := o.c2
theorem Ok.tr (o : Ok T m k Γ cu X G W) (hc : Γ.cm = true) {W' : WX} {pn : List (Addr × Obj)} {xe : Value → Shared → Prop} (tk : Takes (X.tr pn xe) W') (ps : PassesOwn (model X.prog X.w) X.A X.env xe) : Ok T m k Γ cu (X.tr pn xe) G W' where
  hK := o.hK
  t := o.t
  hN := o.hN
  nd := o.nd
  un := o.un
  kd := o.kd
  sc := o.sc
  fn := o.fn
  cm := fun _ => ⟨(o.cm hc).1, (o.cm hc).2.1, tk, ps, (o.cm hc).2.2.2.2⟩
  df := o.df
  c0 := o.c0
  c1 := fun i c z => by rw [(o.cm hc).2.2.2.2] at z; cases z
  c2 := o.c2
theorem Ok.suite (o : Ok T m k Γ cu X G W) {i : Option Nat} {c : Nat} {a : Addr} {ob : Obj} {pn : List (Addr × Obj)} (hz : Zc (.ref (G.cad c)) none ob) (hd : ∃ z, ob.data = .fields z) :
    Ok T m k ⟨Γ.N, Γ.sc, Γ.fn, false, false⟩ (i.map fun i => (i, c)) (X.suite a ((a, ob) :: pn)) (G.hand i c a) W0 where
  hK := o.hK
  t := o.t
  hN := o.hN
  nd := o.nd
  un := o.un
  kd := o.kd
  sc := o.sc
  fn := o.fn
  cm := fun z => by cases z
  df := fun z => by cases z
  c0 := fun z => by
    cases i with
    | none => rfl
    | some j => cases z
  c1 := fun j c' z => by
    cases i with
    | none => cases z
    | some j' =>
      cases z
      exact ⟨a, rfl, fun C => call_isE C hz hd⟩
  c2 := fun j c' a' z => by
    cases i with
    | none => cases z
    | some j' => cases z; rfl
/-! ### targets -/
theorem Ok.nocur (o : Ok T m k Γ cu X G W) {i : Nat} (h : ∀ c, cu ≠ some (i, c)) : ∀ c a, G.cur ≠ some (i, c, a) := fun c a z => h c (o.c2 i c a z)
end
def noCu (cu : Cu) (g : Tg) : Bool := match cu with
  | none => true
  | some (i, _) => !decide (i ∈ slotsT g)
mutual
theorem sG {T : Tb} {m : Sm} {k : Nat} : ∀ (g : Tg) {Γ : Sc} {cu : Cu} {X : Cx} {G : Cf} {W : WX} {x : Expr}, Ok T m k Γ cu X G W → (∀ i c, cu = some (i, c) → i ∉ slotsT g) → chG Γ g x = true → PG X x (gT G g)
  | .nm i, Γ, cu, X, G, W, x, o, hn, h => by
    unfold chG at h
    split at h
    rotate_left
    · cases h
    simp only [Bool.and_eq_true, Bool.or_eq_true, decide_eq_true_eq] at h
    obtain ⟨⟨h1, h2⟩, h3⟩ := h
    refine g_nm o.nd (by rw [o.hN]; exact h1) (by rw [o.sc]; exact loc_of h2) ?_ (fun c a z => hn i c (o.c2 i c a z) (by unfold slotsT; exact List.mem_singleton.mpr rfl))
    rw [o.fn, o.sc]
    exact h3.imp (fun z => z) isl_of
  | .tp l, Γ, cu, X, G, W, x, o, hn, h => by
    unfold chG at h
    split at h
    rotate_left
    · cases h
    simp only [Bool.and_eq_true, decide_eq_true_eq] at h
    obtain ⟨⟨⟨h1, h2⟩, h3⟩, h4⟩ := h
    exact g_tp o.hK (o.cm h1).1 (sGs l o (fun i c z => by have := hn i c z; unfold slotsT at this; exact this) h2) h3 h4
theorem sGs {T : Tb} {m : Sm} {k : Nat} : ∀ (g : List Tg) {Γ : Sc} {cu : Cu} {X : Cx} {G : Cf} {W : WX} {x : List Expr}, Ok T m k Γ cu X G W → (∀ i c, cu = some (i, c) → i ∉ slotsTs g) → chGs Γ g x = true → PGs X x (gTs G g)
  | [], Γ, cu, X, G, W, x, o, hn, h => by
    unfold chGs at h
    split at h
    · exact gs_nil
    · cases h
  | t :: l, Γ, cu, X, G, W, x, o, hn, h => by
    unfold chGs at h
    split at h
    rotate_left
    · cases h
    simp only [Bool.and_eq_true] at h
    obtain ⟨⟨h1, h2⟩, h3⟩ := h
    have hh : ∀ i c, cu = some (i, c) → i ∉ slotsT t ∧ i ∉ slotsTs l := fun i c z => by
      have := hn i c z
      unfold slotsTs at this
      rw [List.mem_append, not_or] at this
      exact this
    exact gs_cons (sG t o (fun i c z => (hh i c z).1) h1) (sGs l o (fun i c z => (hh i c z).2) h3) h2
end
/-! ### built-in functions -/
section
variable {T : Tb} {m : Sm} {k : Nat} {Γ : Sc} {cu : Cu} {X : Cx} {G : Cf} {W : WX}
theorem s_bif (o : Ok T m k Γ cu X G W) (b : BF) {r : F (List D)} {e : Expr} {es : List Expr} {p pos : Pos} (hc : Γ.cm = true) (hg : glB Γ.sc (Str.ofString b.nm) = true) (hb : Str.ofString b.nm ∈ T.bn) (hs : (e :: es).all noStar = true) (ha : PA X (e :: es) (tA G W r)) :
    PE X (.Call (.Name (Str.ofString b.nm) p) (e :: es) [] pos) (tE G W (dBi r b.op)) := by
  have hcm := (o.cm hc).1
  have hm := o.t.bn _ hb
  cases b with
  | len => exact e_callB (cr_len o.hK) (o.gl hg) hm (by decide +kernel) ha hs (by decide +kernel) (by decide +kernel)
  | sum => exact e_callB (cr_sumD o.hK hcm) (o.gl hg) hm (by decide +kernel) ha hs (by decide +kernel) (by decide +kernel)
  | all => exact e_callB (cr_allD o.hK hcm) (o.gl hg) hm (by decide +kernel) ha hs (by decide +kernel) (by decide +kernel)
  | any => exact e_callB (cr_anyD o.hK hcm) (o.gl hg) hm (by decide +kernel) ha hs (by decide +kernel) (by decide +kernel)
  | max => exact e_callB (cr_maxD o.hK hcm) (o.gl hg) hm (by decide +kernel) ha hs (by decide +kernel) (by decide +kernel)
  | min => exact e_callB (cr_minD o.hK hcm) (o.gl hg) hm (by decide +kernel) ha hs (by decide +kernel) (by decide +kernel)
  | int => exact e_callTy cr_intD (o.gl hg) hm (by decide +kernel) ha hs (by decide +kernel) (by decide +kernel)
  | list => exact e_callTy (cr_listD o.hK hcm) (o.gl hg) hm (by decide +kernel) ha hs (by decide +kernel) (by decide +kernel)
  | tuple => exact e_callTy (cr_tupleD o.hK) (o.gl hg) hm (by decide +kernel) ha hs (by decide +kernel) (by decide +kernel)
  | sorted => exact e_callB (cr_sortedD o.hK hcm) (o.gl hg) hm (by decide +kernel) ha hs (by decide +kernel) (by decide +kernel)
  | dict => exact e_callTy cr_dictD (o.gl hg) hm (by decide +kernel) ha hs (by decide +kernel) (by decide +kernel)
theorem s_bnw (o : Ok T m k Γ cu X G W) (b : BN) {r : F (List D)} {e : Expr} {es : List Expr} {p pos : Pos} (hc : Γ.cm = true) (hg : glB Γ.sc (Str.ofString b.nm) = true) (hb : Str.ofString b.nm ∈ T.bn) (hs : (e :: es).all noStar = true) (ha : PA X (e :: es) (tA G W r)) :
    PE X (.Call (.Name (Str.ofString b.nm) p) (e :: es) [] pos) (tE G W (dBn r b.op)) := by
  have hm := o.t.bn _ hb
  cases b with
  | list => exact e_callTyN (cr_listN o.hK) (o.gl hg) hm (by decide +kernel) ha hs (by decide +kernel) (by decide +kernel)
  | dict => exact e_callTyN cr_dictN (o.gl hg) hm (by decide +kernel) ha hs (by decide +kernel) (by decide +kernel)
theorem s_bi0 (o : Ok T m k Γ cu X G W) (b : BM) {f : F D} {q : Expr} {p pos : Pos} (hq : PE X q (tE G W f)) (hb : okBase q = true) (hl : (p.endLine == pos.line) = true) :
    PE X (.Call (.Attribute q (Str.ofString b.nm) p) [] [] pos) (tE G W (dM f b.c dNil b.op)) := by
  cases b with
  | append => exact e_bm0 PySem.F.plainAttrs_list PySem.F.slot_list_append PySem.F.type_list_append mt_appendD (ty_lst o.hK) hq hb hl
  | count => exact e_bm0 PySem.F.plainAttrs_list PySem.F.slot_list_count PySem.F.type_list_count (mt_countD o.hK) (ty_lst o.hK) hq hb hl
  | index => exact e_bm0 PySem.F.plainAttrs_list PySem.F.slot_list_index PySem.F.type_list_index (mt_indexF o.hK) (ty_lst o.hK) hq hb hl
  | clear => exact e_bm0 PySem.F.plainAttrs_list PySem.F.slot_list_clear PySem.F.type_list_clear mt_clearD (ty_lst o.hK) hq hb hl
  | extend => exact e_bm0 PySem.F.plainAttrs_list PySem.F.slot_list_extend PySem.F.type_list_extend mt_extendD (ty_lst o.hK) hq hb hl
  | pop => exact e_bm0 PySem.F.plainAttrs_list PySem.F.slot_list_pop PySem.F.type_list_pop mt_popD (ty_lst o.hK) hq hb hl
  | cntb => exact e_bm0 PySem.F.plainAttrs_list PySem.F.slot_list_count PySem.F.type_list_count (mt_countF o.hK) (ty_lst o.hK) hq hb hl
theorem s_isc (o : Ok T m k Γ cu X G W) {t : List (Nat × Bool)} {a : Expr} {f : F D} {z : Str} {p p2 pos : Pos} (hg : glB Γ.sc ("isinstance" : Str) = true) (hb : ("isinstance" : Str) ∈ T.bn) (hgz : glB Γ.sc z = true) (hz : nmOk z = true) (hn : z ∈ T.xn) (ht : ∀ q ∈ t, (q.1, z, q.2) ∈ T.ic) (hs : noStar a = true) (hne : t.isEmpty = false)
    (ha : PE X a (tE G W f)) : PE X (.Call (.Name "isinstance" p) [a, .Name z p2] [] pos) (tE G W (dU f (iscD t))) := by
  have key : ∀ q ∈ t, _ := fun q hq => o.t.ic _ (ht q hq)
  cases t with
  | nil => cases hne
  | cons q0 t0 =>
    obtain ⟨_, v, cv, rv, _⟩ := key q0 List.mem_cons_self
    have hval : PE X (.Name z p2) (tC v) := by
      rcases o.t.xn z hn with e | ⟨e1, e2, e3⟩
      · exact pe_glob (o.gl hgz) e rv (nm1 hz)
      · exact pe_bltn (o.gl hgz) e1 e2 rv e3 (nm1 hz)
    refine e_isc o.hK (o.gl hg) (o.t.bn _ hb) ha hs hval rfl cv fun c r hl => ?_
    obtain ⟨i1, _, _, _, k1⟩ := key _ (tk_mem hl)
    rw [o.hK] at i1 k1
    exact ⟨i1, k1⟩
theorem s_bim (o : Ok T m k Γ cu X G W) (b : BM) {f : F D} {r : F (List D)} {q e : Expr} {es : List Expr} {p pos : Pos} (hq : PE X q (tE G W f)) (ha : PA X (e :: es) (tA G W r)) (hb : okBase q = true) (hl : (p.endLine == pos.line) = true) (hs : (e :: es).all noStar = true) (hn : es.length < 20) :
    PE X (.Call (.Attribute q (Str.ofString b.nm) p) (e :: es) [] pos) (tE G W (dM f b.c r b.op)) := by
  cases b with
  | append => exact e_bm PySem.F.plainAttrs_list PySem.F.slot_list_append PySem.F.type_list_append mt_appendD (ty_lst o.hK) hq ha hb hl hs hn
  | count => exact e_bm PySem.F.plainAttrs_list PySem.F.slot_list_count PySem.F.type_list_count (mt_countD o.hK) (ty_lst o.hK) hq ha hb hl hs hn
  | index => exact e_bm PySem.F.plainAttrs_list PySem.F.slot_list_index PySem.F.type_list_index (mt_indexF o.hK) (ty_lst o.hK) hq ha hb hl hs hn
  | clear => exact e_bm PySem.F.plainAttrs_list PySem.F.slot_list_clear PySem.F.type_list_clear mt_clearD (ty_lst o.hK) hq ha hb hl hs hn
  | extend => exact e_bm PySem.F.plainAttrs_list PySem.F.slot_list_extend PySem.F.type_list_extend mt_extendD (ty_lst o.hK) hq ha hb hl hs hn
  | pop => exact e_bm PySem.F.plainAttrs_list PySem.F.slot_list_pop PySem.F.type_list_pop mt_popD (ty_lst o.hK) hq ha hb hl hs hn
  | cntb => exact e_bm PySem.F.plainAttrs_list PySem.F.slot_list_count PySem.F.type_list_count (mt_countF o.hK) (ty_lst o.hK) hq ha hb hl hs hn
theorem s_isx (o : Ok T m k Γ cu X G W) {i : Nat} {t : List (Nat × Bool)} {x z : Str} {p p1 p2 pos : Pos} (hg : glB Γ.sc ("isinstance" : Str) = true) (hb : ("isinstance" : Str) ∈ T.bn) (hi : Γ.N[i]? = some x) (hv : visB Γ.sc x = true) (hx : nmOk x = true) (hgz : glB Γ.sc z = true) (hz : nmOk z = true) (hn : z ∈ T.xn)
    (ht : ∀ q ∈ t, (q.1, z, q.2) ∈ T.xi) : PE X (.Call (.Name "isinstance" p) [.Name x p1, .Name z p2] [] pos) (tE G W (dIsx cu i t)) := by
  cases cu with
  | none => exact e_never
  | some jc =>
    obtain ⟨j, c⟩ := jc
    by_cases hj : i = j
    rotate_left
    · exact PE.imp (e_never (G := G) (W := W)) fun σ H Q ⟨S, h, e, R, E, P⟩ => by
        unfold dIsx at P
        simp only at P
        rw [if_neg hj] at P
        exact P.elim
    subst hj
    cases hl : t.lookup c with
    | none =>
      exact PE.imp (e_never (G := G) (W := W)) fun σ H Q ⟨S, h, e, R, E, P⟩ => by
        unfold dIsx at P
        simp only [hl, if_true] at P
        exact P.elim
    | some b =>
      obtain ⟨xc, v, rv, uv, kv⟩ := o.t.xi _ (ht _ (tk_mem hl))
      obtain ⟨a, ec, hcall⟩ := o.c1 i c rfl
      have xc2 : L2.ExcC X.K (G.cad c) := by rw [← o.hK]; exact xc
      rw [o.hK] at kv
      have hval : PE X (.Name z p2) (tC v) := by
        rcases o.t.xn z hn with e | ⟨e1, e2, e3⟩
        · exact pe_glob (o.gl hgz) e rv (nm1 hz)
        · exact pe_bltn (o.gl hgz) e1 e2 rv e3 (nm1 hz)
      refine PE.imp (pe_callB (id := "isinstance") (hcall xc2) (o.gl hg) (o.t.bn _ hb) (by decide +kernel) (pa_cons (pe_var (i := i) (by rw [o.hN]; exact hi) (by rw [o.sc]; exact vis_of hv) (nm1 hx) (nm2 hx)) (pa_cons hval pa_nil (star_of rfl _ _)) (star_of rfl _ _)) (by decide) (by decide) (star_of rfl _ _) (stars_of rfl)) fun σ H Q ⟨S, h, e, R, E, P⟩ => ?_
      unfold dIsx at P
      simp only [hl, if_true] at P
      exact ⟨.ref a, (E.cur i c a ec).1, v, _, b, rfl, uv, kv, P.here R (.bl b)⟩
end
theorem srT_of {s : Sr} {tg : Expr} (h : srT s = false ∨ isTupE tg = true) : srT s = true → isTupE tg = true := fun z => by
  rcases h with h | h
  · rw [h] at z; cases z
  · exact h
/-! ### expressions -/
theorem dwI_ok {X : Cx} {w : Dw} {tg it o : Expr} (h : dwI w it = some o) (ht : (!decide (w = .its) || isTupE tg) = true) : IterOk X w tg o it := by
  unfold dwI at h
  cases w with
  | ks => cases h; exact it_ks
  | km =>
    simp only at h
    split at h
    · split at h
      · rename_i c
        cases h
        simp only [Bool.and_eq_true, decide_eq_true_eq] at c
        obtain ⟨⟨c1, c2⟩, c3⟩ := c
        subst c1
        exact it_km c2 c3
      · cases h
    · cases h
  | vs =>
    simp only at h
    split at h
    · split at h
      · rename_i c
        cases h
        simp only [Bool.and_eq_true, decide_eq_true_eq] at c
        obtain ⟨⟨c1, c2⟩, c3⟩ := c
        subst c1
        exact it_vs c2 c3
      · cases h
    · cases h
  | its =>
    have ht2 : isTupE tg = true := by simpa using ht
    simp only at h
    split at h
    · split at h
      · rename_i c
        cases h
        simp only [Bool.and_eq_true, decide_eq_true_eq] at c
        obtain ⟨⟨c1, c2⟩, c3⟩ := c
        subst c1
        cases tg with
        | Tuple _ _ _ => exact it_its c2 c3
        | _ => cases ht2
      · cases h
    · cases h
mutual
theorem sE {T : Tb} {m : Sm} {k : Nat} : ∀ (e : Ex) {Γ : Sc} {cu : Cu} {X : Cx} {G : Cf} {W : WX} {x : Expr}, Ok T m k Γ cu X G W → chE T Γ e x = true → PE X x (tE G W (evE m cu e))
  | .var i, Γ, cu, X, G, W, x, o, h => by
    unfold chE at h
    split at h
    rotate_left
    · cases h
    simp only [Bool.and_eq_true, decide_eq_true_eq] at h
    obtain ⟨⟨h1, h2⟩, h3⟩ := h
    exact PE.imp (pe_var (i := i) (by rw [o.hN]; exact h1) (by rw [o.sc]; exact vis_of h2) (nm1 h3) (nm2 h3)) fun _ _ _ z => tE_var z
  | .cst c, Γ, cu, X, G, W, x, o, h => by
    unfold chE at h
    split at h
    rotate_left
    · cases h
    rename_i kk _ _
    cases c with
    | non => cases kk <;> first | exact PE.imp pe_non fun _ _ _ z => tE_c (fun _ _ => .non) z | cases h
    | bl b =>
      cases kk <;> first | cases h | skip
      have := eq_of_beq (show (_ == _) = true from h)
      subst this
      exact PE.imp pe_bl fun _ _ _ z => tE_c (fun _ _ => .bl b) z
    | int i =>
      cases kk <;> first | cases h | skip
      have := of_decide_eq_true (show decide _ = true from h)
      subst this
      exact PE.imp pe_int fun _ _ _ z => tE_c (fun _ _ => .int i) z
    | str i =>
      cases kk <;> first | cases h | skip
      have := of_decide_eq_true (show decide _ = true from h)
      subst this
      exact PE.imp pe_str fun _ _ _ z => tE_c (fun _ _ => .str i) z
  | .glb c, Γ, cu, X, G, W, x, o, h => by
    unfold chE at h
    split at h
    rotate_left
    · cases h
    simp only [Bool.and_eq_true, decide_eq_true_eq] at h
    obtain ⟨⟨h1, h2⟩, h3⟩ := h
    obtain ⟨u, e1, r⟩ := o.t.gl _ h2
    exact PE.imp (pe_glob (o.gl h1) e1 r (nm1 h3)) fun _ _ _ z => tE_c (fun _ _ => c.vd) z
  | .bin q a b, Γ, cu, X, G, W, x, o, h => by
    unfold chE at h
    split at h
    rotate_left
    · cases h
    simp only [Bool.and_eq_true, decide_eq_true_eq] at h
    obtain ⟨⟨⟨h1, h2⟩, h3⟩, h4⟩ := h
    subst h1
    obtain ⟨op, e⟩ := Option.isSome_iff_exists.mp h2
    have e2 : ∀ {w}, binD w = some op → binF w = op := fun e => by unfold binF; rw [e]; rfl
    unfold evE
    rw [e2 e]
    exact e_op (or_bin o.hK e) (sE a o h3) (sE b o h4)
  | .neg a, Γ, cu, X, G, W, x, o, h => by
    unfold chE at h
    split at h
    rotate_left
    · cases h
    exact e_un ur_neg (sE a o h)
  | .cmp q a b, Γ, cu, X, G, W, x, o, h => by
    unfold chE at h
    split at h
    rotate_left
    · cases h
    simp only [Bool.and_eq_true, decide_eq_true_eq] at h
    obtain ⟨⟨⟨h1, h2⟩, h3⟩, h4⟩ := h
    subst h1
    exact e_cmp (or_cmp o.hK o.un _) (sE a o h3) (sE b o h4) (marks_of h2 _)
  | .chn q q' a b c, Γ, cu, X, G, W, x, o, h => by
    unfold chE at h
    split at h
    rotate_left
    · cases h
    simp only [Bool.and_eq_true, decide_eq_true_eq] at h
    obtain ⟨⟨⟨⟨⟨h1, h2⟩, h3⟩, h4⟩, h5⟩, h6⟩ := h
    subst h1
    subst h2
    exact e_ch (or_cmp o.hK o.un _) (or_cmp o.hK o.un _) (sE a o h4) (sE b o h5) (sE c o h6) h3
  | .and a b, Γ, cu, X, G, W, x, o, h => by
    unfold chE at h
    split at h
    rotate_left
    · cases h
    simp only [Bool.and_eq_true] at h
    obtain ⟨h1, h2⟩ := h
    split at h2
    · exact e_and (sE a o h1) (pe_one (sE b o h2))
    · exact e_and (sE a o h1) (sE b o h2)
  | .or a b, Γ, cu, X, G, W, x, o, h => by
    unfold chE at h
    split at h
    rotate_left
    · cases h
    simp only [Bool.and_eq_true] at h
    obtain ⟨h1, h2⟩ := h
    split at h2
    · exact e_or (sE a o h1) (pe_one (sE b o h2))
    · exact e_or (sE a o h1) (sE b o h2)
  | .not a, Γ, cu, X, G, W, x, o, h => by
    unfold chE at h
    split at h
    rotate_left
    · cases h
    exact e_not (sE a o h)
  | .ite t a b, Γ, cu, X, G, W, x, o, h => by
    unfold chE at h
    split at h
    rotate_left
    · cases h
    simp only [Bool.and_eq_true] at h
    obtain ⟨⟨h1, h2⟩, h3⟩ := h
    exact e_if (sT t o h1) (sE a o h2) (sE b o h3)
  | .tup l, Γ, cu, X, G, W, x, o, h => by
    unfold chE at h
    split at h
    rotate_left
    · cases h
    exact e_tup (sL l o h)
  | .lst l, Γ, cu, X, G, W, x, o, h => by
    unfold chE at h
    split at h
    rotate_left
    · cases h
    exact e_lst (sL l o h)
  | .new l, Γ, cu, X, G, W, x, o, h => by
    unfold chE at h
    split at h
    rotate_left
    · cases h
    exact e_new (sL l o h)
  | .idx a b, Γ, cu, X, G, W, x, o, h => by
    unfold chE at h
    split at h
    rotate_left
    · cases h
    simp only [Bool.and_eq_true] at h
    obtain ⟨⟨h1, h2⟩, h3⟩ := h
    exact e_idx o.hK (by have := o.un; omega) (sE a o h2) (sE b o h3) h1
  | .slc a lo hi, Γ, cu, X, G, W, x, o, h => by
    unfold chE at h
    split at h
    rotate_left
    · cases h
    simp only [Bool.and_eq_true] at h
    obtain ⟨⟨h1, h2⟩, h3⟩ := h
    exact e_slice o.hK (sE a o h1) (sO lo o h2) (sO hi o h3)
  | .fld a f, Γ, cu, X, G, W, x, o, h => by
    unfold chE at h
    split at h
    rotate_left
    · cases h
    simp only [Bool.and_eq_true, decide_eq_true_eq] at h
    obtain ⟨⟨h1, h2⟩, h3⟩ := h
    subst h1
    exact e_fld o.hK (by rw [o.t.ft]; exact o.t.fok) (sE a o h3) h2
  | .cal pu i dd l, Γ, cu, X, G, W, x, o, h => by
    unfold chE at h
    split at h
    rotate_left
    · cases h
    rename_i y p1 es p2
    simp only [Bool.and_eq_true] at h
    obtain ⟨⟨⟨⟨⟨h1, h2⟩, h3⟩, h4⟩, h5⟩, h6⟩ := h
    unfold Tb.okF at h4
    split at h4
    rotate_left
    · cases h4
    rename_i t et
    simp only [Bool.and_eq_true, decide_eq_true_eq] at h4
    obtain ⟨h7, h8⟩ := h4
    subst h7
    obtain ⟨fa, e1, e2⟩ := o.t.fn i t et (fun z => by rw [z] at h8; cases h8)
    have C0 := e2 _ _ h8
    have hr := (o.cm h1).2.1.mono (Nat.le_succ _)
    have tk := (o.cm h1).2.2.1
    have C : Cal G.toCg X.prog X.w X.mg X.base (2 * k) fa es.length (dd.map Cst.d) (m.f pu i) := by
      unfold Sm.f
      cases pu with
      | true => exact C0.pure
      | false => exact C0
    cases es with
    | nil =>
      cases l with
      | nil => exact e_call0 o.hK C hr (o.gl h2) e1 tk (nm1 h3)
      | cons _ _ => unfold chL at h6; cases h6
    | cons e es => exact e_call o.hK C hr (o.gl h2) e1 tk (sL l o h6) (nm1 h3) h5
  | .met pu a x t l, Γ, cu, X, G, W, x', o, h => by
    unfold chE at h
    split at h
    rotate_left
    · cases h
    rename_i ob y p1 es p2
    simp only [Bool.and_eq_true, decide_eq_true_eq, List.all_eq_true] at h
    obtain ⟨⟨⟨⟨⟨⟨⟨⟨h1, h2⟩, h3⟩, h4⟩, h5⟩, h6⟩, h7⟩, h8⟩, h9⟩ := h
    subst h2
    have hr := (o.cm h1).2.1.mono (Nat.le_succ _)
    have tk := (o.cm h1).2.2.1
    have hM : ∀ n, n = es.length + 1 → MOk X G.toCg (2 * k) _ n (m.me pu t) := fun n en c f dd q => by
      unfold Sm.me at q
      split at q
      · rename_i z ez
        cases q
        obtain ⟨fa, k1, k2, k3⟩ := o.t.me _ _ _ _ _ (h7 _ (tk_mem ez))
        refine ⟨fa, k1, k2, ?_⟩
        subst en
        unfold Sm.f
        cases pu with
        | true => exact k3.pure
        | false => exact k3
      · cases q
    cases es with
    | nil =>
      cases l with
      | nil => exact e_me0 o.hK (hM _ rfl) hr tk (sE a o h8) h3 h4
      | cons _ _ => unfold chL at h9; cases h9
    | cons e es => exact e_me o.hK (hM _ rfl) hr tk (sE a o h8) (sL l o h9) h3 h4 (by rw [List.all_eq_true]; exact h5) (by simp only [List.length_cons] at h6; omega)
  | .mak pu c i dd l, Γ, cu, X, G, W, x, o, h => by
    unfold chE at h
    split at h
    rotate_left
    · cases h
    rename_i y p1 es p2
    simp only [Bool.and_eq_true, decide_eq_true_eq] at h
    obtain ⟨⟨⟨⟨⟨h1, h2⟩, h3⟩, h4⟩, h5⟩, h6⟩ := h
    obtain ⟨fi, e1, e2, e3⟩ := o.t.mks _ _ _ _ _ h4
    have hr := (o.cm h1).2.1
    have tk := (o.cm h1).2.2.1
    have M := e2
    rw [o.hK] at M
    show PE X _ (tE G W (dCl (evL m cu l) (if pu = true then mkP c (m.M i) (dd.map Cst.d) else mkC c (m.M i) (dd.map Cst.d)) []))
    cases pu with
    | true =>
      rw [if_pos rfl]
      cases es with
      | nil =>
        cases l with
        | nil => exact e_mk0 o.hK (kp := M.kp) (fun I R rv v P => run_mkp o.hK M e3 hr tk I R rv v P) (o.gl h2) e1 (nm1 h3)
        | cons _ _ => unfold chL at h6; cases h6
      | cons e es => exact e_mk o.hK (kp := M.kp) (fun I R rv v P => run_mkp o.hK M e3 hr tk I R rv v P) (o.gl h2) e1 (sL l o h6) (nm1 h3) h5
    | false =>
      rw [if_neg (by simp)]
      cases es with
      | nil =>
        cases l with
        | nil => exact e_mk0 o.hK (kp := M.kp) (fun I R rv v P => run_mk o.hK M e3 hr tk I R rv v P) (o.gl h2) e1 (nm1 h3)
        | cons _ _ => unfold chL at h6; cases h6
      | cons e es => exact e_mk o.hK (kp := M.kp) (fun I R rv v P => run_mk o.hK M e3 hr tk I R rv v P) (o.gl h2) e1 (sL l o h6) (nm1 h3) h5
  | .bif b l, Γ, cu, X, G, W, x, o, h => by
    unfold chE at h
    split at h
    rotate_left
    · cases h
    simp only [Bool.and_eq_true, decide_eq_true_eq] at h
    obtain ⟨⟨⟨⟨⟨h1, h2⟩, h3⟩, h4⟩, h5⟩, h6⟩ := h
    subst h3
    exact s_bif o b h1 h2 h4 h5 (sL l o h6)
  | .bim b a l, Γ, cu, X, G, W, x, o, h => by
    unfold chE at h
    split at h
    rotate_left
    · cases h
    simp only [Bool.and_eq_true, decide_eq_true_eq] at h
    obtain ⟨⟨⟨⟨⟨⟨h1, h2⟩, h3⟩, h4⟩, h5⟩, h6⟩, h7⟩ := h
    subst h1
    exact s_bim o b (sE a o h6) (sL l o h7) h2 h3 h4 h5
  | .isi t a, Γ, cu, X, G, W, x, o, h => by
    unfold chE at h
    split at h
    rotate_left
    · cases h
    simp only [Bool.and_eq_true, decide_eq_true_eq] at h
    obtain ⟨⟨⟨⟨⟨⟨⟨⟨h1, h2⟩, h3⟩, h4⟩, h5⟩, h6⟩, h7⟩, h9⟩, h8⟩ := h
    subst h3
    subst h5
    exact e_isi t o.hK (o.gl h1) (o.t.bn _ h4) (o.gl h2) (o.t.bn _ h6) (by cases t <;> first | exact absurd rfl h9 | decide +kernel) (by cases t <;> decide +kernel) (by cases t <;> decide +kernel) (sE a o h8) h7
  | .dcr a, Γ, cu, X, G, W, x, o, h => by
    unfold chE at h
    split at h
    rotate_left
    · cases h
    simp only [Bool.and_eq_true, decide_eq_true_eq] at h
    obtain ⟨⟨⟨h1, h2⟩, h3⟩, h4⟩ := h
    subst h1
    exact e_dclear (sE a o h4) h2 h3
  | .dis l, Γ, cu, X, G, W, x, o, h => by
    unfold chE at h
    split at h
    rotate_left
    · cases h
    simp only [Bool.and_eq_true, decide_eq_true_eq] at h
    obtain ⟨⟨h1, h2⟩, h3⟩ := h
    obtain ⟨q1, q2, q3, q4⟩ := sP l o h3
    exact e_dis (q1 _) q2 q3 h1 h2 q4
  | .dcl t, Γ, cu, X, G, W, x, o, h => by
    unfold chE at h
    split at h
    rotate_left
    · cases h
    simp only [Bool.and_eq_true, decide_eq_true_eq] at h
    obtain ⟨⟨⟨h1, h2⟩, h3⟩, h4⟩ := h
    exact e_dcl h1 h2 h3 h4
  | .lr2 a b, Γ, cu, X, G, W, x, o, h => by
    unfold chE at h
    split at h
    rotate_left
    · cases h
    simp only [Bool.and_eq_true, decide_eq_true_eq] at h
    obtain ⟨⟨⟨⟨⟨⟨⟨⟨⟨⟨h1, h2⟩, h3⟩, h4⟩, h5⟩, h6⟩, h7⟩, h8⟩, h10⟩, h9⟩, h11⟩ := h
    subst h4
    subst h6
    exact e_lr2 o.hK (o.cm h1).1 (o.gl h2) (o.t.bn _ h5) (o.gl h3) (o.t.bn _ h7) (sE a o h9) (sE b o h11) h8 h10
  | .lrg a, Γ, cu, X, G, W, x, o, h => by
    unfold chE at h
    split at h
    rotate_left
    · cases h
    simp only [Bool.and_eq_true, decide_eq_true_eq] at h
    obtain ⟨⟨⟨⟨⟨⟨⟨⟨h1, h2⟩, h3⟩, h4⟩, h5⟩, h6⟩, h7⟩, h8⟩, h9⟩ := h
    subst h4
    subst h6
    exact e_lrg o.hK (o.cm h1).1 (o.gl h2) (o.t.bn _ h5) (o.gl h3) (o.t.bn _ h7) (sE a o h9) h8
  | .sst a, Γ, cu, X, G, W, x, o, h => by
    unfold chE at h
    split at h
    rotate_left
    · cases h
    simp only [Bool.and_eq_true, decide_eq_true_eq] at h
    obtain ⟨⟨⟨⟨⟨⟨⟨⟨h1, h2⟩, h3⟩, h4⟩, h5⟩, h6⟩, h7⟩, h8⟩, h9⟩ := h
    subst h4
    subst h6
    exact e_sst o.hK (o.cm h1).1 (o.gl h2) (o.t.bn _ h5) (o.gl h3) (o.t.bn _ h7) (sE a o h9) h8
  | .sky a, Γ, cu, X, G, W, x, o, h => by
    unfold chE at h
    split at h
    rotate_left
    · cases h
    simp only [Bool.and_eq_true, decide_eq_true_eq] at h
    obtain ⟨⟨⟨⟨⟨⟨⟨h1, h2⟩, h3⟩, h4⟩, h5⟩, h6⟩, h7⟩, h8⟩ := h
    subst h3
    subst h5
    exact e_sky (o.cm h1).1 (o.gl h2) (o.t.bn _ h4) (sE a o h8) (base_of h6 _ _ _) h7
  | .lky a, Γ, cu, X, G, W, x, o, h => by
    unfold chE at h
    split at h
    rotate_left
    · cases h
    simp only [Bool.and_eq_true, decide_eq_true_eq] at h
    obtain ⟨⟨⟨⟨⟨⟨⟨h1, h2⟩, h3⟩, h4⟩, h5⟩, h6⟩, h7⟩, h8⟩ := h
    subst h3
    subst h5
    exact e_lky (o.cm h1).1 (o.gl h2) (o.t.bn _ h4) (sE a o h8) (base_of h6 _ _ _) h7
  | .dg1 a k, Γ, cu, X, G, W, x, o, h => by
    unfold chE at h
    split at h
    rotate_left
    · cases h
    simp only [Bool.and_eq_true, decide_eq_true_eq] at h
    obtain ⟨⟨⟨⟨⟨h1, h2⟩, h3⟩, h4⟩, h5⟩, h6⟩ := h
    subst h1
    exact e_dget1 (by have := o.un; omega) (sE a o h5) (sE k o h6) h2 h3 h4
  | .lset a, Γ, cu, X, G, W, x, o, h => by
    unfold chE at h
    split at h
    rotate_left
    · cases h
    simp only [Bool.and_eq_true, decide_eq_true_eq] at h
    obtain ⟨⟨⟨⟨⟨⟨⟨⟨h1, h2⟩, h3⟩, h4⟩, h5⟩, h6⟩, h7⟩, h8⟩, h9⟩ := h
    subst h4
    subst h6
    exact e_lset o.hK (o.cm h1).1 (o.gl h2) (o.t.bn _ h5) (o.gl h3) (o.t.bn _ h7) (sE a o h9) h8
  | .dfr, Γ, cu, X, G, W, x, o, h => by
    unfold chE at h
    split at h
    · exact e_dfr
    · cases h
  | .dnw, Γ, cu, X, G, W, x, o, h => by
    unfold chE at h
    split at h
    · exact e_dnw
    · cases h
  | .isx i t, Γ, cu, X, G, W, x, o, h => by
    unfold chE at h
    split at h
    rotate_left
    · cases h
    simp only [Bool.and_eq_true, decide_eq_true_eq, List.all_eq_true] at h
    obtain ⟨⟨⟨⟨⟨⟨⟨⟨⟨h1, h2⟩, h3⟩, h4⟩, h5⟩, h6⟩, h7⟩, h8⟩, h9⟩, h10⟩ := h
    subst h3
    exact s_isx o h1 h4 h5 h6 h7 h2 h8 h9 h10
  | .isc t a, Γ, cu, X, G, W, x, o, h => by
    unfold chE at h
    split at h
    rotate_left
    · cases h
    simp only [Bool.and_eq_true, decide_eq_true_eq, List.all_eq_true, Bool.not_eq_true'] at h
    obtain ⟨⟨⟨⟨⟨⟨⟨⟨⟨h1, h2⟩, h3⟩, h4⟩, h5⟩, h6⟩, h7⟩, h8⟩, h9⟩, h10⟩ := h
    subst h3
    exact s_isc o h1 h4 h2 h5 h6 h7 h8 h9 (sE a o h10)
  | .bi0 b a, Γ, cu, X, G, W, x, o, h => by
    unfold chE at h
    split at h
    rotate_left
    · cases h
    simp only [Bool.and_eq_true, decide_eq_true_eq] at h
    obtain ⟨⟨⟨h1, h2⟩, h3⟩, h4⟩ := h
    subst h1
    exact s_bi0 o b (sE a o h4) h2 h3
  | .bnw b l, Γ, cu, X, G, W, x, o, h => by
    unfold chE at h
    split at h
    rotate_left
    · cases h
    simp only [Bool.and_eq_true, decide_eq_true_eq] at h
    obtain ⟨⟨⟨⟨⟨h1, h2⟩, h3⟩, h4⟩, h5⟩, h6⟩ := h
    subst h3
    exact s_bnw o b h1 h2 h4 h5 (sL l o h6)
  | .kge t a d, Γ, cu, X, G, W, x, o, h => by
    unfold chE at h
    split at h
    rotate_left
    · cases h
    simp only [Bool.and_eq_true, decide_eq_true_eq] at h
    obtain ⟨⟨⟨⟨⟨⟨⟨⟨h1, h2⟩, h3⟩, h4⟩, h5⟩, h6⟩, h7⟩, h8⟩, h9⟩ := h
    subst h1
    obtain ⟨b, k1, k2⟩ := o.t.tab _ h4
    exact e_kget (o.gl h2) k1 (nm1 h3) k2 (fun S H => Cst.vdf t) (sE a o h8) (sE d o h9) h5 h6 h7
  | .ban a b, Γ, cu, X, G, W, x, o, h => by
    unfold chE at h
    split at h
    rotate_left
    · cases h
    simp only [Bool.and_eq_true] at h
    exact e_ban (sE a o h.1) (sE b o h.2)
  | .dge a k d, Γ, cu, X, G, W, x, o, h => by
    unfold chE at h
    split at h
    rotate_left
    · cases h
    simp only [Bool.and_eq_true, decide_eq_true_eq] at h
    obtain ⟨⟨⟨⟨⟨⟨⟨h1, h2⟩, h3⟩, h4⟩, h5⟩, h6⟩, h7⟩, h8⟩ := h
    subst h1
    exact e_dget (by have := o.un; omega) (sE a o h6) (sE k o h7) (sE d o h8) h2 h3 h4 h5
  | .dse a k d, Γ, cu, X, G, W, x, o, h => by
    unfold chE at h
    split at h
    rotate_left
    · cases h
    simp only [Bool.and_eq_true, decide_eq_true_eq] at h
    obtain ⟨⟨⟨⟨⟨⟨⟨h1, h2⟩, h3⟩, h4⟩, h5⟩, h6⟩, h7⟩, h8⟩ := h
    subst h1
    exact e_dsetd (sE a o h6) (sE k o h7) (sE d o h8) h2 h3 h4 h5
  | .dpo a k, Γ, cu, X, G, W, x, o, h => by
    unfold chE at h
    split at h
    rotate_left
    · cases h
    simp only [Bool.and_eq_true, decide_eq_true_eq] at h
    obtain ⟨⟨⟨⟨⟨h1, h2⟩, h3⟩, h4⟩, h6⟩, h7⟩ := h
    subst h1
    exact e_dpop (sE a o h6) (sE k o h7) h2 h3 h4
  | .cmn e g s t own, Γ, cu, X, G, W, x, o, h => by
    unfold chE at h
    split at h
    rotate_left
    · cases h
    simp only [Bool.and_eq_true, Bool.or_eq_true, Bool.not_eq_true', decide_eq_true_eq, List.all_eq_true] at h
    obtain ⟨⟨⟨⟨⟨⟨⟨⟨h1, h0⟩, h2⟩, h3⟩, h4⟩, h5⟩, h6⟩, h7⟩, h8⟩ := h
    have B := blk_ok h4
    have cn := (o.cm h1).2.2.2.2
    have nc : ∀ i c, cu = some (i, c) → i ∉ slotsT g := fun i c z => by rw [cn] at z; cases z
    exact e_lcN (o.cm h1).1 o.nd (o.c0 cn) (sS s o (srT_of h0) h2) (by rw [o.hN, o.sc]; exact B) h5 (fun s H C cl fp => sG g (o.blk h1 B.kind s H C cl fp) nc h6) (fun s H C cl fp => sQ t (o.blk h1 B.kind s H C cl fp) h7) (fun s H C cl fp => sE e (o.blk h1 B.kind s H C cl fp) h8) h3
  | .cod e w g a t own, Γ, cu, X, G, W, x, o, h => by
    unfold chE at h
    split at h
    rotate_left
    · cases h
    simp only [Bool.and_eq_true, List.all_eq_true, decide_eq_true_eq] at h
    obtain ⟨⟨⟨⟨⟨⟨⟨⟨h1, h0⟩, h2⟩, h3⟩, h4⟩, h5⟩, h6⟩, h7⟩, h8⟩ := h
    have B := blk_ok h4
    have cn := (o.cm h1).2.2.2.2
    have nc : ∀ i c, cu = some (i, c) → i ∉ slotsT g := fun i c z => by rw [cn] at z; cases z
    split at h2
    rotate_left
    · cases h2
    rename_i oe ed
    exact e_lcD (o.cm h1).1 o.nd (o.c0 cn) (sE a o h2) (dwI_ok ed h0) (by rw [o.hN, o.sc]; exact B) h5 (fun s H C cl fp => sG g (o.blk h1 B.kind s H C cl fp) nc h6) (fun s H C cl fp => sQ t (o.blk h1 B.kind s H C cl fp) h7) (fun s H C cl fp => sE e (o.blk h1 B.kind s H C cl fp) h8) h3
  | .com e g s t own, Γ, cu, X, G, W, x, o, h => by
    unfold chE at h
    split at h
    rotate_left
    · cases h
    simp only [Bool.and_eq_true, Bool.or_eq_true, Bool.not_eq_true', decide_eq_true_eq, List.all_eq_true] at h
    obtain ⟨⟨⟨⟨⟨⟨⟨⟨h1, h0⟩, h2⟩, h3⟩, h4⟩, h5⟩, h6⟩, h7⟩, h8⟩ := h
    have B := blk_ok h4
    have cn := (o.cm h1).2.2.2.2
    have nc : ∀ i c, cu = some (i, c) → i ∉ slotsT g := fun i c z => by rw [cn] at z; cases z
    exact e_lc (o.cm h1).1 o.nd (o.c0 cn) (sS s o (srT_of h0) h2) (by rw [o.hN, o.sc]; exact B) h5 (fun s H C cl fp => sG g (o.blk h1 B.kind s H C cl fp) nc h6) (fun s H C cl fp => sQ t (o.blk h1 B.kind s H C cl fp) h7) (fun s H C cl fp => sE e (o.blk h1 B.kind s H C cl fp) h8) h3
theorem sT {T : Tb} {m : Sm} {k : Nat} : ∀ (e : Tx) {Γ : Sc} {cu : Cu} {X : Cx} {G : Cf} {W : WX} {x : Expr}, Ok T m k Γ cu X G W → chT T Γ e x = true → PT X x (tT G W (evT m cu e))
  | .val a, Γ, cu, X, G, W, x, o, h => by
    unfold chT at h
    obtain ⟨h1, h2⟩ := Bool.and_eq_true_iff.mp h
    exact t_val (sE a o h2) (plain_true h1 _)
  | .cmp q a b, Γ, cu, X, G, W, x, o, h => by
    unfold chT at h
    split at h
    rotate_left
    · cases h
    simp only [Bool.and_eq_true, decide_eq_true_eq] at h
    obtain ⟨⟨⟨h1, h2⟩, h3⟩, h4⟩ := h
    subst h1
    exact t_cmp (or_cmp o.hK o.un _) (sE a o h3) (sE b o h4) (marks_of h2 _)
  | .chn q q' a b c, Γ, cu, X, G, W, x, o, h => by
    unfold chT at h
    split at h
    rotate_left
    · cases h
    simp only [Bool.and_eq_true, decide_eq_true_eq] at h
    obtain ⟨⟨⟨⟨⟨h1, h2⟩, h3⟩, h4⟩, h5⟩, h6⟩ := h
    subst h1
    subst h2
    exact t_ch (or_cmp o.hK o.un _) (or_cmp o.hK o.un _) (sE a o h4) (sE b o h5) (sE c o h6) h3
  | .and a b, Γ, cu, X, G, W, x, o, h => by
    unfold chT at h
    split at h
    rotate_left
    · cases h
    simp only [Bool.and_eq_true] at h
    obtain ⟨h1, h2⟩ := h
    split at h2
    · exact (t_and (sT a o h1) (pw_and1 (sT b o h2))).pt
    · exact (t_and (sT a o h1) (pw_of (sT b o h2))).pt
  | .or a b, Γ, cu, X, G, W, x, o, h => by
    unfold chT at h
    split at h
    rotate_left
    · cases h
    simp only [Bool.and_eq_true] at h
    obtain ⟨h1, h2⟩ := h
    split at h2
    · exact (t_or (sT a o h1) (pw_or1 (sT b o h2))).pt
    · exact (t_or (sT a o h1) (pw_of (sT b o h2))).pt
  | .not a, Γ, cu, X, G, W, x, o, h => by
    unfold chT at h
    split at h
    rotate_left
    · cases h
    exact t_not (sT a o h)
theorem sL {T : Tb} {m : Sm} {k : Nat} : ∀ (e : Exs) {Γ : Sc} {cu : Cu} {X : Cx} {G : Cf} {W : WX} {x : List Expr}, Ok T m k Γ cu X G W → chL T Γ e x = true → PA X x (tA G W (evL m cu e))
  | .nil, Γ, cu, X, G, W, x, o, h => by
    unfold chL at h
    split at h
    · exact a_nil
    · cases h
  | .cons a l, Γ, cu, X, G, W, x, o, h => by
    unfold chL at h
    split at h
    rotate_left
    · cases h
    simp only [Bool.and_eq_true] at h
    obtain ⟨⟨h1, h2⟩, h3⟩ := h
    exact a_cons (sE a o h2) (sL l o h3) h1
theorem sP {T : Tb} {m : Sm} {k : Nat} : ∀ (e : Prs) {Γ : Sc} {cu : Cu} {X : Cx} {G : Cf} {W : WX} {ks : List (Option Expr)} {vs : List Expr}, Ok T m k Γ cu X G W → chP T Γ e ks vs = true →
    (∀ pos, PPs X pos ks vs ((evP m cu e).map fun p => (tE G W p.1, tE G W p.2))) ∧ ks.all (·.isSome) = true ∧ ks.length = vs.length ∧ (evP m cu e).length = ks.length
  | .nil, Γ, cu, X, G, W, ks, vs, o, h => by
    unfold chP at h
    split at h
    · exact ⟨fun _ => pps_nil, rfl, rfl, rfl⟩
    · cases h
  | .cons k v l, Γ, cu, X, G, W, ks, vs, o, h => by
    unfold chP at h
    split at h
    rotate_left
    · cases h
    simp only [Bool.and_eq_true] at h
    obtain ⟨⟨h1, h2⟩, h3⟩ := h
    obtain ⟨q1, q2, q3, q4⟩ := sP l o h3
    exact ⟨fun pos => pps_cons (sE k o h1) (sE v o h2) (q1 pos), by simpa using q2, by simp [q3], by show ((evE m cu k, evE m cu v) :: evP m cu l).length = _; simp [q4]⟩
theorem sO {T : Tb} {m : Sm} {k : Nat} : ∀ (e : Oe) {Γ : Sc} {cu : Cu} {X : Cx} {G : Cf} {W : WX} {x : Option Expr}, Ok T m k Γ cu X G W → chO T Γ e x = true → PO X x (tO G W (evO m cu e))
  | .no, Γ, cu, X, G, W, x, o, h => by
    unfold chO at h
    split at h
    · exact o_none
    · cases h
  | .so a, Γ, cu, X, G, W, x, o, h => by
    unfold chO at h
    split at h
    · exact o_some (sE a o h)
    · cases h
theorem sQ {T : Tb} {m : Sm} {k : Nat} : ∀ (e : Ot) {Γ : Sc} {cu : Cu} {X : Cx} {G : Cf} {W : WX} {x : List Expr}, Ok T m k Γ cu X G W → chQ T Γ e x = true → PTs X x (tT G W (evQ m cu e))
  | .no, Γ, cu, X, G, W, x, o, h => by
    unfold chQ at h
    split at h
    · exact ts_nil
    · cases h
  | .so a, Γ, cu, X, G, W, x, o, h => by
    unfold chQ at h
    split at h
    · exact pts_one (sT a o h)
    · cases h
theorem sS {T : Tb} {m : Sm} {k : Nat} : ∀ (e : Sr) {Γ : Sc} {cu : Cu} {X : Cx} {G : Cf} {W : WX} {tg x : Expr}, Ok T m k Γ cu X G W → (srT e = true → isTupE tg = true) → chS T Γ e x = true → PI X tg x (tI G W (evS m cu e))
  | .seq a, Γ, cu, X, G, W, tg, x, o, _, h => by
    unfold chS at h
    exact i_seq o.hK (sE a o h)
  | .rg1 a, Γ, cu, X, G, W, tg, x, o, _, h => by
    unfold chS at h
    split at h
    rotate_left
    · cases h
    simp only [Bool.and_eq_true, decide_eq_true_eq] at h
    obtain ⟨⟨⟨⟨h1, h2⟩, h3⟩, h4⟩, h5⟩ := h
    subst h2
    exact i_rng1 (o.gl h1) (o.t.bn _ h3) (sE a o h5) h4
  | .rg2 a b, Γ, cu, X, G, W, tg, x, o, _, h => by
    unfold chS at h
    split at h
    rotate_left
    · cases h
    simp only [Bool.and_eq_true, decide_eq_true_eq] at h
    obtain ⟨⟨⟨⟨⟨⟨h1, h2⟩, h3⟩, h4⟩, h5⟩, h6⟩, h7⟩ := h
    subst h2
    exact i_rng2 (o.gl h1) (o.t.bn _ h3) (sE a o h6) (sE b o h7) h4 h5
  | .enu a, Γ, cu, X, G, W, tg, x, o, ht, h => by
    unfold chS at h
    split at h
    rotate_left
    · cases h
    simp only [Bool.and_eq_true, decide_eq_true_eq] at h
    obtain ⟨⟨⟨⟨h1, h2⟩, h3⟩, h4⟩, h5⟩ := h
    subst h2
    have q := ht rfl
    cases tg with
    | Tuple _ _ _ => exact i_enu o.hK (o.gl h1) (o.t.bn _ h3) (sE a o h5) h4
    | _ => cases q
  | .zip a b, Γ, cu, X, G, W, tg, x, o, ht, h => by
    unfold chS at h
    split at h
    rotate_left
    · cases h
    simp only [Bool.and_eq_true, decide_eq_true_eq] at h
    obtain ⟨⟨⟨⟨⟨⟨h1, h2⟩, h3⟩, h4⟩, h5⟩, h6⟩, h7⟩ := h
    subst h2
    have q := ht rfl
    cases tg with
    | Tuple _ _ _ => exact i_zip o.hK (o.gl h1) (o.t.bn _ h3) (sE a o h6) (sE b o h7) h4 h5
    | _ => cases q
end
end Sb

/-! Sb13: statements, bodies, defs. -/
namespace Sb
open L2 PySem PySem.Spec PyProof.Rows
theorem s_asgC {X : Cx} {G : Cf} {W : WX} {tg e : Expr} {g : Tg} {f : F D} {pos : Pos} (he : PE X e (tE G W f)) (hg : PG X tg (gT G g)) (hc : swapsWith e (some tg) pos.line X.env = pure false) (ht : (noTup tg || noTup e) = true) (hs : noStar tg = true) : PS X (.Assign [tg] e pos) (tS G W (sAsg f g)) :=
  PS.imp (ps_asg he hg (by unfold swapsWithSole; exact hc) (stores_of ht _) (by rw [each_of hs]; rfl)) fun Z σ H ⟨S, h, e, R, E, P⟩ =>
    ⟨S, h, e, R, E, P.st R E fun d h1 S1 H1 v _ N1 R1 v1 P1 => by
      cases q : bindT g d e with
      | none => rw [q] at P1; exact P1.elim
      | some e' =>
        rw [q] at P1
        exact ⟨S1, h1, e, d, e', R1, E.mono N1 R.bad, v1, q, fun σ' E' _ => P1.next R1 E'⟩⟩
theorem sw_cell {elt : Expr} {gs : List Comprehension} {scope : Scope} {pos py : Pos} {y : Str} {l : Nat} {env : Env} (hy : env.scope.names.lookup y = some .cell) : swapsWith (.ListComp elt gs scope pos) (some (.Name y py)) l env = pure false := by
  have ky : env.kindOf y = some .cell := hy
  unfold swapsWith
  simp only [ky]
  cases (env.blockKind == ScopeKind.function) <;> rfl
def noCuG (cu : Cu) (g : Tg) : Prop := ∀ i c, cu = some (i, c) → i ∉ slotsT g
/-! within a suite no target is the exception's slot -/
mutual
def tgSt : St → List Nat
  | .asg g _ => slotsT g
  | .ite _ a b => tgB a ++ tgB b
  | .whl _ _ b => tgB b
  | .for _ g b => slotsT g ++ tgB b
  | .fod _ _ g b => slotsT g ++ tgB b
  | .try b l => tgB b ++ tgC l
  | _ => []
def tgB : Bk → List Nat
  | .nil => []
  | .cons s b => tgSt s ++ tgB b
  | .wip _ b => tgB b
def tgC : Hcs → List Nat
  | .nil => []
  | .cons _ _ b l => tgB b ++ tgC l
end
mutual
def okSt : St → Bool
  | .ite _ a b => okB a && okB b
  | .whl _ _ b => okB b
  | .for _ _ b => okB b
  | .fod _ _ _ b => okB b
  | .try b l => okB b && okC l
  | _ => true
def okB : Bk → Bool
  | .nil => true
  | .cons s b => okSt s && okB b
  | .wip _ b => okB b
def okC : Hcs → Bool
  | .nil => true
  | .cons i _ b l => (match i with
    | some i => !decide (i ∈ tgB b)
    | none => true) && okB b && okC l
end
section
variable {T : Tb} {m : Sm} {k : Nat} {Γ : Sc} {cu : Cu} {X : Cx} {G : Cf} {W : WX}
theorem s_comp (o : Ok T m k Γ cu X G W) {e : Ex} {g : Tg} {tg v : Expr} {pos : Pos} (h : chE T Γ e v = true) (hg : chG Γ g tg = true) (hn : noCuG cu g) (hw : swB Γ tg v = true) (hnc : notCod e = true) : PS X (.Assign [tg] v pos) (tS G W (sAsg (evE m cu e) g)) := by
  unfold swB at hw
  split at hw
  rotate_left
  · cases hw
  rename_i y py el gs scope ps
  simp only [Bool.or_eq_true, Bool.and_eq_true, decide_eq_true_eq, Bool.not_eq_true'] at hw
  rcases hw with ⟨⟨h1, h2⟩, h3⟩ | h1
  · -- the slot
    have hl := isl_of h1
    cases e with
    | com e0 g0 s0 t0 own =>
      cases g with
      | tp l => unfold chG at hg; cases hg
      | nm i =>
        unfold chG at hg
        simp only [Bool.and_eq_true, Bool.or_eq_true, decide_eq_true_eq] at hg
        obtain ⟨⟨g1, _⟩, _⟩ := hg
        unfold chE at h
        split at h
        rotate_left
        · cases h
        rename_i heq
        cases heq
        simp only [Bool.and_eq_true, Bool.or_eq_true, Bool.not_eq_true', decide_eq_true_eq, List.all_eq_true] at h
        obtain ⟨⟨⟨⟨⟨⟨⟨⟨c1, c0⟩, c2⟩, c3⟩, c4⟩, c5⟩, c6⟩, c7⟩, c8⟩ := h
        have B := blk_ok c4
        have cn := (o.cm c1).2.2.2.2
        have nc : ∀ i c, cu = some (i, c) → i ∉ slotsT g0 := fun i c z => by rw [cn] at z; cases z
        exact s_setLc (o.cm c1).1 o.nd (o.c0 cn) (by rw [o.hN]; exact g1) (by rw [o.sc]; exact hl) (sw_true o.kd (by rw [o.sc]; exact hl) h2 h3) (sS s0 o (srT_of c0) c2) (by rw [o.hN, o.sc]; exact B) c5
          (fun s H C cl fp => sG g0 (o.blk c1 B.kind s H C cl fp) nc c6) (fun s H C cl fp => sQ t0 (o.blk c1 B.kind s H C cl fp) c7) (fun s H C cl fp => sE e0 (o.blk c1 B.kind s H C cl fp) c8) c3
    | cmn e0 g0 s0 t0 own =>
      cases g with
      | tp l => unfold chG at hg; cases hg
      | nm i =>
        unfold chG at hg
        simp only [Bool.and_eq_true, Bool.or_eq_true, decide_eq_true_eq] at hg
        obtain ⟨⟨g1, _⟩, _⟩ := hg
        unfold chE at h
        split at h
        rotate_left
        · cases h
        rename_i heq
        cases heq
        simp only [Bool.and_eq_true, Bool.or_eq_true, Bool.not_eq_true', decide_eq_true_eq, List.all_eq_true] at h
        obtain ⟨⟨⟨⟨⟨⟨⟨⟨c1, c0⟩, c2⟩, c3⟩, c4⟩, c5⟩, c6⟩, c7⟩, c8⟩ := h
        have B := blk_ok c4
        have cn := (o.cm c1).2.2.2.2
        have nc : ∀ i c, cu = some (i, c) → i ∉ slotsT g0 := fun i c z => by rw [cn] at z; cases z
        exact s_setLcN (o.cm c1).1 o.nd (o.c0 cn) (by rw [o.hN]; exact g1) (by rw [o.sc]; exact hl) (sw_true o.kd (by rw [o.sc]; exact hl) h2 h3) (sS s0 o (srT_of c0) c2) (by rw [o.hN, o.sc]; exact B) c5
          (fun s H C cl fp => sG g0 (o.blk c1 B.kind s H C cl fp) nc c6) (fun s H C cl fp => sQ t0 (o.blk c1 B.kind s H C cl fp) c7) (fun s H C cl fp => sE e0 (o.blk c1 B.kind s H C cl fp) c8) c3
    | cod _ _ _ _ _ _ => cases hnc
    | _ => unfold chE at h; cases h
  · exact s_asgC (sE e o h) (sG g o hn hg) (sw_cell (by rw [o.sc]; exact h1)) rfl rfl
end
def tgOk (cu : Cu) (l : List Nat) : Prop := ∀ i c, cu = some (i, c) → i ∉ l
theorem tgOk.l {cu : Cu} {a b : List Nat} (h : tgOk cu (a ++ b)) : tgOk cu a := fun i c z q => h i c z (List.mem_append_left _ q)
theorem tgOk.r {cu : Cu} {a b : List Nat} (h : tgOk cu (a ++ b)) : tgOk cu b := fun i c z q => h i c z (List.mem_append_right _ q)
mutual
theorem sSt {T : Tb} {m : Sm} {k : Nat} : ∀ (e : St) {Γ : Sc} {cu : Cu} {X : Cx} {G : Cf} {W : WX} {x : Stmt}, Ok T m k Γ cu X G W → tgOk cu (tgSt e) → okSt e = true → chSt T Γ e x = true → PS X x (tS G W (evSt m cu e))
  | .pass, Γ, cu, X, G, W, x, o, ht, hk, h => by
    unfold chSt at h
    split at h
    · exact s_pass
    · cases h
  | .brk, Γ, cu, X, G, W, x, o, ht, hk, h => by
    unfold chSt at h
    split at h
    · exact s_brk
    · cases h
  | .cnt, Γ, cu, X, G, W, x, o, ht, hk, h => by
    unfold chSt at h
    split at h
    · exact s_cnt
    · cases h
  | .never, Γ, cu, X, G, W, x, o, ht, hk, h => s_never
  | .asg g e, Γ, cu, X, G, W, x, o, ht, hk, h => by
    unfold chSt at h
    split at h
    rotate_left
    · cases h
    simp only [Bool.and_eq_true] at h
    obtain ⟨⟨⟨⟨⟨h1, h2⟩, h3⟩, h4⟩, h5⟩, h6⟩ := h
    have ht2 : noCuG cu g := fun i c z => by have := ht i c z; unfold tgSt at this; exact this
    rcases Bool.or_eq_true_iff.mp h5 with h5 | h5
    · exact s_asg (sE e o h1) (sG g o ht2 h2) h5 h3 h4
    · exact s_comp o h1 h2 ht2 h5 h6
  | .drop e, Γ, cu, X, G, W, x, o, ht, hk, h => by
    unfold chSt at h
    split at h
    rotate_left
    · cases h
    simp only [Bool.and_eq_true] at h
    exact s_drop (sE e o h.1) h.2
  | .ret e, Γ, cu, X, G, W, x, o, ht, hk, h => by
    unfold chSt at h
    split at h
    rotate_left
    · cases h
    exact s_ret (sE e o h)
  | .retN, Γ, cu, X, G, W, x, o, ht, hk, h => by
    unfold chSt at h
    split at h
    · exact s_retN
    · cases h
  | .ite t a b, Γ, cu, X, G, W, x, o, ht, hk, h => by
    unfold chSt at h
    split at h
    rotate_left
    · cases h
    simp only [Bool.and_eq_true] at h
    obtain ⟨⟨h1, h2⟩, h3⟩ := h
    unfold okSt at hk
    obtain ⟨k1, k2⟩ := Bool.and_eq_true_iff.mp hk
    unfold tgSt at ht
    exact s_if (sT t o h1) (sB a o ht.l k1 h2) (sB b o ht.r k2 h3)
  | .whl n t b, Γ, cu, X, G, W, x, o, ht, hk, h => by
    unfold chSt at h
    split at h
    rotate_left
    · cases h
    simp only [Bool.and_eq_true] at h
    obtain ⟨⟨h1, h2⟩, h3⟩ := h
    unfold okSt at hk
    unfold tgSt at ht
    exact s_while (o.cm h1).2.2.2.1 (sT t o h2) (sB b o ht hk h3)
  | .for s g b, Γ, cu, X, G, W, x, o, ht, hk, h => by
    unfold chSt at h
    split at h
    rotate_left
    · cases h
    simp only [Bool.and_eq_true, Bool.or_eq_true, Bool.not_eq_true'] at h
    obtain ⟨⟨⟨⟨⟨h1, h0⟩, h2⟩, h3⟩, h4⟩, h5⟩ := h
    unfold okSt at hk
    unfold tgSt at ht
    exact s_for (o.cm h1).1 (o.cm h1).2.2.2.1 (sS s o (srT_of h0) h2) (sG g o ht.l h4) (sB b o ht.r hk h5) h3
  | .fod w a g b, Γ, cu, X, G, W, x, o, ht, hk, h => by
    unfold chSt at h
    split at h
    rotate_left
    · cases h
    simp only [Bool.and_eq_true] at h
    obtain ⟨⟨⟨⟨⟨h1, h0⟩, h2⟩, h3⟩, h4⟩, h5⟩ := h
    unfold okSt at hk
    unfold tgSt at ht
    split at h2
    rotate_left
    · cases h2
    rename_i oe ed
    exact s_forD (o.cm h1).1 (o.cm h1).2.2.2.1 (sE a o h2) (dwI_ok ed h0) (sG g o ht.l h4) (sB b o ht.r hk h5) h3
  | .fld a f v, Γ, cu, X, G, W, x, o, ht, hk, h => by
    unfold chSt at h
    split at h
    rotate_left
    · cases h
    simp only [Bool.and_eq_true, decide_eq_true_eq] at h
    obtain ⟨⟨h1, h3⟩, h4⟩ := h
    subst h1
    exact s_fld o.hK (by rw [o.t.ft]; exact o.t.fok) (sE a o h3) (sE v o h4)
  | .sub q i v, Γ, cu, X, G, W, x, o, ht, hk, h => by
    unfold chSt at h
    split at h
    rotate_left
    · cases h
    simp only [Bool.and_eq_true] at h
    obtain ⟨⟨⟨⟨h1, h2⟩, h3⟩, h4⟩, h5⟩ := h
    exact s_sub (by have := o.un; omega) (sE q o h3) (sE i o h4) (sE v o h5) h1 h2
  | .rai c, Γ, cu, X, G, W, x, o, ht, hk, h => by
    unfold chSt at h
    split at h
    rotate_left
    · cases h
    simp only [Bool.and_eq_true, decide_eq_true_eq] at h
    obtain ⟨⟨⟨h1, h2⟩, h3⟩, h4⟩ := h
    obtain ⟨e1, e2⟩ := o.t.ex _ h4
    exact s_raise o.hK (o.cm h1).1 (o.cm h1).2.2.1 e2 (o.gl h2) e1 (nm1 h3)
  | .try b l, Γ, cu, X, G, W, x, o, ht, hk, h => by
    unfold chSt at h
    split at h
    rotate_left
    · cases h
    simp only [Bool.and_eq_true] at h
    obtain ⟨⟨⟨h1, h2⟩, h3⟩, h4⟩ := h
    unfold okSt at hk
    obtain ⟨k1, k2⟩ := Bool.and_eq_true_iff.mp hk
    unfold tgSt at ht
    have cn := (o.cm h1).2.2.2.2
    obtain ⟨l', hl⟩ := sC l o k2 h4
    exact s_tryN (o.c0 cn) (o.df h2).1 (o.df h2).2 o.nd (o.cm h1).2.2.1 hl fun W' pn xe tk ps => sB b (o.tr h1 tk ps) ht.l k1 h3
theorem sB {T : Tb} {m : Sm} {k : Nat} : ∀ (e : Bk) {Γ : Sc} {cu : Cu} {X : Cx} {G : Cf} {W : WX} {x : List Stmt}, Ok T m k Γ cu X G W → tgOk cu (tgB e) → okB e = true → chB T Γ e x = true → PSs X x (tS G W (evB m cu e))
  | .nil, Γ, cu, X, G, W, x, o, ht, hk, h => by
    unfold chB at h
    split at h
    · exact b_nil
    · cases h
  | .cons s b, Γ, cu, X, G, W, x, o, ht, hk, h => by
    unfold chB at h
    split at h
    rotate_left
    · cases h
    obtain ⟨h1, h2⟩ := Bool.and_eq_true_iff.mp h
    unfold okB at hk
    obtain ⟨k1, k2⟩ := Bool.and_eq_true_iff.mp hk
    unfold tgB at ht
    exact b_cons (sSt s o ht.l k1 h1) (sB b o ht.r k2 h2)
  | .wip l b, Γ, cu, X, G, W, x, o, ht, hk, h => by
    unfold chB at h
    unfold okB at hk
    unfold tgB at ht
    exact b_wip l (sB b o ht hk h)
theorem sC {T : Tb} {m : Sm} {k : Nat} : ∀ (e : Hcs) {Γ : Sc} {cu : Cu} {X : Cx} {G : Cf} {W : WX} {x : List ExceptHandler}, Ok T m k Γ cu X G W → okC e = true → chC T Γ e x = true → ∃ l', DClOk X G x (evC m e) l'
  | .nil, Γ, cu, X, G, W, x, o, hk, h => by
    unfold chC at h
    split at h
    · exact ⟨_, .nil⟩
    · cases h
  | .cons i t b l, Γ, cu, X, G, W, x, o, hk, h => by
    unfold chC at h
    split at h
    rotate_left
    · cases h
    rename_i y py nm b0 rest p' hs
    simp only [Bool.and_eq_true, decide_eq_true_eq, List.all_eq_true] at h
    obtain ⟨⟨⟨⟨⟨⟨h1, h2⟩, h3⟩, h4⟩, h5⟩, h6⟩, h7⟩ := h
    unfold okC at hk
    simp only [Bool.and_eq_true] at hk
    obtain ⟨⟨k1, k2⟩, k3⟩ := hk
    obtain ⟨l', hl⟩ := sC l o k3 h7
    refine ⟨_, .cons (cH := chOf X.mg y) ⟨o.gl h1, nm1 h2, o.t.xn y h3⟩ ?_ (fun c s es => ?_) (fun c es => ?_) hl⟩
    · cases nm with
      | none =>
        cases i with
        | none => trivial
        | some j => cases h4
      | some n =>
        cases i with
        | none => cases h4
        | some j =>
          simp only [Bool.and_eq_true, decide_eq_true_eq] at h4
          refine ⟨by rw [o.hN]; exact h4.1, ?_, ?_⟩
          · show X.env.scope.names.lookup n = _
            rw [o.sc]; exact isl_of h4.2
          · rw [o.hN]; exact (List.getElem?_eq_some_iff.mp h4.1).1
    · have es2 : (match t.lookup c with | some true => some (some (evB m (i.map fun i => (i, c)) b)) | some false => some none | none => none) = some (some s) := es
      split at es2
      · rename_i e
        cases es2
        have xm := o.t.xm _ (h5 _ (tk_mem e))
        rw [o.hK] at xm
        refine ⟨xm, fun a ob pn hz hd => sB b (o.suite hz hd) (fun j c' z => ?_) k2 h6⟩
        cases i with
        | none => cases z
        | some j' =>
          cases z
          simp only [Bool.not_eq_true', decide_eq_false_iff_not] at k1
          exact k1
      · cases es2
      · cases es2
    · have es2 : (match t.lookup c with | some true => some (some (evB m (i.map fun i => (i, c)) b)) | some false => some none | none => none) = some none := es
      split at es2
      · cases es2
      · rename_i e
        have xm := o.t.xm _ (h5 _ (tk_mem e))
        rw [o.hK] at xm
        exact xm
      · cases es2
end
/-! ### the defs -/
structure FnD where
  N : List Str
  np : Nat
  b : Bk
def semN (fns : List FnD) (ft : FT) : Nat → Nat → FC
  | 0, _ => fun _ _ => .fail
  | k + 1, i => match fns[i]? with
    | some f => bodyF f.N.length f.np (evB ⟨semN fns ft k, ft⟩ none f.b)
    | none => fun _ _ => .fail
/-- the text of a def is the row's -/
def chFn (T : Tb) (f : FnD) (d : He.DefD) : Bool := chB T ⟨f.N, d.scope, fun _ => true, true, true⟩ f.b d.body && okB f.b && decide f.N.Nodup && decide (d.scope.kind = .function) && !d.scope.isCoroutine && !d.scope.isGenerator && decide (f.np ≤ f.N.length) &&
  (f.N.take f.np).all (fun x => locB d.scope x) && d.scope.names.all (fun y => decide (y.2 ≠ .free))
theorem fn_level {T : Tb} {f : FnD} {d : He.DefD} {m : Sm} {k : Nat} {P : Program} {w : World} {K : PySem.W.Frag} {mg : Str → Option Value} {base : Heap} {G : Cg} (hK : G.K = K) (h : chFn T f d = true) (t : TOk T m k P w K mg base G) {dvs : List V} {kws : List (Str × V)} {fa : Addr} {fd : FuncData}
    (F0 : FunD K d.name d.qual d.params d.body d.scope dvs kws fa fd) : FnOk P w K mg base (L2.CX P w) (2 * (k + 1)) fa fd (f.N.take f.np) (spD G (bodyF f.N.length f.np (evB m none f.b))) := by
  unfold chFn at h
  simp only [Bool.and_eq_true, decide_eq_true_eq, Bool.not_eq_true', List.all_eq_true] at h
  obtain ⟨⟨⟨⟨⟨⟨⟨⟨h1, h2⟩, h3⟩, h4⟩, h5⟩, h6⟩, h7⟩, h8⟩, h9⟩ := h
  have hl : (f.N.take f.np).length = f.np := by rw [List.length_take]; omega
  have S0 : FnScope f.N (f.N.take f.np) d.scope := ⟨h4, h5, h6, h3, by rw [hl], fun x hx => loc_of (h8 x hx), fun y hy => h9 y hy⟩
  have z := fn_ok (P := P) (w := w) (mg := mg) (base := base) (G := ⟨G, none⟩) (k := 2 * k + 1) (b := evB m none f.b) rfl F0 S0 fun cdv A outer s H E hr => sB f.b (Γ := ⟨f.N, d.scope, fun _ => true, true, true⟩) (T := T) (k := k)
    { hK := hK, t := t, hN := rfl, nd := h3, un := by have := hr.un; show (A.deeper (envOfC d.qual d.scope s.heap.objs.size fa cdv)).units + 65 < cLine; omega, kd := h4, sc := rfl, fn := rfl, cm := fun _ => ⟨rfl, hr, takes_of rfl rfl rfl rfl, passes_of rfl, rfl⟩, df := fun _ => ⟨rfl, rfl⟩, c0 := fun _ => rfl, c1 := fun i c z => (by cases z), c2 := fun i c a z => (by cases z) } (fun i c z => by cases z) h2 h1
  rw [hl] at z
  exact z
/-- nothing is promised -/
theorem fn_zero {P : Program} {w : World} {K : PySem.W.Frag} {mg : Str → Option Value} {base : Heap} {G : Cg} {j : Nat} {fa : Addr} {fd : FuncData} {ps : List Str} : FnOk P w K mg base (L2.CX P w) j fa fd ps (spD G fun _ _ => .fail) :=
  ⟨fun vs H Q E ⟨_, _, _, _, _, p⟩ => p.elim, fun A outer s H args us vs Q E _ _ _ _ ⟨_, _, _, _, _, p⟩ => p.elim⟩
end Sb

/-! Sb14: the module behind its top; the law's end. -/
namespace Sb
open L2 PySem PySem.Spec PyProof.Rows
def Cst.w : Cst → He.Dv
  | .non => .non
  | .bl b => .bl b
  | .int i => .int i
  | .str x => .str x
theorem Cst.wv (c : Cst) (K : PySem.W.Frag) : c.w.v K = c.v := by cases c <;> rfl
/-! ### what the heap behind the top must hold -/
def chK (K : PySem.W.Frag) (x : Str) : Value := match PySem.W.nsIn K mainGlobals x with
  | some (some v) => v
  | _ => (bootBuiltins x).getD .none
def glB0 (K : PySem.W.Frag) (x : Str) (c : Cst) : Bool := match PySem.W.nsIn K mainGlobals x with
  | some (some u) => He.relB c.v u
  | _ => false
def xnB (K : PySem.W.Frag) (x : Str) : Bool := match PySem.W.nsIn K mainGlobals x with
  | some (some (.ref _)) => true
  | some none => (match bootBuiltins x with
    | some (.type _) => !decide (x = "__name__")
    | _ => false)
  | _ => false
def vOf : Value → V
  | .ref a => .ref a
  | .type t => .ty t
  | _ => .non
def excB (K : PySem.W.Frag) (D : Addr) : Bool :=
  decide (PySem.W.findIn K (.ref D) "__getattribute__" = some (some (.builtin "BaseException.__getattribute__"))) && decide (PySem.W.findIn K (.ref D) "__getattr__" = some none) && decide (PySem.W.subIn K (.ref D) (.type "BaseException") = some true) &&
    PySem.W.hasDictIn K D && decide (PySem.W.findIn K (.ref D) "__class__" = some (some (.builtin "object.__class__"))) && decide (PySem.W.specialIn K (.builtin "object.__class__") "__get__" = some (some (.builtin "getset_descriptor.__get__"))) &&
    decide (PySem.W.takesIn K (.builtin "object.__class__") = some true) && decide (PySem.W.mroIn K D (.type "object") = some true)
def insB (K : PySem.W.Frag) (D : Addr) : Bool :=
  decide (PySem.W.findIn K (.ref D) "__class__" = some (some (.builtin "object.__class__"))) && decide (PySem.W.specialIn K (.builtin "object.__class__") "__get__" = some (some (.builtin "getset_descriptor.__get__"))) &&
    decide (PySem.W.takesIn K (.builtin "object.__class__") = some true) && decide (PySem.W.mroIn K D (.type "object") = some true)
def Tb.cn (T : Tb) (c : Nat) : Str := T.cs.getD c Str.empty
def Tb.ad (T : Tb) (K : PySem.W.Frag) (c : Nat) : Addr := He.ga K (T.cn c)
def Tb.okK (T : Tb) (K : PySem.W.Frag) : Bool :=
  T.bn.all (fun x => (He.Fa.free x).ok K) && T.gl.all (fun p => glB0 K p.1 p.2) && T.fn.all (fun t => t.dd.isEmpty || (He.Fa.glo t.nm).ok K) && T.ft.all (fun q => (He.Fa.cls (T.cn q.1)).ok K && (He.Fa.noat (T.cn q.1) q.2).ok K) &&
    T.me.all (fun q => (He.Fa.cls (T.cn q.1)).ok K && (He.Fa.meth (T.cn q.1) q.2.1).ok K) && T.mks.all (fun q => (He.Fa.glo q.2.1).ok K && (He.Fa.mkr q.2.1).ok K) && T.ex.all (fun q => (He.Fa.glo q.2).ok K && (He.Fa.exc q.2).ok K) &&
    T.xn.all (fun x => xnB K x) && T.xm.all (fun q => xnB K q.2.1 && decide (PySem.W.exmOne K (.ref (T.ad K q.1)) (chK K q.2.1) = some q.2.2)) &&
    T.xi.all (fun q => xnB K q.2.1 && excB K (T.ad K q.1) && decide (PySem.W.kitOne K (.ref (T.ad K q.1)) (chK K q.2.1) = some q.2.2)) &&
    T.inh.all (fun q => decide (He.ma K (T.ad K q.1) q.2.1 = He.fAd K (q.2.2, some q.2.1))) &&
    T.ic.all (fun q => xnB K q.2.1 && (He.Fa.cls (T.cn q.1)).ok K && insB K (T.ad K q.1) && decide (PySem.W.kitOne K (.ref (T.ad K q.1)) (chK K q.2.1) = some q.2.2)) &&
    T.tab.all (fun q => (He.Fa.glo q.1).ok K && He.valsB K (He.ga K q.1) (q.2.map fun p => (p.1, p.2.w)))
/-- the tables' keys -/
def Tb.seen (T : Tb) (K : PySem.W.Frag) : List (Option (List (Option (Str × Int)))) := T.tab.map fun q => He.dicW K (He.ga K q.1)
def Tb.keys (T : Tb) (P : Params) : List (Option (List (Option (Str × Int)))) := T.tab.map fun q => some (He.keysIn P (q.2.map (·.1)))
/-! ### the Hook -/
abbrev AlS : Type := (He.AlD × Bool) × List (Option (List (Option (Str × Int))))
/-- one step of the walk: the new ones among these, each once, with the mark (bit a stands where a is met) -/
def newA : List Addr → Nat → List Addr × Nat
  | [], m => ([], m)
  | a :: l, m => match Nat.beq (Nat.land (Nat.shiftRight m a) 1) 0 with
    | true => match newA l (Nat.lor m (Nat.shiftLeft 1 a)) with
      | (r, m') => (a :: r, m')
    | false => newA l m
/-- what the last ones name, n times: all met, from the globals on -/
def asW (g : Addr → Option Obj) : Nat → List Addr → Nat → List Addr
  | 0, l, _ => l
  | n + 1, l, m => match newA (l.flatMap fun a => match g a with | some o => He.refsD o | none => []) m with
    | (r, m') => l ++ asW g n r m'
def asWk (g : Addr → Option Obj) (n : Nat) : List Addr := asW g n [mainGlobals] (Nat.shiftLeft 1 mainGlobals)
def obsS (n : Nat) (T : Tb) (ds : List He.DefD) (g : Addr → Option Obj) : AlS := ((He.obsD [] ds (He.frG g (asWk g n)), T.okK (He.frG g (asWk g n))), T.seen (He.frG g (asWk g n)))
def hookS (n : Nat) (T : Tb) (ds : List He.DefD) : PySem.W.Hook where
  α := AlS
  obs := fun s => obsS n T ds s.heap.get?
  val := fun w => ((He.valD ds, true), T.keys w.params)
  says := fun w h => ∃ K : PySem.W.Frag, K.In h ∧ He.SaysD [] ds K ∧ T.okK K = true ∧ T.seen K = T.keys w.params
  of := fun _ _ e => ⟨_, He.frG_in, congrArg (fun z : AlS => z.1.1) e, congrArg (fun z : AlS => z.1.2) e, congrArg (fun z : AlS => z.2) e⟩
  keeps := fun _ _ _ ⟨K, hK, c⟩ k => ⟨K, PySem.W.Frag.In.keeps hK k, c⟩
def obS (n : Nat) (T : Tb) (ds : List He.DefD) (s : PySem.W.SharedT) : AlS := obsS n T ds (HandSHeadRun.getT s)
theorem obS_eq (n : Nat) (T : Tb) (ds : List He.DefD) (s : PySem.W.SharedT) : obS n T ds s = (hookS n T ds).obs s.abs := by
  have e : HandSHeadRun.getT s = s.abs.heap.get? := funext (HandSHeadRun.getT_eq s)
  unfold obS
  rw [e] <;> rfl
theorem map5 {α β γ δ1 δ2 δ3 : Type} {o : Option α} {f : α → β} {g : α → γ} {k : α → (δ1 × δ2) × δ3} {x : β} {y : γ} {z1 : δ1} {z2 : δ2} {z3 : δ3} (h1 : o.map f = some x) (h2 : o.map g = some y) (h3 : o.map (fun s => (k s).1.1) = some z1) (h4 : o.map (fun s => (k s).1.2) = some z2) (h5 : o.map (fun s => (k s).2) = some z3) : o.map (fun s => (f s, g s, k s)) = some (x, y, ((z1, z2), z3)) := by
  cases o with
  | none => cases h1
  | some s =>
    have e1 : f s = x := Option.some.inj h1
    have e2 : g s = y := Option.some.inj h2
    have e3 : (k s).1.1 = z1 := Option.some.inj h3
    have e4 : (k s).1.2 = z2 := Option.some.inj h4
    have e5 : (k s).2 = z3 := Option.some.inj h5
    have e6 : k s = ((z1, z2), z3) := Prod.ext (Prod.ext e3 e4) e5
    show some (f s, g s, k s) = _
    rw [e1, e2, e6]
section
open PySem.W PySem.Calls
/-- the run's equation, look by look -/
theorem run5 {r : PySem.W.OpenRow} {q : Program} {n : Nat} {T : Tb} {ds : List He.DefD} {M : Nat} {loose : List Str} {w : World}
    (h1 : ∀ os : OsState, (HandSHeadRun.endF (HandSHeadRun.stepQ (HandSHeadRun.denQ HandSHeadRun.tabQ) r.prog w) M r.prog w os).map (fun s => HandSHeadRun.looksF r.prog (boot_heap w.params) s.abs) = some true)
    (h2 : ∀ os : OsState, (HandSHeadRun.endF (HandSHeadRun.stepQ (HandSHeadRun.denQ HandSHeadRun.tabQ) r.prog w) M r.prog w os).map (fun s => HandSHeadRun.seenQ q loose (importedModules r.prog.main.body) (fun s => PySem.W.xlAt q [] s && PySem.W.recOk r.toRowW.records s) s.abs) = some (PySem.W.openGood q loose))
    (h3 : ∀ os : OsState, (HandSHeadRun.endF (HandSHeadRun.stepQ (HandSHeadRun.denQ HandSHeadRun.tabQ) r.prog w) M r.prog w os).map (fun s => (obS n T ds s).1.1) = some (He.valD ds))
    (h4 : ∀ os : OsState, (HandSHeadRun.endF (HandSHeadRun.stepQ (HandSHeadRun.denQ HandSHeadRun.tabQ) r.prog w) M r.prog w os).map (fun s => (obS n T ds s).1.2) = some true)
    (h5 : ∀ os : OsState, (HandSHeadRun.endF (HandSHeadRun.stepQ (HandSHeadRun.denQ HandSHeadRun.tabQ) r.prog w) M r.prog w os).map (fun s => (obS n T ds s).2) = some (T.keys w.params)) :
    HandSHeadRun.RunEq r q (hookS n T ds) (obS n T ds) M loose w := fun os => map5 (h1 os) (h2 os) (h3 os) (h4 os) (h5 os)
end
/-! ### the static part -/
def chFns (T : Tb) : List FnD → List He.DefD → Bool
  | [], [] => true
  | f :: l, d :: r => chFn T f d && chFns T l r
  | _, _ => false
theorem chFns_at {T : Tb} : ∀ {l : List FnD} {r : List He.DefD} {i : Nat} {f : FnD}, chFns T l r = true → l[i]? = some f → ∃ d, r[i]? = some d ∧ chFn T f d = true
  | [], _, i, f, _, e => by simp at e
  | _ :: _, [], _, _, h, _ => by unfold chFns at h; cases h
  | f :: l, d :: r, 0, f', h, e => by
    unfold chFns at h
    have z : f = f' := by simpa using e
    subst z
    exact ⟨d, rfl, (Bool.and_eq_true_iff.mp h).1⟩
  | f :: l, d :: r, i + 1, f', h, e => by
    unfold chFns at h
    obtain ⟨d', h1, h2⟩ := chFns_at (l := l) (r := r) (i := i) (Bool.and_eq_true_iff.mp h).2 (by simpa using e)
    exact ⟨d', by simpa using h1, h2⟩
/-- the i-th def, called with n values, its defaults dd behind them -/
def BindV (fns : List FnD) (ds : List He.DefD) (q : Nat × Nat × List Cst) : Prop := ∃ f d, fns[q.1]? = some f ∧ ds[q.1]? = some d ∧
  ((q.2.2 = [] ∧ d.dfl = [] ∧ q.2.1 = (f.N.take f.np).length ∧ ∀ (kV doc pm : Value) (an : Option Addr) (cdv ct : Value) (us : List Value), us.length = (f.N.take f.np).length → bindArgs (PySem.W.fnOf d.name d.qual d.params d.body d.scope .none kV doc pm an cdv ct) ⟨us, []⟩ = pure ((f.N.take f.np).zip us)) ∨
   (d.dfl ≠ [] ∧ ∃ j, q.2.2.map Cst.w = d.dfl.drop j ∧ q.2.1 + (d.dfl.length - j) = (f.N.take f.np).length ∧ ∀ (T : Addr) (kV doc pm : Value) (an : Option Addr) (cdv ct : Value) (us its : List Value), us.length = q.2.1 → its.length = d.dfl.length →
      ∃ k, bindArgs (PySem.W.fnOf d.name d.qual d.params d.body d.scope (.ref T) kV doc pm an cdv ct) ⟨us, []⟩ = seqItems? (.ref T) >>= k ∧ k (some its.toArray) = pure ((f.N.take f.np).zip (us ++ its.drop j))))
def AllV (fns : List FnD) (ds : List He.DefD) : List (Nat × Nat × List Cst) → Prop
  | [] => True
  | q :: l => BindV fns ds q ∧ AllV fns ds l
theorem AllV.at_ {fns : List FnD} {ds : List He.DefD} : ∀ {l : List (Nat × Nat × List Cst)} {q : Nat × Nat × List Cst}, AllV fns ds l → q ∈ l → BindV fns ds q
  | [], _, _, h => by cases h
  | p :: l, q, a, h => by
    rcases List.mem_cons.mp h with e | h
    · rw [e]; exact a.1
    · exact AllV.at_ a.2 h
def fnsB (vs : List (Nat × Nat × List Cst)) (ds : List He.DefD) : Nat → List FnT → Bool
  | _, [] => true
  | i, t :: l => t.dd.all (fun p => decide ((i, p.1, p.2) ∈ vs) && decide ((ds[i]?.map (·.at_)) = some (t.nm, none))) && fnsB vs ds (i + 1) l
theorem fnsB_at {vs : List (Nat × Nat × List Cst)} {ds : List He.DefD} : ∀ {l : List FnT} {j i : Nat} {t : FnT}, fnsB vs ds j l = true → l[i]? = some t → ∀ p ∈ t.dd, (j + i, p.1, p.2) ∈ vs ∧ (ds[j + i]?.map (·.at_)) = some (t.nm, none)
  | [], _, _, _, _, e => by simp at e
  | t :: l, j, 0, t', h, e => by
    unfold fnsB at h
    have z : t = t' := by simpa using e
    subst z
    have h1 := (Bool.and_eq_true_iff.mp h).1
    simp only [List.all_eq_true, Bool.and_eq_true, decide_eq_true_eq] at h1
    exact fun p hp => h1 p hp
  | t :: l, j, i + 1, t', h, e => by
    unfold fnsB at h
    have z := fnsB_at (l := l) (j := j + 1) (i := i) (Bool.and_eq_true_iff.mp h).2 (by simpa using e)
    have e2 : j + 1 + i = j + (i + 1) := by omega
    rw [e2] at z
    exact z
/-- the i-th def is the method of the class, or of a class above it -/
def meAt (T : Tb) (ds : List He.DefD) (i c : Nat) (x : Str) : Bool := match ds[i]?.map (·.at_) with
  | some (b, some y) => decide (y = x) && (decide (b = T.cn c) || decide ((c, x, b) ∈ T.inh))
  | _ => false
theorem meAt_ok {T : Tb} {ds : List He.DefD} {i c : Nat} {x : Str} {K : PySem.W.Frag} (h : meAt T ds i c x = true) (hi : ∀ q ∈ T.inh, He.ma K (T.ad K q.1) q.2.1 = He.fAd K (q.2.2, some q.2.1)) :
    ∃ a, (ds[i]?.map (·.at_)) = some a ∧ He.fAd K a = He.ma K (T.ad K c) x := by
  unfold meAt at h
  split at h
  · rename_i b y q
    simp only [Bool.and_eq_true, Bool.or_eq_true, decide_eq_true_eq] at h
    obtain ⟨h1, h2⟩ := h
    subst h1
    refine ⟨_, q, ?_⟩
    rcases h2 with h2 | h2
    · rw [h2]; rfl
    · exact (hi _ h2).symm
  · cases h
def chAll (T : Tb) (fns : List FnD) (ds : List He.DefD) (vs : List (Nat × Nat × List Cst)) : Bool := chFns T fns ds && fnsB vs ds 0 T.fn &&
  T.me.all (fun q => decide ((q.2.2.2.1, q.2.2.1, q.2.2.2.2) ∈ vs) && meAt T ds q.2.2.2.1 q.1 q.2.1) &&
  T.mks.all (fun q => decide ((q.2.2.2.1, q.2.2.1, q.2.2.2.2) ∈ vs) && decide (T.cn q.1 = q.2.1) && meAt T ds q.2.2.2.1 q.1 ("__init__" : Str)) &&
  T.ex.all (fun q => decide (T.cn q.1 = q.2))
/-! ### the table's facts -/
section
variable {T : Tb} {fns : List FnD} {ds : List He.DefD} {vs : List (Nat × Nat × List Cst)} {P : Program} {w : World} {K : PySem.W.Frag} {h base : Heap} {mg : Str → Option Value}
abbrev Tb.G (T : Tb) (K : PySem.W.Frag) : Cg := ⟨K, T.ad K⟩
theorem fn_at (c : He.SaysD [] ds K) (hs : chFns T fns ds = true) {k : Nat} (t : TOk T ⟨semN fns T.f k, T.f⟩ k P w K mg base (T.G K)) {i : Nat} {f : FnD} (e : fns[i]? = some f) {d : He.DefD} (ed : ds[i]? = some d) {fd : FuncData} (F0 : FunD K d.name d.qual d.params d.body d.scope (d.dvs K) (d.kws K) (He.fAd K d.at_) fd) :
    FnOk P w K mg base (L2.CX P w) (2 * (k + 1)) (He.fAd K d.at_) fd (f.N.take f.np) (spD (T.G K) (semN fns T.f (k + 1) i)) := by
  obtain ⟨d', ed', hc⟩ := chFns_at hs e
  rw [ed] at ed'
  cases ed'
  have es : semN fns T.f (k + 1) i = bodyF f.N.length f.np (evB ⟨semN fns T.f k, T.f⟩ none f.b) := by
    show (match fns[i]? with | some f => bodyF f.N.length f.np (evB ⟨semN fns T.f k, T.f⟩ none f.b) | none => fun _ _ => .fail) = _
    rw [e]
  rw [es]
  exact fn_level (K := K) (G := T.G K) rfl hc t F0
theorem cal_at (c : He.SaysD [] ds K) (hs : chFns T fns ds = true) (hb : AllV fns ds vs) {k : Nat} (t : ∀ j, k = j + 1 → TOk T ⟨semN fns T.f j, T.f⟩ j P w K mg base (T.G K)) {i n : Nat} {dd : List Cst} (hv : (i, n, dd) ∈ vs) {a : Str × Option Str} (ha : (ds[i]?.map (·.at_)) = some a) :
    Cal (T.G K) P w mg base (2 * k) (He.fAd K a) n (dd.map Cst.d) (semN fns T.f k i) := by
  obtain ⟨f, d, ef, ed, hd⟩ := hb.at_ hv
  have ed : ds[i]? = some d := ed
  have ef : fns[i]? = some f := ef
  rw [ed] at ha
  have ea : d.at_ = a := by simpa using ha
  obtain ⟨fd, F0⟩ := c.def_ i ed
  rw [ea] at F0
  have FN : FnOk P w K mg base (L2.CX P w) (2 * k) (He.fAd K a) fd (f.N.take f.np) (spD (T.G K) (semN fns T.f k i)) := by
    cases k with
    | zero => exact fn_zero
    | succ j =>
      have z := fn_at c hs (t j rfl) ef ed (by rw [ea]; exact F0)
      rw [ea] at z
      exact z
  refine ⟨?_, F0.kp⟩
  rcases hd with ⟨e1, e2, e3, hbn⟩ | ⟨e1, j, e2, e3, hbn⟩
  · have e1 : dd = [] := e1
    subst e1
    have ev : d.dvs K = [] := by unfold He.DefD.dvs; rw [e2]; rfl
    rw [ev] at F0
    exact ⟨fd, _, [], [], FN, F0.bindsN hbn, .nil, fun _ _ => .nil, e3⟩
  · have ne : d.dvs K ≠ [] := by unfold He.DefD.dvs; simpa using e1
    have hl : (d.dvs K).length = d.dfl.length := by unfold He.DefD.dvs; exact List.length_map ..
    obtain ⟨dss, hv2, hB⟩ := F0.binds1 (ps := f.N.take f.np) n j ne (by rw [hl]; exact e3) (by rw [hl]; exact hbn)
    have e2 : dd.map Cst.w = d.dfl.drop j := e2
    have ed2 : (d.dvs K).drop j = dd.map Cst.v := by
      unfold He.DefD.dvs
      rw [← List.map_drop, ← e2, List.map_map]
      exact List.map_congr_left fun c _ => c.wv K
    rw [ed2] at hv2
    refine ⟨fd, _, dss, dd.map Cst.v, FN, hB, hv2, fun S H => Cst.vds dd, ?_⟩
    have l1 : dd.length = d.dfl.length - j := by
      have z := congrArg List.length e2
      rw [List.length_map, List.length_drop] at z
      exact z
    have e3 : n + (d.dfl.length - j) = (f.N.take f.np).length := e3
    rw [List.length_map, l1]
    exact e3
theorem nsK_some (X : K.In h) (Gm : h.Ns mainGlobals mg) {x : Str} {v : Value} (e : PySem.W.nsIn K mainGlobals x = some (some v)) : mg x = some v := PySem.W.mg_of X Gm e
theorem ch_eq (X : K.In h) (Gm : h.Ns mainGlobals mg) {x : Str} (e : xnB K x = true) : chOf mg x = chK K x ∧ (mg x = some (chOf mg x) ∨ (mg x = none ∧ bootBuiltins x = some (chOf mg x) ∧ x ≠ "__name__")) ∧ RelV (vOf (chK K x)) (chK K x) ∧ ∀ u, RelV (vOf (chK K x)) u → u = chK K x := by
  unfold xnB at e
  split at e
  · rename_i a q
    have m := nsK_some X Gm q
    have ek : chK K x = .ref a := by unfold chK; rw [q]
    have eo : chOf mg x = .ref a := by unfold chOf; rw [m]
    rw [ek, eo]
    exact ⟨rfl, .inl m, rfl, fun u r => r⟩
  · rename_i q
    have m : mg x = none := PySem.W.mg_none_of X Gm q
    split at e
    · rename_i t qb
      have ek : chK K x = .type t := by unfold chK; rw [q]; simp [qb]
      have eo : chOf mg x = .type t := by unfold chOf; rw [m]; simp [qb]
      rw [ek, eo]
      refine ⟨rfl, .inr ⟨m, qb, by simpa using e⟩, rfl, fun u r => r⟩
    · cases e
  · cases e
theorem ch_cls {x : Str} (e : xnB K x = true) : ClsV (vOf (chK K x)) (chK K x) := by
  unfold xnB at e
  split at e
  · rename_i a q
    have ek : chK K x = .ref a := by unfold chK; rw [q]
    rw [ek]
    exact .own a
  · rename_i q
    split at e
    · rename_i t qb
      have ek : chK K x = .type t := by unfold chK; rw [q]; simp [qb]
      rw [ek]
      exact .ty t
    · cases e
  · cases e
theorem tok_ok (X : K.In h) (Gm : h.Ns mainGlobals mg) (c : He.SaysD [] ds K) (hK : T.okK K = true) (hS : T.seen K = T.keys w.params) (hs : chAll T fns ds vs = true) (hb : AllV fns ds vs) : ∀ k, TOk T ⟨semN fns T.f k, T.f⟩ k P w K mg base (T.G K) := by
  unfold Tb.okK at hK
  simp only [Bool.and_eq_true, List.all_eq_true, decide_eq_true_eq] at hK
  obtain ⟨⟨⟨⟨⟨⟨⟨⟨⟨⟨⟨⟨k1, k2⟩, k3⟩, k4⟩, k5⟩, k6⟩, k7⟩, k8⟩, k9⟩, k10⟩, k11⟩, k12⟩, k13⟩ := hK
  unfold chAll at hs
  simp only [Bool.and_eq_true, List.all_eq_true, decide_eq_true_eq] at hs
  obtain ⟨⟨⟨⟨s1, s2⟩, s3⟩, s4⟩, s5⟩ := hs
  have main : ∀ k, (∀ j, k = j + 1 → TOk T ⟨semN fns T.f j, T.f⟩ j P w K mg base (T.G K)) → TOk T ⟨semN fns T.f k, T.f⟩ k P w K mg base (T.G K) := fun k prev =>
    { ft := rfl
      fok := fun cc f q => by
        unfold Tb.f at q
        obtain ⟨z1, z2⟩ := k4 (cc, f) (of_decide_eq_true q)
        exact ⟨He.cls_ok z1, He.noat_ok z2⟩
      bn := fun x hx => He.free_ok X Gm (k1 x hx)
      gl := fun p hp => by
        have z := k2 p hp
        unfold glB0 at z
        split at z
        · rename_i u q
          exact ⟨u, nsK_some X Gm q, He.relB_ok z⟩
        · cases z
      fn := fun i t et he => by
        have z := k3 t (List.mem_of_getElem? et)
        have g := He.glo_ok X Gm (show (He.Fa.glo t.nm).ok K = true by
          rcases Bool.or_eq_true_iff.mp z with z | z
          · exact absurd (List.isEmpty_iff.mp z) he
          · exact z)
        refine ⟨_, g, fun n dd hm => ?_⟩
        obtain ⟨z1, z2⟩ := fnsB_at s2 et _ hm
        rw [Nat.zero_add] at z1 z2
        exact cal_at c s1 hb prev z1 z2
      me := fun cc x n i dd hm => by
        obtain ⟨z1, z2⟩ := k5 _ hm
        obtain ⟨z3, z4⟩ := s3 _ hm
        obtain ⟨a, z5, z6⟩ := meAt_ok (K := K) z4 k11
        have z7 := cal_at c s1 hb prev z3 z5
        rw [z6] at z7
        exact ⟨_, He.cls_ok z1, He.meth_ok z2, z7⟩
      mks := fun cc x n i dd hm => by
        obtain ⟨z1, z2⟩ := k6 _ hm
        obtain ⟨⟨z3, z5⟩, z4⟩ := s4 _ hm
        have z5 : T.cn cc = x := z5
        have ea : T.ad K cc = He.ga K x := by unfold Tb.ad; rw [z5]
        show ∃ fi, mg x = some (.ref (T.ad K cc)) ∧ Mk K (T.ad K cc) fi ∧ _
        obtain ⟨a, z6, z7⟩ := meAt_ok (K := K) z4 k11
        have z8 := cal_at c s1 hb prev z3 z6
        rw [z7, ea] at z8
        rw [ea]
        exact ⟨_, He.glo_ok X Gm z1, He.mkr_ok z2, z8⟩
      ex := fun q hm => by
        obtain ⟨z1, z2⟩ := k7 _ hm
        have z5 : T.cn q.1 = q.2 := s5 _ hm
        have ea : T.ad K q.1 = He.ga K q.2 := by unfold Tb.ad; rw [z5]
        obtain ⟨e1, e2, e3, e4⟩ := He.exc_ok z2
        show mg q.2 = some (.ref (T.ad K q.1)) ∧ ExC ⟨K, T.ad K⟩ q.1
        refine ⟨by rw [ea]; exact He.glo_ok X Gm z1, ?_⟩
        exact ⟨by show PySem.W.excIn K (T.ad K q.1) _ _ = true; rw [ea]; exact e1, by show PySem.W.keepIn K (.ref (T.ad K q.1)) = true; rw [ea]; exact e2, by show PySem.W.subIn K (.ref (T.ad K q.1)) _ = some true; rw [ea]; exact e3, by show PySem.W.typeIn K (.ref (T.ad K q.1)) = _; rw [ea]; exact e4⟩
      xn := fun x hx => (ch_eq X Gm (k8 x hx)).2.1
      xm := fun q hm => by
        obtain ⟨z1, z3⟩ := k9 _ hm
        rw [(ch_eq X Gm z1).1]
        exact z3
      xi := fun q hm => by
        obtain ⟨⟨z1, z2⟩, z3⟩ := k10 _ hm
        obtain ⟨c1, c2, c3, c4⟩ := ch_eq X Gm z1
        refine ⟨?_, vOf (chK K q.2.1), by rw [c1]; exact c3, by rw [c1]; exact c4, by rw [c1]; exact z3⟩
        unfold excB at z2
        simp only [Bool.and_eq_true, decide_eq_true_eq] at z2
        obtain ⟨⟨⟨⟨⟨⟨⟨x1, x2⟩, x3⟩, x4⟩, x5⟩, x6⟩, x7⟩, x8⟩ := z2
        exact ⟨x1, x2, x3, x4, x5, x6, x7, x8⟩
      ic := fun q hm => by
        obtain ⟨⟨⟨z1, z2⟩, z3⟩, z4⟩ := k12 _ hm
        obtain ⟨c1, c2, c3, c4⟩ := ch_eq X Gm z1
        refine ⟨?_, vOf (chK K q.2.1), by rw [c1]; exact ch_cls z1, by rw [c1]; exact c3, by rw [c1]; exact z4⟩
        unfold insB at z3
        simp only [Bool.and_eq_true, decide_eq_true_eq] at z3
        obtain ⟨⟨⟨x1, x2⟩, x3⟩, x4⟩ := z3
        exact ⟨He.cls_ok z2, x1, x2, x3, x4⟩
      tab := fun q hm => by
        obtain ⟨z1, z2⟩ := k13 _ hm
        refine ⟨_, He.glo_ok X Gm z1, ?_⟩
        have e : He.dicW K (He.ga K q.1) = some (He.keysIn w.params (q.2.map (·.1))) := by
          have all : ∀ (l : List (Str × List (Str × Cst))), (l.map fun q => He.dicW K (He.ga K q.1)) = (l.map fun q => some (He.keysIn w.params (q.2.map (·.1)))) → ∀ q ∈ l, He.dicW K (He.ga K q.1) = some (He.keysIn w.params (q.2.map (·.1))) := by
            intro l
            induction l with
            | nil => intro _ q hq; cases hq
            | cons p l ih =>
              intro h q hq
              rw [List.map_cons, List.map_cons] at h
              injection h with h1 h2
              rcases List.mem_cons.mp hq with e | hq
              · rw [e]; exact h1
              · exact ih h2 q hq
          exact all T.tab hS q hm
        have e2 : (q.2.map fun p => (p.1, p.2.w)).map (·.1) = q.2.map (·.1) := by rw [List.map_map]; rfl
        have z := ktab_ok (K := K) (w := w) (t := q.2.map fun p => (p.1, p.2.w)) (by rw [e2]; exact e) z2
        rw [List.map_map] at z
        have e3 : (q.2.map ((fun p => (p.1, p.2.v K)) ∘ fun p => (p.1, p.2.w))) = q.2.map fun p => (p.1, p.2.v) := List.map_congr_left fun p _ => by
          show (p.1, p.2.w.v K) = (p.1, p.2.v)
          rw [Cst.wv]
        rw [e3] at z
        exact z }
  intro k
  induction k with
  | zero => exact main 0 fun j e => by cases e
  | succ k ih => exact main (k + 1) fun j e => by cases e; exact ih
/-! ### the law -/
theorem walk_S {l : PySem.W.OpenLaw} {n k : Nat} {q : Program} {loose : List Str} {XP : (Str → Option Value) → Heap → Prop} {YP : World → Heap → Prop} {d : DefRec} {x : Str}
    (hn : l.most = some n) (hn2 : n ≤ sizeLine) (hdf : d.params.defaults = []) (hr : Room k callerA)
    (F : ∀ (w : World) (mg : Str → Option Value) (fa : Addr) (h : Heap), YP w h → h.Ns mainGlobals mg → mg d.name = some (.ref fa) →
      ∃ (K : PySem.W.Frag) (fd : FuncData) (sp : Sp), K.In h ∧ (∀ (s : Shared) (u : Value), BindsTo s fd ⟨[u], []⟩ [(x, u)]) ∧
        (∀ (H : Hp) (a : Addr) (ns : List Int), ns.length ≤ n → Only H → SqL K H a (ns.map V.int) → sp [.ref a] H (fun v _ => v = .bl true) fun _ _ _ => False) ∧
        ∀ base : Heap, K.In base → base.Ns mainGlobals mg → FnOk l.prog w K mg base (L2.CX l.prog w) k fa fd [x] sp) :
    PySem.W.WalkO q loose XP YP l.row.toRowW d [] (fun f vs => PySem.call f vs) := by
  refine Att.attach_call hn hdf fun w s0 s1 mg mb fa ob pm cd doc a vs ns Gr Y ho hd hcd hmg hobj hints hlen hg => ?_
  obtain ⟨K, fd, sp, KX, hb, hsp, hF⟩ := F w mg fa _ Y Gr.T.g hmg
  exact law_call KX Gr.T.g Gr.T.b Gr.T.builtins Gr.T.nolimit hg hobj hints (Nat.le_trans hlen hn2) hr hF hb (fun H hO hS => hsp H a ns hlen hO hS) fun H e s' z => by
    obtain ⟨_, _, _, _, _, _, _, _, _, _, _, _, z⟩ := z
    exact z
theorem law_sp {G : Cg} {f : FC} {H : Hp} {a : Addr} {ns : List Int} (hO : Only H) (hS : SqL G.K H a (ns.map V.int)) (hf : ∃ h, f [.scr ns] [] = .ok (.bl true) h) : spD G f [.ref a] H (fun v _ => v = .bl true) fun _ _ _ => False := by
  obtain ⟨h, e⟩ := hf
  refine ⟨⟨fun _ => 0, 0, fun _ => False⟩, [], [.scr ns], ⟨rfl, fun i z => absurd z (Nat.not_lt_zero _), fun i j z => absurd z (Nat.not_lt_zero _), fun b z => z.elim, fun i o z => by simp at z⟩, .cons (.scr (sqF_of hS hO)) .nil, ?_⟩
  rw [e]
  intro S' H' v _ _ x
  cases x
  rfl
theorem law_F {T : Tb} {fns : List FnD} {ds : List He.DefD} {vs : List (Nat × Nat × List Cst)} {P : Program} {w : World} {mg : Str → Option Value} {h : Heap} {x y : Str} {i n j : Nat} {d : He.DefD} {f : FnD} {fa : Addr} (c : (hookS n T ds).says w h) (Gm : h.Ns mainGlobals mg) (hmg : mg y = some (.ref fa)) (hs : chAll T fns ds vs = true) (hb : AllV fns ds vs)
    (hT : ∃ t, T.fn[i]? = some t ∧ t.nm = y ∧ (1, []) ∈ t.dd) (hv : (i, 1, []) ∈ vs) (hf : fns[i]? = some f) (hd : ds[i]? = some d) (hN : f.N.take f.np = [x]) (hdf : d.dfl = []) (law : ∀ ns : List Int, ns.length ≤ n' → ∃ h, semN fns T.f (j + 1) i [.scr ns] [] = .ok (.bl true) h) :
    ∃ (K : PySem.W.Frag) (fd : FuncData) (sp : Sp), K.In h ∧ (∀ (s : Shared) (u : Value), BindsTo s fd ⟨[u], []⟩ [(x, u)]) ∧
        (∀ (H : Hp) (a : Addr) (ns : List Int), ns.length ≤ n' → Only H → SqL K H a (ns.map V.int) → sp [.ref a] H (fun v _ => v = .bl true) fun _ _ _ => False) ∧
        ∀ base : Heap, K.In base → base.Ns mainGlobals mg → FnOk P w K mg base (L2.CX P w) (2 * (j + 1)) fa fd [x] sp := by
  obtain ⟨K, KX, c1, c2, c3⟩ := c
  obtain ⟨t, et, en, em⟩ := hT
  have hs0 := hs
  unfold chAll at hs
  simp only [Bool.and_eq_true] at hs
  obtain ⟨⟨⟨⟨s1, s2⟩, _⟩, _⟩, _⟩ := hs
  obtain ⟨_, ea⟩ := fnsB_at s2 et _ em
  rw [Nat.zero_add, hd] at ea
  have ea2 : d.at_ = (t.nm, none) := by simpa using ea
  obtain ⟨fd, F0⟩ := c1.def_ i hd
  have ef : He.fAd K d.at_ = fa := by
    have TT : TOk T ⟨semN fns T.f 0, T.f⟩ 0 P w K mg h (T.G K) := tok_ok KX Gm c1 c2 c3 hs0 hb 0
    unfold Tb.okK at c2
    simp only [Bool.and_eq_true, List.all_eq_true, decide_eq_true_eq] at c2
    obtain ⟨⟨⟨⟨⟨⟨⟨⟨⟨⟨⟨⟨_, _⟩, k3⟩, _⟩, _⟩, _⟩, _⟩, _⟩, _⟩, _⟩, _⟩, _⟩, _⟩ := c2
    have z := k3 t (List.mem_of_getElem? et)
    have g := He.glo_ok KX Gm (show (He.Fa.glo t.nm).ok K = true by
      rcases Bool.or_eq_true_iff.mp z with z | z
      · rw [List.isEmpty_iff.mp z] at em; cases em
      · exact z)
    rw [en, hmg] at g
    rw [ea2, en]
    exact (Value.ref.inj (Option.some.inj g)).symm
  have ev : d.dvs K = [] := by unfold He.DefD.dvs; rw [hdf]; rfl
  have F1 := F0
  rw [ev] at F1
  obtain ⟨f', d', q1, q2, q3⟩ := hb.at_ hv
  have q1 : fns[i]? = some f' := q1
  have q2 : ds[i]? = some d' := q2
  rw [hf] at q1
  cases q1
  rw [hd] at q2
  cases q2
  refine ⟨K, fd, spD (T.G K) (semN fns T.f (j + 1) i), KX, ?_, fun H a ns hl hO hS => law_sp hO hS (law ns hl), fun base kb nb => ?_⟩
  · rcases q3 with ⟨_, _, _, b⟩ | ⟨ne, _⟩
    · have z := F1.bindsA b
      rw [hN] at z
      exact fun s u => z s [u] rfl
    · exact absurd hdf ne
  · have z := fn_at (P := P) (w := w) (mg := mg) (base := base) c1 s1 (tok_ok kb nb c1 c2 c3 hs0 hb j) hf hd F0
    rw [ef, hN] at z
    exact z
end
end Sb

/-! Sb15: running, in plain Lean. -/
namespace Sb
open L2 PySem PySem.Spec PyProof.Rows
/-! ### ends -/
theorem rb_ok {α β : Type} (a : α) (h : Hh) (k : α → Hh → R β) : (R.ok a h).bind k = k a h := rfl
theorem rb_exc {α β : Type} (c : Nat) (fs : List (Str × D)) (h : Hh) (k : α → Hh → R β) : (R.exc c fs h : R α).bind k = .exc c fs h := rfl
theorem rst_ok {α : Type} (a : α) (h : Hh) (e : En) (k : α → Hh → RS) : (R.ok a h).st e k = k a h := rfl
theorem rst_exc {α : Type} (c : Nat) (fs : List (Str × D)) (h : Hh) (e : En) (k : α → Hh → RS) : (R.exc c fs h : R α).st e k = .exc c fs e h := rfl
theorem opt_some {α : Type} (h : Hh) (a : α) : opt h (some a) = .ok a h := rfl
theorem seq_nx {a b : FS} {e e1 : En} {h h1 : Hh} (q : a e h = .nx e1 h1) : sSeq a b e h = b e1 h1 := by unfold sSeq; rw [q]
theorem seq_rt {a b : FS} {e : En} {h h1 : Hh} {d : D} (q : a e h = .rt d h1) : sSeq a b e h = .rt d h1 := by unfold sSeq; rw [q]
theorem seq_exc {a b : FS} {e e1 : En} {h h1 : Hh} {c : Nat} {fs : List (Str × D)} (q : a e h = .exc c fs e1 h1) : sSeq a b e h = .exc c fs e1 h1 := by unfold sSeq; rw [q]
def thenS : RS → FS → RS
  | .nx e h, b => b e h
  | r, _ => r
theorem seq_then (a b : FS) (e : En) (h : Hh) : sSeq a b e h = thenS (a e h) b := by
  unfold sSeq thenS
  cases a e h <;> rfl
theorem then_nx (e : En) (h : Hh) (b : FS) : thenS (.nx e h) b = b e h := rfl
theorem then_rt (d : D) (h : Hh) (b : FS) : thenS (.rt d h) b = .rt d h := rfl
theorem then_bk (d : En) (h : Hh) (b : FS) : thenS (.bk d h) b = .bk d h := rfl
theorem then_ct (d : En) (h : Hh) (b : FS) : thenS (.ct d h) b = .ct d h := rfl
theorem then_exc (c : Nat) (fs : List (Str × D)) (e : En) (h : Hh) (b : FS) : thenS (.exc c fs e h) b = .exc c fs e h := rfl
theorem then_if (c : Prop) [Decidable c] (x y : RS) (b : FS) : thenS (if c then x else y) b = if c then thenS x b else thenS y b := by split <;> rfl
theorem dVar_at {i : Nat} {e : En} {h : Hh} {d : D} (q : e[i]? = some (some d)) : dVar i e h = .ok d h := by unfold dVar; rw [q]
/-! ### ends of a body -/
def outB : RS → R D
  | .nx _ h' => .ok .non h'
  | .rt d h' => .ok d h'
  | .exc c fs _ h' => .exc c fs h'
  | _ => .fail
theorem body_out {n np : Nat} {b : FS} {ds : List D} {h : Hh} (hl : ds.length = np) : bodyF n np b ds h = outB (b (startE n ds) h) := by
  unfold bodyF outB
  rw [if_pos hl]
  first | done | (cases b (startE n ds) h <;> rfl)
theorem out_rt (d : D) (h : Hh) : outB (.rt d h) = .ok d h := rfl
theorem out_nx (e : En) (h : Hh) : outB (.nx e h) = .ok .non h := rfl
theorem out_exc (c : Nat) (fs : List (Str × D)) (e : En) (h : Hh) : outB (.exc c fs e h) = .exc c fs h := rfl
theorem out_if (c : Prop) [Decidable c] (x y : RS) : outB (if c then x else y) = if c then outB x else outB y := by split <;> rfl
/-! ### ints -/
theorem fits_T {n : Nat} (c : n ≤ 16777216) : (fits n = true) = True := eq_true (decide_eq_true c)
theorem i_add (h : Hh) (i j : Int) : opAdd h (.int i) (.int j) = some (.int (i + j)) := rfl
theorem i_sub (h : Hh) (i j : Int) : opSub h (.int i) (.int j) = some (.int (i - j)) := rfl
theorem i_and (h : Hh) (i j : Int) : opAnd h (.int i) (.int j) = some (.int (Builtin.bitAnd i j)) := rfl
theorem i_neg (h : Hh) (i : Int) : opNeg h (.int i) = some (.int (-i)) := rfl
theorem i_mul {h : Hh} {i j : Int} (c : i.natAbs < 2 ^ 64 ∨ j.natAbs < 2 ^ 64) : opMul h (.int i) (.int j) = some (.int (i * j)) := by
  have e : mulOk i j = true := by
    unfold mulOk
    simp only [Bool.or_eq_true, decide_eq_true_eq]
    exact .inl c
  show (if mulOk i j = true then some (D.int (i * j)) else none) = _
  rw [if_pos e]
theorem i_mod {h : Hh} {i j : Int} (c : 0 < j) : opMod h (.int i) (.int j) = some (.int (i % j)) := by
  show (if 0 < j then some (D.int (i % j)) else none) = _
  rw [if_pos c]
theorem i_div {h : Hh} {i j : Int} (c : 0 < j ∧ j.natAbs < 2 ^ 64) : opDiv h (.int i) (.int j) = some (.int (i / j)) := by
  have e : 0 < j ∧ j.natAbs.log2 < 9000 := by
    refine ⟨c.1, ?_⟩
    have z : j.natAbs ≠ 0 := by omega
    have : j.natAbs.log2 < 64 := (Nat.log2_lt z).mpr c.2
    omega
  show (if 0 < j ∧ j.natAbs.log2 < 9000 then some (D.int (i / j)) else none) = _
  rw [if_pos e]
theorem i_pow {h : Hh} {i j : Int} (c : 0 ≤ j ∧ j ≤ 1000000 ∧ i.natAbs < 2 ^ 64) : opPow h (.int i) (.int j) = some (.int (i ^ j.toNat)) := by
  show (if 0 ≤ j ∧ j ≤ 1000000 ∧ i.natAbs < 2 ^ 64 then some (D.int (i ^ j.toNat)) else none) = _
  rw [if_pos c]
theorem i_shr {h : Hh} {i j : Int} (c : 0 ≤ j) : opShr h (.int i) (.int j) = some (.int (i / 2 ^ j.toNat)) := by
  show (if 0 ≤ j then some (D.int (i / 2 ^ j.toNat)) else none) = _
  rw [if_pos c]
theorem i_lt (h : Hh) (i j : Int) : cmpD .Lt h (.int i) (.int j) = some (.bl (decide (i < j))) := rfl
theorem i_le (h : Hh) (i j : Int) : cmpD .LtE h (.int i) (.int j) = some (.bl (decide (i ≤ j))) := rfl
theorem i_gt (h : Hh) (i j : Int) : cmpD .Gt h (.int i) (.int j) = some (.bl (decide (j < i))) := rfl
theorem i_ge (h : Hh) (i j : Int) : cmpD .GtE h (.int i) (.int j) = some (.bl (decide (j ≤ i))) := rfl
/-! ### == -/
mutual
def pln : Nat → D → Bool
  | _, .non => true
  | _, .bl _ => true
  | _, .int _ => true
  | _, .str x => PyData.strOk x
  | n, .tup l => match n with
    | 0 => false
    | n + 1 => plns n l
  | n, .lst l => match n with
    | 0 => false
    | n + 1 => plns n l
  | _, _ => false
def plns : Nat → List D → Bool
  | _, [] => true
  | n, d :: l => pln n d && plns n l
end
mutual
def eqB : D → D → Bool
  | .non, .non => true
  | .bl a, .bl b => a == b
  | .bl a, .int j => (if a then 1 else 0) == j
  | .int i, .bl b => i == (if b then 1 else 0)
  | .int i, .int j => decide (i = j)
  | .str x, .str y => decide (x = y)
  | .lst xs, .lst ys => eqBs xs ys
  | .tup xs, .tup ys => eqBs xs ys
  | _, _ => false
def eqBs : List D → List D → Bool
  | [], [] => true
  | x :: xs, y :: ys => eqB x y && eqBs xs ys
  | _, _ => false
end
mutual
theorem pln_py : ∀ {n : Nat} {d : D}, pln n d = true → ∃ p, toPy d = some p ∧ p.canLay0 = true ∧ p.depth ≤ n
  | n, .non, _ => ⟨.none, rfl, by simp [PyData.canLay0], by simp [PyData.depth]⟩
  | n, .bl b, _ => ⟨.bool b, rfl, by simp [PyData.canLay0], by simp [PyData.depth]⟩
  | n, .int i, _ => ⟨.int i, rfl, by simp [PyData.canLay0], by simp [PyData.depth]⟩
  | n, .str x, h => ⟨.str x, rfl, by simp only [PyData.canLay0]; unfold pln at h; exact h, by simp [PyData.depth]⟩
  | n, .tup l, h => by
    unfold pln at h
    cases n with
    | zero => cases h
    | succ n =>
      obtain ⟨ps, e1, e2, e3⟩ := plns_py (n := n) h
      refine ⟨.tuple ps, by show (toPys l).map PyData.tuple = _; rw [e1]; rfl, by simp only [PyData.canLay0]; exact e2, by simp only [PyData.depth]; omega⟩
  | n, .lst l, h => by
    unfold pln at h
    cases n with
    | zero => cases h
    | succ n =>
      obtain ⟨ps, e1, e2, e3⟩ := plns_py (n := n) h
      refine ⟨.list ps, by show (toPys l).map PyData.list = _; rw [e1]; rfl, by simp only [PyData.canLay0]; exact e2, by simp only [PyData.depth]; omega⟩
  | n, .dct _, h => by unfold pln at h; cases h
  | n, .ins _ _, h => by unfold pln at h; cases h
  | n, .ref _, h => by unfold pln at h; cases h
  | n, .scr _, h => by unfold pln at h; cases h
theorem plns_py : ∀ {n : Nat} {d : List D}, plns n d = true → ∃ p, toPys d = some p ∧ PyData.canLayAll0 p = true ∧ PyData.depthAll p ≤ n
  | n, [], _ => ⟨[], rfl, by simp [PyData.canLayAll0], by simp [PyData.depthAll]⟩
  | n, d :: l, h => by
    unfold plns at h
    obtain ⟨h1, h2⟩ := Bool.and_eq_true_iff.mp h
    obtain ⟨p, a1, a2, a3⟩ := pln_py h1
    obtain ⟨ps, b1, b2, b3⟩ := plns_py h2
    refine ⟨p :: ps, by show (match toPy d, toPys l with | some x, some xs => some (x :: xs) | _, _ => none) = _; rw [a1, b1], by simp only [PyData.canLayAll0, a2, b2]; rfl, by simp only [PyData.depthAll]; omega⟩
end
mutual
theorem eqB_py : ∀ {d e : D} {p q : PyData}, toPy d = some p → toPy e = some q → PyData.eqv p q = eqB d e
  | .non, e, p, q, a, b => by
    cases a
    cases e <;> first | (cases b; done) | (obtain ⟨ps, _, rfl⟩ := Option.map_eq_some_iff.mp b; simp [PyData.eqv, eqB]; done) | (cases b; simp [PyData.eqv, eqB]; done) | (cases b; simp [PyData.eqv, eqB]; rfl)
  | .bl x, e, p, q, a, b => by
    cases a
    cases e <;> first | (cases b; done) | (obtain ⟨ps, _, rfl⟩ := Option.map_eq_some_iff.mp b; simp [PyData.eqv, eqB]; done) | (cases b; simp [PyData.eqv, eqB]; done) | (cases b; simp [PyData.eqv, eqB]; rfl)
  | .int i, e, p, q, a, b => by
    cases a
    cases e <;> first | (cases b; done) | (obtain ⟨ps, _, rfl⟩ := Option.map_eq_some_iff.mp b; simp [PyData.eqv, eqB]; done) | (cases b; simp [PyData.eqv, eqB]; done) | (cases b; simp [PyData.eqv, eqB]; rfl)
  | .str x, e, p, q, a, b => by
    cases a
    cases e <;> first | (cases b; done) | (obtain ⟨ps, _, rfl⟩ := Option.map_eq_some_iff.mp b; simp [PyData.eqv, eqB]; done) | (cases b; simp [PyData.eqv, eqB]; done) | (cases b; simp [PyData.eqv, eqB]; rfl)
  | .tup l, e, p, q, a, b => by
    obtain ⟨ps, e1, rfl⟩ := Option.map_eq_some_iff.mp (show (toPys l).map PyData.tuple = some p from a)
    cases e with
    | tup l' =>
      obtain ⟨qs, e2, rfl⟩ := Option.map_eq_some_iff.mp (show (toPys l').map PyData.tuple = some q from b)
      simp only [PyData.eqv, eqB]
      exact eqBs_py e1 e2
    | lst l' =>
      obtain ⟨qs, e2, rfl⟩ := Option.map_eq_some_iff.mp (show (toPys l').map PyData.list = some q from b)
      simp [PyData.eqv, eqB]
    | _ => first | (cases b; done) | (cases b; simp [PyData.eqv, eqB])
  | .lst l, e, p, q, a, b => by
    obtain ⟨ps, e1, rfl⟩ := Option.map_eq_some_iff.mp (show (toPys l).map PyData.list = some p from a)
    cases e with
    | lst l' =>
      obtain ⟨qs, e2, rfl⟩ := Option.map_eq_some_iff.mp (show (toPys l').map PyData.list = some q from b)
      simp only [PyData.eqv, eqB]
      exact eqBs_py e1 e2
    | tup l' =>
      obtain ⟨qs, e2, rfl⟩ := Option.map_eq_some_iff.mp (show (toPys l').map PyData.tuple = some q from b)
      simp [PyData.eqv, eqB]
    | _ => first | (cases b; done) | (cases b; simp [PyData.eqv, eqB])
  | .dct _, _, _, _, a, _ => by cases a
  | .ins _ _, _, _, _, a, _ => by cases a
  | .ref _, _, _, _, a, _ => by cases a
  | .scr _, _, _, _, a, _ => by cases a
theorem eqBs_py : ∀ {d e : List D} {p q : List PyData}, toPys d = some p → toPys e = some q → PyData.eqvAll p q = eqBs d e
  | [], [], p, q, a, b => by cases a; cases b; simp [PyData.eqvAll, eqBs]
  | [], y :: l', p, q, a, b => by
    cases a
    have e2 : (match toPy y, toPys l' with | some x, some xs => some (x :: xs) | _, _ => none) = some q := b
    split at e2
    · cases e2; simp [PyData.eqvAll, eqBs]
    · cases e2
  | x :: l, [], p, q, a, b => by
    cases b
    have e2 : (match toPy x, toPys l with | some x, some xs => some (x :: xs) | _, _ => none) = some p := a
    split at e2
    · cases e2; simp [PyData.eqvAll, eqBs]
    · cases e2
  | x :: l, y :: l', p, q, a, b => by
    have e1 : (match toPy x, toPys l with | some x, some xs => some (x :: xs) | _, _ => none) = some p := a
    have e2 : (match toPy y, toPys l' with | some x, some xs => some (x :: xs) | _, _ => none) = some q := b
    split at e1
    · rename_i a1 a2 q1 q2
      split at e2
      · rename_i b1 b2 q3 q4
        cases e1
        cases e2
        simp only [PyData.eqvAll, eqBs]
        rw [eqB_py q1 q3, eqBs_py q2 q4]
      · cases e2
    · cases e1
end
theorem pln_deref {n : Nat} {h : Hh} {d : D} (c : pln n d = true) : deref h d = d := by
  cases d <;> first | rfl | (unfold pln at c; cases c)
theorem eqD_pln {h : Hh} {x y : D} (hx : pln 64 (deref h x) = true) (hy : pln 64 (deref h y) = true) : eqD h x y = some (eqB (deref h x) (deref h y)) := by
  obtain ⟨p, a1, a2, a3⟩ := pln_py hx
  obtain ⟨q, b1, b2, b3⟩ := pln_py hy
  unfold eqD
  rw [a1, b1]
  have s1 : SeqAt.shaped p = true := by unfold SeqAt.shaped; rw [a2, decide_eq_true a3]; rfl
  have s2 : SeqAt.shaped q = true := by unfold SeqAt.shaped; rw [b2, decide_eq_true b3]; rfl
  simp only [s1, s2, and_self, if_true]
  rw [eqB_py a1 b1]
theorem eq_pln {h : Hh} {x y : D} (hx : pln 64 x = true) (hy : pln 64 y = true) : cmpD .Eq h x y = some (.bl (eqB x y)) := by
  show (match eqD h x y with | some b => some (D.bl b) | none => (eqDK h x y).map fun b => D.bl b) = _
  have ex := pln_deref (h := h) hx
  have ey := pln_deref (h := h) hy
  rw [eqD_pln (by rw [ex]; exact hx) (by rw [ey]; exact hy), ex, ey]
theorem ne_pln {h : Hh} {x y : D} (hx : pln 64 x = true) (hy : pln 64 y = true) : cmpD .NotEq h x y = some (.bl (!eqB x y)) := by
  show (match eqD h x y with | some b => some (D.bl (!b)) | none => (eqDK h x y).map fun b => D.bl (!b)) = _
  have ex := pln_deref (h := h) hx
  have ey := pln_deref (h := h) hy
  rw [eqD_pln (by rw [ex]; exact hx) (by rw [ey]; exact hy), ex, ey]
theorem eq_dr {h : Hh} {x y : D} (hx : pln 64 (deref h x) = true) (hy : pln 64 (deref h y) = true) : cmpD .Eq h x y = some (.bl (eqB (deref h x) (deref h y))) := by
  show (match eqD h x y with | some b => some (D.bl b) | none => (eqDK h x y).map fun b => D.bl b) = _
  rw [eqD_pln hx hy]
theorem ne_dr {h : Hh} {x y : D} (hx : pln 64 (deref h x) = true) (hy : pln 64 (deref h y) = true) : cmpD .NotEq h x y = some (.bl (!eqB (deref h x) (deref h y))) := by
  show (match eqD h x y with | some b => some (D.bl (!b)) | none => (eqDK h x y).map fun b => D.bl (!b)) = _
  rw [eqD_pln hx hy]
theorem i_eq (h : Hh) (i j : Int) : cmpD .Eq h (.int i) (.int j) = some (.bl (decide (i = j))) := eq_pln rfl rfl
theorem i_ne (h : Hh) (i j : Int) : cmpD .NotEq h (.int i) (.int j) = some (.bl (!decide (i = j))) := ne_pln rfl rfl
mutual
theorem eqB_refl : ∀ {n : Nat} {d : D}, pln n d = true → eqB d d = true
  | n, .non, _ => by simp [eqB]
  | n, .bl b, _ => by simp [eqB]
  | n, .int i, _ => by simp [eqB]
  | n, .str x, h => by simp [eqB]
  | n, .tup l, h => by
    unfold pln at h
    cases n with
    | zero => cases h
    | succ n => simp only [eqB]; exact eqBs_refl (n := n) h
  | n, .lst l, h => by
    unfold pln at h
    cases n with
    | zero => cases h
    | succ n => simp only [eqB]; exact eqBs_refl (n := n) h
  | n, .dct _, h => by unfold pln at h; cases h
  | n, .ins _ _, h => by unfold pln at h; cases h
  | n, .ref _, h => by unfold pln at h; cases h
  | n, .scr _, h => by unfold pln at h; cases h
theorem eqBs_refl : ∀ {n : Nat} {d : List D}, plns n d = true → eqBs d d = true
  | n, [], _ => by simp [eqBs]
  | n, d :: l, h => by
    unfold plns at h
    obtain ⟨h1, h2⟩ := Bool.and_eq_true_iff.mp h
    simp only [eqBs]
    rw [eqB_refl h1, eqBs_refl h2]; rfl
end
theorem pln_tup (n : Nat) (l : List D) : pln (n + 1) (.tup l) = plns n l := rfl
theorem pln_lst (n : Nat) (l : List D) : pln (n + 1) (.lst l) = plns n l := rfl
mutual
theorem pln_mono : ∀ {n m : Nat} {d : D}, n ≤ m → pln n d = true → pln m d = true
  | _, _, .non, _, _ => rfl
  | _, _, .bl _, _, _ => rfl
  | _, _, .int _, _, _ => rfl
  | _, _, .str _, _, h => h
  | n, m, .tup l, le, h => by
    unfold pln at h ⊢
    cases n with
    | zero => cases h
    | succ n =>
      cases m with
      | zero => omega
      | succ m => exact plns_mono (by omega) h
  | n, m, .lst l, le, h => by
    unfold pln at h ⊢
    cases n with
    | zero => cases h
    | succ n =>
      cases m with
      | zero => omega
      | succ m => exact plns_mono (by omega) h
  | _, _, .dct _, _, h => by unfold pln at h; cases h
  | _, _, .ins _ _, _, h => by unfold pln at h; cases h
  | _, _, .ref _, _, h => by unfold pln at h; cases h
  | _, _, .scr _, _, h => by unfold pln at h; cases h
theorem plns_mono : ∀ {n m : Nat} {d : List D}, n ≤ m → plns n d = true → plns m d = true
  | _, _, [], _, _ => rfl
  | n, m, d :: l, le, h => by
    unfold plns at h ⊢
    obtain ⟨h1, h2⟩ := Bool.and_eq_true_iff.mp h
    rw [pln_mono le h1, plns_mono le h2]; rfl
end
theorem plns_all {n : Nat} {l : List D} : plns n l = true ↔ ∀ d ∈ l, pln n d = true := by
  induction l with
  | nil => simp [plns]
  | cons d l ih => simp [plns, ih]
/-! ### in -/
theorem in_lst {h : Hh} {x : D} {l : List D} (hx : pln 64 x = true) (hl : plns 63 l = true) : cmpD .In h x (.lst l) = some (.bl (l.any fun z => eqB z x)) := by
  obtain ⟨p, a1, a2, a3⟩ := pln_py hx
  obtain ⟨qs, b1, b2, b3⟩ := plns_py hl
  have s1 : SeqAt.shaped p = true := by unfold SeqAt.shaped; rw [a2, decide_eq_true a3]; rfl
  have s2 : SeqAt.shaped (.list qs) = true := by
    unfold SeqAt.shaped
    rw [show (PyData.list qs).canLay0 = true by simp only [PyData.canLay0]; exact b2, decide_eq_true (show (PyData.list qs).depth ≤ 64 by simp only [PyData.depth]; omega)]; rfl
  have key : ∀ {l : List D} {qs : List PyData}, toPys l = some qs → (qs.any fun z => PyData.eqv z p) = l.any fun z => eqB z x := by
    intro l
    induction l with
    | nil => intro qs e; cases e; rfl
    | cons d l ih =>
      intro qs e
      have e1 : (match toPy d, toPys l with | some x, some xs => some (x :: xs) | _, _ => none) = some qs := e
      split at e1
      · rename_i c1 c2 q1 q2
        cases e1
        rw [List.any_cons, List.any_cons, ih q2, eqB_py q1 a1]
      · cases e1
  show (inD h x (.lst l)).map D.bl = _
  unfold inD
  show (match asK h (.lst l) with | some l => (match keyD x with | some k => some (Sb.valD l k).isSome | none => none) | none => _).map D.bl = _
  have e2 : toPy (deref h (.lst l)) = some (.list qs) := by show (toPys l).map PyData.list = _; rw [b1]; rfl
  simp only [show asK h (.lst l) = none from rfl, a1, e2, s1, s2, and_self, if_true]
  rw [key b1]; rfl
/-! ### places -/
theorem idx_tup (h : Hh) (l : List D) (i : Int) : opIdx h (.tup l) (.int i) = atI l i := rfl
theorem idx_lst (h : Hh) (l : List D) (i : Int) : opIdx h (.lst l) (.int i) = atI l i := rfl
theorem idx_scr (h : Hh) (l : List Int) (i : Int) : opIdx h (.scr l) (.int i) = atI (l.map D.int) i := rfl
theorem atI_nat {α : Type} {l : List α} {i : Int} (h0 : 0 ≤ i) (h1 : i < l.length) : atI l i = l[i.toNat]? := by
  unfold atI ixN
  have e : (0 ≤ i ∧ i < l.length) := ⟨h0, h1⟩
  split <;> simp_all
theorem len_tup (h : Hh) (l : List D) : bLen h [.tup l] = some (.int l.length) := rfl
theorem len_lst (h : Hh) (l : List D) : bLen h [.lst l] = some (.int l.length) := rfl
theorem len_scr (h : Hh) (l : List Int) : bLen h [.scr l] = some (.int (l.map D.int).length) := rfl
/-! ### loops over what is never written -/
def frzL : D → Option (List D)
  | .tup l => some l
  | .lst l => some l
  | .scr ns => some (ns.map .int)
  | _ => none
theorem seq_frz {d : D} {l : List D} (e : frzL d = some l) (h : Hh) (i : Nat) : seqAt d h i = some l[i]? := by
  cases d <;> first | (cases e; rfl) | cases e
theorem len_frz {d : D} {l : List D} (e : frzL d = some l) (h : Hh) : lenQ h d = l.length := by
  cases d <;> first | (cases e; rfl) | cases e
theorem asQ_frz {d : D} {l : List D} (e : frzL d = some l) (h : Hh) : (asQ h d).isSome = true := by
  cases d <;> first | (cases e; rfl) | cases e
def forL (g : Tg) (b : FS) : List D → FS
  | [], e, h => .nx e h
  | d :: l, e, h => match bindT g d e with
    | some e1 => match b e1 h with
      | .nx e2 h2 => forL g b l e2 h2
      | .ct e2 h2 => forL g b l e2 h2
      | .bk e2 h2 => .nx e2 h2
      | r => r
    | none => .fail
theorem forS_L {a : Hh → Nat → Option (Option D)} {l : List D} (ha : ∀ h i, a h i = some l[i]?) {g : Tg} {b : FS} : ∀ (m i : Nat) (e : En) (h : Hh), i + m = l.length → forS a g b m i e h = forL g b (l.drop i) e h
  | 0, i, e, h, q => by
    have e1 : l[i]? = none := List.getElem?_eq_none (by omega)
    have e2 : l.drop i = [] := List.drop_eq_nil_of_le (by omega)
    unfold forS
    rw [ha, e1, e2]; rfl
  | m + 1, i, e, h, q => by
    have hi : i < l.length := by omega
    have e1 : l[i]? = some l[i] := List.getElem?_eq_getElem hi
    have e2 : l.drop i = l[i] :: l.drop (i + 1) := (List.drop_eq_getElem_cons hi)
    unfold forS
    rw [ha, e1, e2]
    simp only [forL]
    cases bindT g l[i] e with
    | none => rfl
    | some e1 =>
      simp only
      cases b e1 h with
      | nx e2 h2 => exact forS_L ha m (i + 1) e2 h2 (by omega)
      | ct e2 h2 => exact forS_L ha m (i + 1) e2 h2 (by omega)
      | _ => rfl
theorem for_seq {f : F D} {g : Tg} {b : FS} {e : En} {h h1 : Hh} {d : D} {l : List D} (q : f e h = .ok d h1) (hl : frzL d = some l) : sFor (iSeq f) g b e h = forL g b l e h1 := by
  unfold sFor iSeq
  rw [q, rb_ok, if_pos (asQ_frz hl h1), rst_ok, len_frz hl, forS_L (seq_frz hl) l.length 0 e h1 (Nat.zero_add _)]
  rfl
/-- lo, lo + 1, .., n of them -/
def rngL (lo : Int) : Nat → List D
  | 0 => []
  | n + 1 => .int lo :: rngL (lo + 1) n
theorem rngL_len (lo : Int) : ∀ n, (rngL lo n).length = n
  | 0 => rfl
  | n + 1 => by unfold rngL; rw [List.length_cons, rngL_len]
theorem rngL_at : ∀ (n i : Nat) (lo : Int), (rngL lo n)[i]? = if i < n then some (.int (lo + i)) else none
  | 0, i, lo => by simp [rngL]
  | n + 1, 0, lo => by simp [rngL]
  | n + 1, i + 1, lo => by
    unfold rngL
    rw [List.getElem?_cons_succ, rngL_at n i (lo + 1)]
    by_cases c : i < n
    · rw [if_pos c, if_pos (by omega)]
      congr 2
      omega
    · rw [if_neg c, if_neg (by omega)]
theorem rng_at (lo : Int) (n : Nat) (h : Hh) (i : Nat) : rngAt lo n h i = some (rngL lo n)[i]? := by
  rw [rngL_at]; rfl
theorem for_rng1 {f : F D} {g : Tg} {b : FS} {e : En} {h h1 : Hh} {j : Int} (q : f e h = .ok (.int j) h1) (hj : -(2 ^ 62) ≤ j ∧ j < 2 ^ 62) : sFor (iRange1 f) g b e h = forL g b (rngL 0 j.toNat) e h1 := by
  unfold sFor iRange1
  rw [q, rb_ok]
  simp only
  rw [if_pos hj, rst_ok, forS_L (rng_at 0 j.toNat) j.toNat 0 e h1 (by rw [rngL_len]; omega)]
  rfl
theorem for_rng2 {f f' : F D} {g : Tg} {b : FS} {e : En} {h h1 h2 : Hh} {i j : Int} (q : f e h = .ok (.int i) h1) (q' : f' e h1 = .ok (.int j) h2) (hj : -(2 ^ 62) ≤ i ∧ i < 2 ^ 62 ∧ -(2 ^ 62) ≤ j ∧ j < 2 ^ 62) : sFor (iRange2 f f') g b e h = forL g b (rngL i (j - i).toNat) e h2 := by
  unfold sFor iRange2
  rw [q, rb_ok, q', rb_ok]
  simp only
  rw [if_pos hj, rst_ok, forS_L (rng_at i (j - i).toNat) (j - i).toNat 0 e h2 (by rw [rngL_len]; omega)]
  rfl
def compL (g : Tg) (t : F Bool) (f : F D) : List D → En → Hh → Option (List D × Hh)
  | [], _, h => some ([], h)
  | d :: l, e, h => match bindT g d e with
    | some e1 => match t e1 h with
      | .ok b h1 => if b = true then (match f e1 h1 with
        | .ok y h2 => match compL g t f l e h2 with
          | some (r, h3) => some (y :: r, h3)
          | none => none
        | _ => none) else compL g t f l e h1
      | _ => none
    | none => none
theorem compS_L {a : Hh → Nat → Option (Option D)} {l : List D} (ha : ∀ h i, a h i = some l[i]?) {g : Tg} {t : F Bool} {f : F D} : ∀ (m i : Nat) (e : En) (h : Hh), i + m = l.length → compS a g t f m i e h = compL g t f (l.drop i) e h
  | 0, i, e, h, q => by
    have e1 : l[i]? = none := List.getElem?_eq_none (by omega)
    have e2 : l.drop i = [] := List.drop_eq_nil_of_le (by omega)
    unfold compS
    rw [ha, e1, e2]; rfl
  | m + 1, i, e, h, q => by
    have hi : i < l.length := by omega
    have e1 : l[i]? = some l[i] := List.getElem?_eq_getElem hi
    have e2 : l.drop i = l[i] :: l.drop (i + 1) := (List.drop_eq_getElem_cons hi)
    unfold compS
    rw [ha, e1, e2]
    simp only [compL]
    cases bindT g l[i] e with
    | none => rfl
    | some e1 =>
      simp only
      cases t e1 h with
      | ok b h1 =>
        simp only
        cases b with
        | false => simp only [Bool.false_eq_true, if_false]; exact compS_L ha m (i + 1) e h1 (by omega)
        | true =>
          simp only [if_true]
          cases f e1 h1 with
          | ok y h2 => simp only; rw [compS_L ha m (i + 1) e h2 (by omega)]; first | done | (cases compL g t f (List.drop (i + 1) l) e h2 <;> rfl)
          | exc _ _ _ => rfl
          | fail => rfl
      | exc _ _ _ => rfl
      | fail => rfl
theorem comp_seq {fs f : F D} {g : Tg} {t : F Bool} {vs : List Nat} {e : En} {h h1 h2 : Hh} {d : D} {l r : List D} (q : fs e h = .ok d h1) (hl : frzL d = some l) (hf : fits l.length = true) (hr : compL g t f l (wipeE e vs) h1 = some (r, h2)) : dComp (iSeq fs) g t f vs e h = .ok (.lst r) h2 := by
  unfold dComp iSeq
  rw [q, rb_ok, if_pos (asQ_frz hl h1), rb_ok]
  simp only
  rw [len_frz hl, if_pos hf, compS_L (seq_frz hl) l.length 0 _ h1 (Nat.zero_add _), List.drop_zero, hr]
theorem comp_rng1 {fs f : F D} {g : Tg} {t : F Bool} {vs : List Nat} {e : En} {h h1 h2 : Hh} {j : Int} {r : List D} (q : fs e h = .ok (.int j) h1) (hj : -(2 ^ 62) ≤ j ∧ j ≤ 16777216) (hr : compL g t f (rngL 0 j.toNat) (wipeE e vs) h1 = some (r, h2)) : dComp (iRange1 fs) g t f vs e h = .ok (.lst r) h2 := by
  unfold dComp iRange1
  rw [q, rb_ok]
  simp only
  have hf : fits j.toNat = true := by unfold fits; exact decide_eq_true (by omega)
  rw [if_pos (by omega), rb_ok]
  simp only
  rw [if_pos hf, compS_L (rng_at 0 j.toNat) j.toNat 0 _ h1 (by rw [rngL_len]; omega), List.drop_zero, hr]
/-- every item is kept, turned by φ; the heap stays -/
theorem compL_map {g : Tg} {t : F Bool} {f : F D} {e : En} {h : Hh} {φ : D → D} : ∀ {l : List D}, (∀ d ∈ l, ∃ e1, bindT g d e = some e1 ∧ t e1 h = .ok true h ∧ f e1 h = .ok (φ d) h) → compL g t f l e h = some (l.map φ, h)
  | [], _ => rfl
  | d :: l, q => by
    obtain ⟨e1, a, b, c⟩ := q d List.mem_cons_self
    unfold compL
    rw [a]
    simp only [b, c, if_true]
    rw [compL_map fun d hd => q d (List.mem_cons_of_mem _ hd)]
    rfl
end Sb

/-! Sb16: lists of the small heap, picks, pure calls. -/
namespace Sb
open L2 PySem PySem.Spec PyProof.Rows
section
variable {h : Hh} {i : Nat} {l : List D}
theorem asL_ref (e : h[i]? = some (.lst l)) : asL h (.ref i) = some l := by
  have z : asM h (.ref i) = some l := by
    show (match h[i]? with | some (.lst l) => some l | some (.lck (.lst l)) => some l | _ => none) = _
    rw [e]
  unfold asL
  exact z
theorem asK_ref (e : h[i]? = some (.lst l)) : asK h (.ref i) = none := by
  show (match h[i]? with | some (.dct l) => some l | some (.lck (.dct l)) => some l | _ => none) = _
  rw [e]
theorem idx_ref (e : h[i]? = some (.lst l)) (j : Int) : opIdx h (.ref i) (.int j) = atI l j := by
  unfold opIdx
  rw [asK_ref e]
  simp only [asL_ref e]
theorem add_lst {h : Hh} {a b : List D} (c : a.length + b.length ≤ 16777216) : opAdd h (.lst a) (.lst b) = some (.lst (a ++ b)) := by
  show (if fits (a.length + b.length) = true then some (D.lst (a ++ b)) else none) = _
  rw [if_pos (show fits _ = true from decide_eq_true c)]
theorem add_tup {h : Hh} {a b : List D} (c : a.length + b.length ≤ 16777216) : opAdd h (.tup a) (.tup b) = some (.tup (a ++ b)) := by
  show (if fits (a.length + b.length) = true then some (D.tup (a ++ b)) else none) = _
  rw [if_pos (show fits _ = true from decide_eq_true c)]
theorem tup_lst (h : Hh) (l : List D) : bTuple h [.lst l] = some (.tup l) := rfl
theorem lst_tup (h : Hh) (l : List D) : bList h [.tup l] = some (.lst l) := rfl
theorem lst_lst (h : Hh) (l : List D) : bList h [.lst l] = some (.lst l) := rfl
theorem len_ref (e : h[i]? = some (.lst l)) : bLen h [.ref i] = some (.int l.length) := by
  unfold bLen
  simp only [asL_ref e]
theorem list_ref (e : h[i]? = some (.lst l)) : bList h [.ref i] = some (.lst l) := by
  unfold bList
  simp only [show asQ h (.ref i) = asL h (.ref i) from rfl, asL_ref e]
theorem deref_ref (e : h[i]? = some (.lst l)) : deref h (.ref i) = .lst l := by
  unfold deref
  have z : asM h (.ref i) = some l := by
    show (match h[i]? with | some (.lst l) => some l | some (.lck (.lst l)) => some l | _ => none) = _
    rw [e]
  simp only [z]
theorem append_ref (e : h[i]? = some (.lst l)) (hl : l.length < 16777216) (y : D) : mAppend h (.ref i) [y] = some (.non, h.set i (.lst (l ++ [y]))) := by
  unfold mAppend
  simp only [e, if_pos hl]
theorem cLst_ref (e : h[i]? = some (.lst l)) : cLst h (.ref i) = true := by
  unfold cLst
  rw [asL_ref e]; rfl
theorem in_refD {x : D} (e : h[i]? = some (.lst l)) (hx : pln 64 x = true) (hl : plns 63 l = true) : inD h x (.ref i) = some (l.any fun z => eqB z x) := by
  have z := in_lst (h := h) hx hl
  have z2 : (inD h x (.lst l)).map D.bl = some (.bl (l.any fun z => eqB z x)) := z
  have e3 : inD h x (.ref i) = inD h x (.lst l) := by
    unfold inD
    simp only [asK_ref e, show asK h (.lst l) = none from rfl, deref_ref e, show deref h (.lst l) = .lst l from rfl]
  rw [e3]
  cases q : inD h x (.lst l) with
  | none => rw [q] at z2; cases z2
  | some b => rw [q] at z2; simpa using z2
theorem in_ref {x : D} (e : h[i]? = some (.lst l)) (hx : pln 64 x = true) (hl : plns 63 l = true) : cmpD .In h x (.ref i) = some (.bl (l.any fun z => eqB z x)) := by
  show (inD h x (.ref i)).map D.bl = _
  rw [in_refD e hx hl]; rfl
theorem nin_ref {x : D} (e : h[i]? = some (.lst l)) (hx : pln 64 x = true) (hl : plns 63 l = true) : cmpD .NotIn h x (.ref i) = some (.bl (!(l.any fun z => eqB z x))) := by
  show (inD h x (.ref i)).map (fun b => D.bl (!b)) = _
  rw [in_refD e hx hl]; rfl
end
/-! ### ints -/
theorem plns_ints (n : Nat) : ∀ l : List Int, plns n (l.map D.int) = true
  | [] => rfl
  | i :: l => by rw [List.map_cons]; unfold plns; rw [plns_ints n l]; rfl
theorem any_int (l : List Int) (x : Int) : ((l.map D.int).any fun z => eqB z (.int x)) = decide (x ∈ l) := by
  induction l with
  | nil => simp
  | cons a l ih =>
    rw [List.map_cons, List.any_cons, ih]
    have : eqB (.int a) (.int x) = decide (a = x) := rfl
    rw [this]
    by_cases e : x = a
    · subst e; simp
    · have e2 : ¬ a = x := fun z => e z.symm
      simp [e, e2]
theorem intsD_map : ∀ l : List Int, intsD (l.map D.int) = some l
  | [] => rfl
  | i :: l => by
    show (intsD (l.map D.int)).map (i :: ·) = _
    rw [intsD_map l]; rfl
theorem blsD_map : ∀ l : List Bool, blsD (l.map D.bl) = some l
  | [] => rfl
  | i :: l => by
    show (blsD (l.map D.bl)).map (i :: ·) = _
    rw [blsD_map l]; rfl
theorem count_ref {h : Hh} {i : Nat} {l : List Int} (e : h[i]? = some (.lst (l.map .int))) (x : Int) : mCount h (.ref i) [.int x] = some (.int (l.count x : Nat), h) := by
  unfold mCount
  simp only [asL_ref e, Option.bind_some, intsD_map]
theorem count_lst {h : Hh} {l : List Int} (x : Int) : mCount h (.lst (l.map .int)) [.int x] = some (.int (l.count x : Nat), h) := by
  unfold mCount
  simp only [show asL h (.lst (l.map D.int)) = some (l.map D.int) from rfl, Option.bind_some, intsD_map]
theorem sum_lst {h : Hh} {l : List Int} : bSum h [.lst (l.map .int)] = some (.int l.sum) := by
  show ((asQ h (.lst (l.map D.int))).bind intsD).map _ = _
  rw [show asQ h (.lst (l.map D.int)) = some (l.map D.int) from rfl, Option.bind_some, intsD_map]; rfl
theorem sum_tupI {h : Hh} {l : List Int} : bSum h [.tup (l.map .int)] = some (.int l.sum) := by
  show ((asQ h (.tup (l.map D.int))).bind intsD).map _ = _
  rw [show asQ h (.tup (l.map D.int)) = some (l.map D.int) from rfl, Option.bind_some, intsD_map]; rfl
theorem all_lst {h : Hh} {l : List Bool} : bAll h [.lst (l.map .bl)] = some (.bl (l.all id)) := by
  show ((asL h (.lst (l.map D.bl))).bind blsD).map _ = _
  rw [show asL h (.lst (l.map D.bl)) = some (l.map D.bl) from rfl, Option.bind_some, blsD_map]; rfl
/-! ### picks -/
def pick (l : List Int) (i : Int) : Int := (l[i.toNat]?).getD 0
theorem atI_at {l : List D} {i : Int} {j : Nat} (e : i = (j : Int)) (hj : j < l.length) : atI l i = l[j]? := by
  subst e
  rw [atI_nat (by omega) (by omega)]
  rfl
theorem atI_pick {l : List Int} {i : Int} (h0 : 0 ≤ i) (h1 : i < l.length) : atI (l.map D.int) i = some (.int (pick l i)) := by
  rw [atI_nat h0 (by rw [List.length_map]; exact h1), List.getElem?_map]
  unfold pick
  have hl : i.toNat < l.length := by omega
  rw [List.getElem?_eq_getElem hl]; rfl
theorem pick_mem {l : List Int} {i : Int} (h0 : 0 ≤ i) (h1 : i < l.length) : pick l i ∈ l := by
  unfold pick
  have hl : i.toNat < l.length := by omega
  rw [List.getElem?_eq_getElem hl]
  exact List.getElem_mem hl
theorem pick_all {P : Int → Prop} {l : List Int} {i : Int} (hl : ∀ x ∈ l, P x) (h0 : 0 ≤ i) (h1 : i < l.length) : P (pick l i) := hl _ (pick_mem h0 h1)
theorem at2 {a b : Int} {i : Int} (h : 0 ≤ i ∧ i < 2) : atI [D.int a, .int b] i = some (.int (pick [a, b] i)) := atI_pick (l := [a, b]) h.1 h.2
theorem at3 {a b c : Int} {i : Int} (h : 0 ≤ i ∧ i < 3) : atI [D.int a, .int b, .int c] i = some (.int (pick [a, b, c] i)) := atI_pick (l := [a, b, c]) h.1 h.2
theorem at4 {a b c d : Int} {i : Int} (h : 0 ≤ i ∧ i < 4) : atI [D.int a, .int b, .int c, .int d] i = some (.int (pick [a, b, c, d] i)) := atI_pick (l := [a, b, c, d]) h.1 h.2
theorem at5 {a b c d e : Int} {i : Int} (h : 0 ≤ i ∧ i < 5) : atI [D.int a, .int b, .int c, .int d, .int e] i = some (.int (pick [a, b, c, d, e] i)) := atI_pick (l := [a, b, c, d, e]) h.1 h.2
theorem at6 {a b c d e f : Int} {i : Int} (h : 0 ≤ i ∧ i < 6) : atI [D.int a, .int b, .int c, .int d, .int e, .int f] i = some (.int (pick [a, b, c, d, e, f] i)) := atI_pick (l := [a, b, c, d, e, f]) h.1 h.2
theorem at7 {a b c d e f g : Int} {i : Int} (h : 0 ≤ i ∧ i < 7) : atI [D.int a, .int b, .int c, .int d, .int e, .int f, .int g] i = some (.int (pick [a, b, c, d, e, f, g] i)) := atI_pick (l := [a, b, c, d, e, f, g]) h.1 h.2
theorem at8 {a b c d e f g k : Int} {i : Int} (h : 0 ≤ i ∧ i < 8) : atI [D.int a, .int b, .int c, .int d, .int e, .int f, .int g, .int k] i = some (.int (pick [a, b, c, d, e, f, g, k] i)) := atI_pick (l := [a, b, c, d, e, f, g, k]) h.1 h.2
theorem ixn0 : ixN 2 0 = some 0 := rfl
theorem ixn1 : ixN 2 1 = some 1 := rfl
theorem ix0 {a : D} {l : List D} : atI (a :: l) 0 = some a := (atI_at (l := a :: l) (i := 0) (j := 0) rfl (by simp)).trans rfl
theorem ix1 {a b : D} {l : List D} : atI (a :: b :: l) 1 = some b := (atI_at (l := a :: b :: l) (i := 1) (j := 1) rfl (by simp)).trans rfl
theorem ix2 {a b c : D} {l : List D} : atI (a :: b :: c :: l) 2 = some c := (atI_at (l := a :: b :: c :: l) (i := 2) (j := 2) rfl (by simp)).trans rfl
theorem ix3 {a b c d : D} {l : List D} : atI (a :: b :: c :: d :: l) 3 = some d := (atI_at (l := a :: b :: c :: d :: l) (i := 3) (j := 3) rfl (by simp)).trans rfl
/-! ### calls with a heap of their own -/
theorem pure_ok {f : FC} {ds : List D} {h h' : Hh} {d d' : D} (n : noRefs ds = true) (e : f ds [] = .ok d h') (z : frz h' d = some d') : pureC f ds h = .ok d' h := by
  unfold pureC
  rw [if_pos n, e]
  simp only [z]
/-! what holds no ref is frozen already -/
mutual
def still : D → Bool
  | .tup l => stills l
  | .lst l => stills l
  | .ref _ => false
  | .dct _ => false
  | .ins _ _ => false
  | _ => true
def stills : List D → Bool
  | [] => true
  | d :: l => still d && stills l
end
mutual
theorem still_frz {g : Nat → Option D} : ∀ {d : D}, still d = true → frzD g d = some d
  | .non, _ => rfl
  | .bl _, _ => rfl
  | .int _, _ => rfl
  | .str _, _ => rfl
  | .scr _, _ => rfl
  | .tup l, h => by
    show (frzDs g l).map D.tup = _
    rw [stills_frz (show stills l = true from h)]; rfl
  | .lst l, h => by
    show (frzDs g l).map D.lst = _
    rw [stills_frz (show stills l = true from h)]; rfl
  | .ref _, h => by cases h
  | .dct _, h => by cases h
  | .ins _ _, h => by cases h
theorem stills_frz {g : Nat → Option D} : ∀ {l : List D}, stills l = true → frzDs g l = some l
  | [], _ => rfl
  | d :: l, h => by
    obtain ⟨h1, h2⟩ := Bool.and_eq_true_iff.mp (show (still d && stills l) = true from h)
    show (match frzD g d, frzDs g l with | some x, some xs => some (x :: xs) | _, _ => none) = _
    rw [still_frz h1, stills_frz h2]
end
theorem still_no {l : List D} (h : stills l = true) : noRefs l = true := by
  unfold noRefs
  rw [stills_frz h]
mutual
theorem pln_still : ∀ {n : Nat} {d : D}, pln n d = true → still d = true
  | _, .non, _ => rfl
  | _, .bl _, _ => rfl
  | _, .int _, _ => rfl
  | _, .str _, _ => rfl
  | n, .tup l, h => by
    unfold pln at h
    cases n with
    | zero => cases h
    | succ n => exact plns_still (n := n) h
  | n, .lst l, h => by
    unfold pln at h
    cases n with
    | zero => cases h
    | succ n => exact plns_still (n := n) h
  | _, .scr _, _ => rfl
  | _, .ref _, h => by unfold pln at h; cases h
  | _, .dct _, h => by unfold pln at h; cases h
  | _, .ins _ _, h => by unfold pln at h; cases h
theorem plns_still : ∀ {n : Nat} {l : List D}, plns n l = true → stills l = true
  | _, [], _ => rfl
  | n, d :: l, h => by
    unfold plns at h
    obtain ⟨h1, h2⟩ := Bool.and_eq_true_iff.mp h
    show (still d && stills l) = true
    rw [pln_still h1, plns_still h2]; rfl
end
theorem pure_pln {f : FC} {ds : List D} {h h' : Hh} {d : D} {n m : Nat} (c : plns n ds = true) (e : f ds [] = .ok d h') (z : pln m d = true) : pureC f ds h = .ok d h :=
  pure_ok (still_no (plns_still c)) e (still_frz (pln_still z))
/-- a comprehension over ints -/
theorem compL_ints {g : Tg} {t : F Bool} {f : F D} {e : En} {h : Hh} {α : Type} {φ : α → D} {ψ : α → D} : ∀ {l : List α}, (∀ a ∈ l, ∃ e1, bindT g (φ a) e = some e1 ∧ t e1 h = .ok true h ∧ f e1 h = .ok (ψ a) h) → compL g t f (l.map φ) e h = some (l.map ψ, h)
  | [], _ => rfl
  | a :: l, q => by
    obtain ⟨e1, b, c, d⟩ := q a List.mem_cons_self
    rw [List.map_cons]
    unfold compL
    rw [b]
    simp only [c, d, if_true]
    rw [compL_ints fun x hx => q x (List.mem_cons_of_mem _ hx)]
    rfl
/-! ### loops by an invariant -/
theorem forL_cons {g : Tg} {b : FS} {d : D} {l : List D} {e e1 e2 : En} {h h2 : Hh} (q : bindT g d e = some e1) (r : b e1 h = .nx e2 h2) : forL g b (d :: l) e h = forL g b l e2 h2 := by
  show (match bindT g d e with | some e1 => (match b e1 h with | .nx e2 h2 => forL g b l e2 h2 | .ct e2 h2 => forL g b l e2 h2 | .bk e2 h2 => .nx e2 h2 | r => r) | none => .fail) = _
  rw [q]
  simp only [r]
theorem forL_ind {g : Tg} {b : FS} : ∀ {l : List D} {I : Nat → En → Hh → Prop}, (∀ i d e h, l[i]? = some d → I i e h → ∃ e1, bindT g d e = some e1 ∧ ∃ e2 h2, b e1 h = .nx e2 h2 ∧ I (i + 1) e2 h2) → ∀ {e : En} {h : Hh}, I 0 e h → ∃ e' h', forL g b l e h = .nx e' h' ∧ I l.length e' h'
  | [], I, _, e, h, h0 => ⟨e, h, rfl, h0⟩
  | d :: l, I, st, e, h, h0 => by
    obtain ⟨e1, q, e2, h2, r, h1⟩ := st 0 d e h rfl h0
    obtain ⟨e', h', a, c⟩ := forL_ind (l := l) (I := fun i => I (i + 1)) (fun i d e h z => st (i + 1) d e h (by simpa using z)) h1
    exact ⟨e', h', (forL_cons q r).trans a, c⟩
theorem forL_rng {g : Tg} {b : FS} {lo : Int} {n : Nat} {I : Nat → En → Hh → Prop} (st : ∀ i e h, i < n → I i e h → ∃ e1, bindT g (.int (lo + i)) e = some e1 ∧ ∃ e2 h2, b e1 h = .nx e2 h2 ∧ I (i + 1) e2 h2) {e : En} {h : Hh} (h0 : I 0 e h) :
    ∃ e' h', forL g b (rngL lo n) e h = .nx e' h' ∧ I n e' h' := by
  have z := forL_ind (l := rngL lo n) (I := I) (g := g) (b := b) (fun i d e h hd hi => by
    rw [rngL_at] at hd
    split at hd
    · rename_i c
      cases hd
      exact st i e h c hi
    · cases hd) h0
  rw [rngL_len] at z
  exact z
/-- .. that may return -/
def Ends2 (r : RS) (N : En → Hh → Prop) (Q : D → Hh → Prop) : Prop := match r with
  | .nx e h => N e h
  | .rt d h => Q d h
  | _ => False
theorem forL_ret {g : Tg} {b : FS} {Q : D → Hh → Prop} : ∀ {l : List D} {I : Nat → En → Hh → Prop}, (∀ i d e h, l[i]? = some d → I i e h → ∃ e1, bindT g d e = some e1 ∧ Ends2 (b e1 h) (I (i + 1)) Q) → ∀ {e : En} {h : Hh}, I 0 e h → Ends2 (forL g b l e h) (I l.length) Q
  | [], I, _, e, h, h0 => h0
  | d :: l, I, st, e, h, h0 => by
    obtain ⟨e1, q, r⟩ := st 0 d e h rfl h0
    have ef : forL g b (d :: l) e h = (match b e1 h with | .nx e2 h2 => forL g b l e2 h2 | .ct e2 h2 => forL g b l e2 h2 | .bk e2 h2 => .nx e2 h2 | r => r) := by
      show (match bindT g d e with | some e1 => (match b e1 h with | .nx e2 h2 => forL g b l e2 h2 | .ct e2 h2 => forL g b l e2 h2 | .bk e2 h2 => .nx e2 h2 | r => r) | none => .fail) = _
      rw [q]
    rw [ef]
    cases e0 : b e1 h with
    | nx e2 h2 =>
      rw [e0] at r
      exact forL_ret (l := l) (I := fun i => I (i + 1)) (fun i d e h z => st (i + 1) d e h (by simpa using z)) r
    | rt d2 h2 => rw [e0] at r; exact r
    | bk _ _ => rw [e0] at r; exact r.elim
    | ct _ _ => rw [e0] at r; exact r.elim
    | exc _ _ _ _ => rw [e0] at r; exact r.elim
    | fail => rw [e0] at r; exact r.elim
theorem rngL_mem {lo : Int} {n : Nat} {d : D} (h : d ∈ rngL lo n) : ∃ i : Nat, i < n ∧ d = .int (lo + i) := by
  obtain ⟨i, hi, e⟩ := List.mem_iff_getElem.mp h
  rw [rngL_len] at hi
  have z := rngL_at n i lo
  rw [if_pos hi, List.getElem?_eq_getElem (by rw [rngL_len]; exact hi), e] at z
  exact ⟨i, hi, Option.some.inj z⟩
theorem compL_ex {g : Tg} {t : F Bool} {f : F D} {e : En} {h : Hh} {α : Type} {φ : α → D} {P : α → Prop} : ∀ {l : List D}, (∀ d ∈ l, ∃ e1, bindT g d e = some e1 ∧ t e1 h = .ok true h ∧ ∃ a, f e1 h = .ok (φ a) h ∧ P a) → ∃ as : List α, compL g t f l e h = some (as.map φ, h) ∧ as.length = l.length ∧ ∀ a ∈ as, P a
  | [], _ => ⟨[], rfl, rfl, fun a ha => by cases ha⟩
  | d :: l, q => by
    obtain ⟨e1, b, c, a, r, p⟩ := q d List.mem_cons_self
    obtain ⟨as, e2, e3, e4⟩ := compL_ex (l := l) fun x hx => q x (List.mem_cons_of_mem _ hx)
    refine ⟨a :: as, ?_, by rw [List.length_cons, List.length_cons, e3], fun x hx => ?_⟩
    · unfold compL
      rw [b]
      simp only [c, r, if_true]
      rw [e2]
      rfl
    · rcases List.mem_cons.mp hx with rfl | hx
      · exact p
      · exact e4 x hx
/-! ### isinstance -/
theorem is_bl_non (h : Hh) : isiD .bl h .non = some (.bl false) := rfl
theorem is_bl_bl (h : Hh) (b : Bool) : isiD .bl h (.bl b) = some (.bl true) := rfl
theorem is_bl_int (h : Hh) (i : Int) : isiD .bl h (.int i) = some (.bl false) := rfl
theorem is_bl_str (h : Hh) (x : Str) : isiD .bl h (.str x) = some (.bl false) := rfl
theorem is_bl_tup (h : Hh) (l : List D) : isiD .bl h (.tup l) = some (.bl false) := rfl
theorem is_bl_lst (h : Hh) (l : List D) : isiD .bl h (.lst l) = some (.bl false) := rfl
theorem is_bl_dct (h : Hh) (l : List (Key × D)) : isiD .bl h (.dct l) = some (.bl false) := rfl
theorem is_int_non (h : Hh) : isiD .int h .non = some (.bl false) := rfl
theorem is_int_bl (h : Hh) (b : Bool) : isiD .int h (.bl b) = some (.bl true) := rfl
theorem is_int_int (h : Hh) (i : Int) : isiD .int h (.int i) = some (.bl true) := rfl
theorem is_int_str (h : Hh) (x : Str) : isiD .int h (.str x) = some (.bl false) := rfl
theorem is_int_tup (h : Hh) (l : List D) : isiD .int h (.tup l) = some (.bl false) := rfl
theorem is_int_lst (h : Hh) (l : List D) : isiD .int h (.lst l) = some (.bl false) := rfl
theorem is_int_dct (h : Hh) (l : List (Key × D)) : isiD .int h (.dct l) = some (.bl false) := rfl
theorem is_str_non (h : Hh) : isiD .str h .non = some (.bl false) := rfl
theorem is_str_bl (h : Hh) (b : Bool) : isiD .str h (.bl b) = some (.bl false) := rfl
theorem is_str_int (h : Hh) (i : Int) : isiD .str h (.int i) = some (.bl false) := rfl
theorem is_str_str (h : Hh) (x : Str) : isiD .str h (.str x) = some (.bl true) := rfl
theorem is_str_tup (h : Hh) (l : List D) : isiD .str h (.tup l) = some (.bl false) := rfl
theorem is_str_lst (h : Hh) (l : List D) : isiD .str h (.lst l) = some (.bl false) := rfl
theorem is_str_dct (h : Hh) (l : List (Key × D)) : isiD .str h (.dct l) = some (.bl false) := rfl
theorem is_tup_non (h : Hh) : isiD .tup h .non = some (.bl false) := rfl
theorem is_tup_bl (h : Hh) (b : Bool) : isiD .tup h (.bl b) = some (.bl false) := rfl
theorem is_tup_int (h : Hh) (i : Int) : isiD .tup h (.int i) = some (.bl false) := rfl
theorem is_tup_str (h : Hh) (x : Str) : isiD .tup h (.str x) = some (.bl false) := rfl
theorem is_tup_tup (h : Hh) (l : List D) : isiD .tup h (.tup l) = some (.bl true) := rfl
theorem is_tup_lst (h : Hh) (l : List D) : isiD .tup h (.lst l) = some (.bl false) := rfl
theorem is_tup_dct (h : Hh) (l : List (Key × D)) : isiD .tup h (.dct l) = some (.bl false) := rfl
theorem is_lst_non (h : Hh) : isiD .lst h .non = some (.bl false) := rfl
theorem is_lst_bl (h : Hh) (b : Bool) : isiD .lst h (.bl b) = some (.bl false) := rfl
theorem is_lst_int (h : Hh) (i : Int) : isiD .lst h (.int i) = some (.bl false) := rfl
theorem is_lst_str (h : Hh) (x : Str) : isiD .lst h (.str x) = some (.bl false) := rfl
theorem is_lst_tup (h : Hh) (l : List D) : isiD .lst h (.tup l) = some (.bl false) := rfl
theorem is_lst_lst (h : Hh) (l : List D) : isiD .lst h (.lst l) = some (.bl true) := rfl
theorem is_lst_dct (h : Hh) (l : List (Key × D)) : isiD .lst h (.dct l) = some (.bl false) := rfl
theorem is_dct_non (h : Hh) : isiD .dct h .non = some (.bl false) := rfl
theorem is_dct_bl (h : Hh) (b : Bool) : isiD .dct h (.bl b) = some (.bl false) := rfl
theorem is_dct_int (h : Hh) (i : Int) : isiD .dct h (.int i) = some (.bl false) := rfl
theorem is_dct_str (h : Hh) (x : Str) : isiD .dct h (.str x) = some (.bl false) := rfl
theorem is_dct_tup (h : Hh) (l : List D) : isiD .dct h (.tup l) = some (.bl false) := rfl
theorem is_dct_lst (h : Hh) (l : List D) : isiD .dct h (.lst l) = some (.bl false) := rfl
theorem is_dct_dct (h : Hh) (l : List (Key × D)) : isiD .dct h (.dct l) = some (.bl true) := rfl
/-! ### more ends -/
theorem bind_if {α β : Type} (c : Prop) [Decidable c] (x y : R α) (k : α → Hh → R β) : (if c then x else y).bind k = if c then x.bind k else y.bind k := by split <;> rfl
theorem st_if {α : Type} (c : Prop) [Decidable c] (x y : R α) (e : En) (k : α → Hh → RS) : (if c then x else y).st e k = if c then x.st e k else y.st e k := by split <;> rfl
def tryR (r : RS) (l : List DCl) : RS := match r with
  | .exc c fs e h => runCl l c fs e h
  | r => r
theorem try_then (b : FS) (l : List DCl) (e : En) (h : Hh) : sTryN b l e h = tryR (b e h) l := by
  unfold sTryN tryR
  cases b e h <;> rfl
theorem try_nx (e : En) (h : Hh) (l : List DCl) : tryR (.nx e h) l = .nx e h := rfl
theorem try_rt (d : D) (h : Hh) (l : List DCl) : tryR (.rt d h) l = .rt d h := rfl
theorem try_exc (c : Nat) (fs : List (Str × D)) (e : En) (h : Hh) (l : List DCl) : tryR (.exc c fs e h) l = runCl l c fs e h := rfl
theorem try_if (c : Prop) [Decidable c] (x y : RS) (l : List DCl) : tryR (if c then x else y) l = if c then tryR x l else tryR y l := by split <;> rfl
def handR (i : Option Nat) (r : RS) : RS := match r with
  | .nx e1 h1 => .nx (fitE i e1) h1
  | .bk e1 h1 => .bk (fitE i e1) h1
  | .ct e1 h1 => .ct (fitE i e1) h1
  | .rt d h1 => .rt d h1
  | _ => .fail
theorem hand_nx (i : Option Nat) (e : En) (h : Hh) : handR i (.nx e h) = .nx (fitE i e) h := rfl
theorem hand_rt (i : Option Nat) (d : D) (h : Hh) : handR i (.rt d h) = .rt d h := rfl
theorem hand_if (c : Prop) [Decidable c] (i : Option Nat) (x y : RS) : handR i (if c then x else y) = if c then handR i x else handR i y := by split <;> rfl
def runQ (q : Option (Option FS)) (i : Option Nat) (l : List DCl) (c : Nat) (e : En) (h : Hh) : RS := match q with
  | some (some s) => handR i (s (fitE i e) h)
  | some none => runCl l c [] e h
  | none => .fail
theorem run_cons (i : Option Nat) (su : Nat → Option (Option FS)) (l : List DCl) (c : Nat) (e : En) (h : Hh) : runCl (⟨i, su⟩ :: l) c [] e h = runQ (su c) i l c e h := by
  show (match su c with | some (some s) => if ([] : List (Str × D)).isEmpty = true then (match calmS s (fitE i e) h with | .nx e1 h1 => RS.nx (fitE i e1) h1 | .bk e1 h1 => .bk (fitE i e1) h1 | .ct e1 h1 => .ct (fitE i e1) h1 | r => r) else .fail | some none => runCl l c [] e h | none => .fail) = _
  unfold runQ handR calmS
  cases su c with
  | none => rfl
  | some o =>
    cases o with
    | none => rfl
    | some s =>
      simp only [List.isEmpty_nil, if_true]
      cases s (fitE i e) h <;> rfl
theorem runQ_yes (s : FS) (i : Option Nat) (l : List DCl) (c : Nat) (e : En) (h : Hh) : runQ (some (some s)) i l c e h = handR i (s (fitE i e) h) := rfl
theorem runQ_no (i : Option Nat) (l : List DCl) (c : Nat) (e : En) (h : Hh) : runQ (some none) i l c e h = runCl l c [] e h := rfl
theorem run_nil (c : Nat) (fs : List (Str × D)) (e : En) (h : Hh) : runCl [] c fs e h = .exc c fs e h := rfl
theorem fit_none (e : En) : fitE none e = e := rfl
theorem fit_some (i : Nat) (e : En) : fitE (some i) e = e.set i none := rfl
theorem i_is (h : Hh) (x : D) : cmpD .Is h x .non = some (.bl (isNon x)) := rfl
theorem i_isnot (h : Hh) (x : D) : cmpD .IsNot h x .non = some (.bl (!isNon x)) := rfl
theorem non_non : isNon .non = true := rfl
theorem non_tup (l : List D) : isNon (.tup l) = false := rfl
theorem non_int (l : Int) : isNon (.int l) = false := rfl
/-! ### comprehensions over one name -/
theorem comp_one {f x : F D} {j : Nat} {e : En} {h h1 : Hh} {d : D} {l : List D} {α : Type} {φ : D → D} (q : f e h = .ok d h1) (hd : frzL d = some l) (hl : l.length ≤ 16777216) (hx : ∀ d ∈ l, x ((wipeE e [j]).set j (some d)) h1 = .ok (φ d) h1) :
    dComp (iSeq f) (.nm j) bYes x [j] e h = .ok (.lst (l.map φ)) h1 := comp_seq q hd (decide_eq_true hl) (compL_map fun d hm => ⟨_, rfl, rfl, hx d hm⟩)
theorem comp_map {f x : F D} {j : Nat} {e : En} {h h1 : Hh} {d : D} {α : Type} {l : List α} {φ ψ : α → D} (q : f e h = .ok d h1) (hd : frzL d = some (l.map φ)) (hl : l.length ≤ 16777216) (hx : ∀ a ∈ l, x ((wipeE e [j]).set j (some (φ a))) h1 = .ok (ψ a) h1) :
    dComp (iSeq f) (.nm j) bYes x [j] e h = .ok (.lst (l.map ψ)) h1 := comp_seq q hd (decide_eq_true (by rw [List.length_map]; exact hl)) (compL_ints fun a hm => ⟨_, rfl, rfl, hx a hm⟩)
theorem all_map {h : Hh} {α : Type} {f : α → Bool} {l : List α} : bAll h [.lst (l.map fun a => .bl (f a))] = some (.bl (l.all f)) := by
  have z := all_lst (h := h) (l := l.map f)
  rw [List.map_map] at z
  have e : (l.map f).all id = l.all f := by rw [List.all_map]; rfl
  rw [e] at z
  exact z
/-! ### the stands' words -/
def inB (m : Int) : D → Bool
  | .int i => decide (0 ≤ i) && decide (i ≤ m)
  | _ => false
theorem inB_int {m : Int} {d : D} (h : inB m d = true) : ∃ i : Int, d = .int i ∧ 0 ≤ i ∧ i ≤ m := by
  cases d with
  | int i =>
    simp only [inB, Bool.and_eq_true, decide_eq_true_eq] at h
    exact ⟨i, rfl, h.1, h.2⟩
  | _ => cases h
def tieB : D → Bool
  | .tup [p, a, w, d] => inB 1 p && (inB 1000000000000 a && (!inB 0 a && (inB 59 w && inB 1000000 d)))
  | _ => false
def sharesB : D → Bool
  | .tup [a, b] => inB 2000000000000 a && inB 2000000000000 b
  | _ => false
def wordI : D → Int
  | .tup [_, _, .int w, _] => w
  | _ => 0
def tiesB : D → Bool
  | .tup l => decide (l.length ≤ 6) && (l.all tieB && (l.map wordI).all fun w => decide ((l.map wordI).count w = 1))
  | _ => false
def standB : D → Bool
  | .tup [n, s, t] => inB 1000000 n && (sharesB s && tiesB t)
  | _ => false
theorem tieB_at {d : D} (h : tieB d = true) : ∃ p a w y : Int, d = .tup [.int p, .int a, .int w, .int y] ∧ (0 ≤ p ∧ p ≤ 1) ∧ (1 ≤ a ∧ a ≤ 1000000000000) ∧ (0 ≤ w ∧ w ≤ 59) ∧ (0 ≤ y ∧ y ≤ 1000000) := by
  unfold tieB at h
  split at h
  · simp only [Bool.and_eq_true, Bool.not_eq_true'] at h
    obtain ⟨h1, h2, h3, h4, h5⟩ := h
    obtain ⟨p, rfl, p1, p2⟩ := inB_int h1
    obtain ⟨a, rfl, a1, a2⟩ := inB_int h2
    obtain ⟨w, rfl, w1, w2⟩ := inB_int h4
    obtain ⟨y, rfl, y1, y2⟩ := inB_int h5
    refine ⟨p, a, w, y, rfl, ⟨p1, p2⟩, ⟨?_, a2⟩, ⟨w1, w2⟩, ⟨y1, y2⟩⟩
    simp only [inB, Bool.and_eq_false_iff, decide_eq_false_iff_not] at h3
    omega
  · cases h
theorem compL_rngx {g : Tg} {t : F Bool} {f : F D} {e : En} {h : Hh} {α : Type} {φ : α → D} : ∀ {n : Nat} {lo : Int} {P : Nat → α → Prop}, (∀ i : Nat, i < n → ∃ e1, bindT g (.int (lo + i)) e = some e1 ∧ t e1 h = .ok true h ∧ ∃ a, f e1 h = .ok (φ a) h ∧ P i a) →
    ∃ as : List α, compL g t f (rngL lo n) e h = some (as.map φ, h) ∧ as.length = n ∧ ∀ (i : Nat) (hi : i < as.length), P i as[i]
  | 0, lo, P, _ => ⟨[], rfl, rfl, fun i hi => by simp at hi⟩
  | n + 1, lo, P, q => by
    obtain ⟨e1, b, c, a, r, p⟩ := q 0 (Nat.succ_pos n)
    obtain ⟨as, e2, e3, e4⟩ := compL_rngx (n := n) (lo := lo + 1) (P := fun i => P (i + 1)) fun i hi => by
      have z := q (i + 1) (by omega)
      rw [show lo + ((i + 1 : Nat) : Int) = lo + 1 + i by omega] at z
      exact z
    have b0 : bindT g (.int lo) e = some e1 := by
      rw [← b]
      congr 2
      omega
    refine ⟨a :: as, ?_, by rw [List.length_cons, e3], fun i hi => ?_⟩
    · unfold rngL compL
      rw [b0]
      simp only [c, r, if_true]
      rw [e2]
      rfl
    · cases i with
      | zero => exact p
      | succ i => exact e4 i (by simpa using hi)
theorem compL_filter {g : Tg} {t : F Bool} {f : F D} {e : En} {h : Hh} {α : Type} {φ ψ : α → D} {p : α → Bool} : ∀ {l : List α}, (∀ a ∈ l, ∃ e1, bindT g (φ a) e = some e1 ∧ t e1 h = .ok (p a) h ∧ f e1 h = .ok (ψ a) h) → compL g t f (l.map φ) e h = some ((l.filter p).map ψ, h)
  | [], _ => rfl
  | a :: l, q => by
    obtain ⟨e1, b, c, d⟩ := q a List.mem_cons_self
    have ih := compL_filter (l := l) fun x hx => q x (List.mem_cons_of_mem _ hx)
    rw [List.map_cons]
    unfold compL
    rw [b]
    cases pa : p a with
    | true =>
      rw [pa] at c
      simp only [c, d, if_true]
      rw [ih, List.filter_cons_of_pos pa]
      rfl
    | false =>
      rw [pa] at c
      simp only [c, Bool.false_eq_true, if_false]
      rw [ih, List.filter_cons_of_neg (by rw [pa]; exact Bool.false_ne_true)]
theorem comp_filter {f x : F D} {t : F Bool} {j : Nat} {e : En} {h h1 : Hh} {d : D} {α : Type} {l : List α} {φ ψ : α → D} {p : α → Bool} (q : f e h = .ok d h1) (hd : frzL d = some (l.map φ)) (hl : l.length ≤ 16777216) (ht : ∀ a ∈ l, t ((wipeE e [j]).set j (some (φ a))) h1 = .ok (p a) h1) (hx : ∀ a ∈ l, x ((wipeE e [j]).set j (some (φ a))) h1 = .ok (ψ a) h1) :
    dComp (iSeq f) (.nm j) t x [j] e h = .ok (.lst ((l.filter p).map ψ)) h1 := comp_seq q hd (decide_eq_true (by rw [List.length_map]; exact hl)) (compL_filter fun a hm => ⟨_, rfl, ht a hm, hx a hm⟩)
theorem mul_lst {h : Hh} {l : List D} {k : Int} (c : 0 ≤ k ∧ k ≤ 1000 ∧ l.length ≤ 1000) : opMul h (.lst l) (.int k) = some (.lst (List.replicate k.toNat l).flatten) := by
  show (if 0 ≤ k ∧ k ≤ 1000 ∧ l.length ≤ 1000 then some (D.lst (List.replicate k.toNat l).flatten) else none) = _
  rw [if_pos c]
end Sb

/-! Sb17: running: instances, methods, dicts. -/
namespace Sb
open L2 PySem PySem.Spec PyProof.Rows
theorem insAt_ins (h : Hh) (c : Nat) (fs : List (Str × D)) : insAt h (.ins c fs) = some (c, fs) := rfl
theorem insAt_ref {h : Hh} {i c : Nat} {fs : List (Str × D)} (e : h[i]? = some (.ins c fs)) : insAt h (.ref i) = some (c, fs) := by
  unfold insAt
  simp only [e]
theorem still_id {g : Nat → Option D} {d : D} (h : still d = true) : frzD g d = some d := still_frz h
theorem noRef_id {g : Nat → Option D} {d : D} (h : noRef d = true) : frzD g d = some d := by
  unfold noRef at h
  cases e : frzD (fun _ => none) d with
  | none => rw [e] at h; cases h
  | some x => exact frzD_id e
theorem noRef_still {d : D} (h : still d = true) : noRef d = true := by
  unfold noRef
  rw [still_frz h]
theorem frzDf_no {g : Nat → Option D} : ∀ {fs : List (Str × D)}, (∀ p ∈ fs, noRef p.2 = true) → frzDf g fs = some fs
  | [], _ => rfl
  | (f, d) :: l, h => by
    have h1 := noRef_id (g := g) (h _ List.mem_cons_self)
    have h2 := frzDf_no (g := g) (fs := l) fun p hp => h p (List.mem_cons_of_mem _ hp)
    show (match frzD g d, frzDf g l with | some x, some xs => some ((f, x) :: xs) | _, _ => none) = _
    rw [show frzD g d = some d from h1, h2]
theorem frzDs_no {g : Nat → Option D} : ∀ {fs : List D}, (∀ p ∈ fs, noRef p = true) → frzDs g fs = some fs
  | [], _ => rfl
  | d :: l, h => by
    have h1 := noRef_id (g := g) (h _ List.mem_cons_self)
    have h2 := frzDs_no (g := g) (fs := l) fun p hp => h p (List.mem_cons_of_mem _ hp)
    show (match frzD g d, frzDs g l with | some x, some xs => some (x :: xs) | _, _ => none) = _
    rw [h1, h2]
theorem noRefs_of {l : List D} (h : ∀ p ∈ l, noRef p = true) : noRefs l = true := by
  unfold noRefs
  rw [frzDs_no h]
theorem noRef_ins {c : Nat} {fs : List (Str × D)} (h : ∀ p ∈ fs, noRef p.2 = true) : noRef (.ins c fs) = true := by
  unfold noRef
  show (match (frzDf (fun _ => none) fs).map (D.ins c) with | some _ => true | none => false) = true
  rw [frzDf_no h]; rfl
theorem noRef_tup {l : List D} (h : ∀ p ∈ l, noRef p = true) : noRef (.tup l) = true := by
  unfold noRef
  show (match (frzDs (fun _ => none) l).map D.tup with | some _ => true | none => false) = true
  rw [frzDs_no h]; rfl
theorem noRef_lst {l : List D} (h : ∀ p ∈ l, noRef p = true) : noRef (.lst l) = true := by
  unfold noRef
  show (match (frzDs (fun _ => none) l).map D.lst with | some _ => true | none => false) = true
  rw [frzDs_no h]; rfl
theorem frzDk_no {g : Nat → Option D} : ∀ {fs : List (Key × D)}, (∀ p ∈ fs, noRef p.2 = true) → frzDk g fs = some fs
  | [], _ => rfl
  | (f, d) :: l, h => by
    have h1 := noRef_id (g := g) (h _ List.mem_cons_self)
    have h2 := frzDk_no (g := g) (fs := l) fun p hp => h p (List.mem_cons_of_mem _ hp)
    show (match frzD g d, frzDk g l with | some x, some xs => some ((f, x) :: xs) | _, _ => none) = _
    rw [show frzD g d = some d from h1, h2]
theorem noRef_dct {l : List (Key × D)} (h : ∀ p ∈ l, noRef p.2 = true) : noRef (.dct l) = true := by
  unfold noRef
  show (match (frzDk (fun _ => none) l).map D.dct with | some _ => true | none => false) = true
  rw [frzDk_no h]; rfl
/-- an object that is made and then never changed -/
theorem mkP_of {c : Nat} {f : FC} {dd ds : List D} {h : Hh} {fs : List (Str × D)} (hn : ∀ p ∈ ds, noRef p = true) (e : mkC c f dd ds [] = .ok (.ref 0) [.ins c fs]) (hf : ∀ p ∈ fs, noRef p.2 = true) : mkP c f dd ds h = .ok (.ins c fs) h := by
  unfold mkP
  refine pure_ok (noRefs_of hn) e ?_
  show (frzDf (frzN 7 [.ins c fs]) fs).map (D.ins c) = _
  rw [frzDf_no hf]; rfl
theorem pure_no {f : FC} {ds : List D} {h h' : Hh} {d : D} (n : ∀ p ∈ ds, noRef p = true) (e : f ds [] = .ok d h') (z : noRef d = true) : pureC f ds h = .ok d h :=
  pure_ok (noRefs_of n) e (noRef_id z)
/-- a pure call that reads what the small heap holds -/
theorem pure_rd {f : FC} {ds ds' : List D} {h h' : Hh} {d : D} (n : noRefs ds = false) (r : frzDs (frzN 8 h) ds = some ds') (e : f ds' [] = .ok d h') (z : immD d = true) : pureC f ds h = .ok d h := by
  unfold pureC
  rw [if_neg (by rw [n]; simp), r]
  simp only [e]
  rw [if_pos z]
theorem pure_nf {f : FC} {ds ds' : List D} {h h' : Hh} {d d' : D} (n : noRefs ds = false) (r : frzDs (frzN 8 h) ds = some ds') (e : f ds' [] = .ok d h') (im : immD d = false) (nf : (h'.all nfO && nfD d) = true) (z : frz h' d = some d') : pureC f ds h = .ok d' h := by
  unfold pureC
  rw [if_neg (by rw [n]; simp), r]
  simp only [e]
  rw [if_neg (by rw [im]; simp), if_pos nf]
  simp only [z]
theorem pure_rdx {f : FC} {ds ds' : List D} {h h' : Hh} {c : Nat} (n : noRefs ds = false) (r : frzDs (frzN 8 h) ds = some ds') (e : f ds' [] = .exc c [] h') : pureC f ds h = .exc c [] h := by
  unfold pureC
  rw [if_neg (by rw [n]; simp), r]
  simp only [e]
/-! ### min, max of two -/
theorem min2 (h : Hh) (i j : Int) : bMin h [.int i, .int j] = some (.int (min i j)) := by
  show some (D.int (if j < i then j else i)) = _
  by_cases c : j < i
  · rw [if_pos c, Int.min_eq_right (Int.le_of_lt c)]
  · rw [if_neg c, Int.min_eq_left (by omega)]
theorem max2 (h : Hh) (i j : Int) : bMax h [.int i, .int j] = some (.int (max i j)) := by
  show some (D.int (if j > i then j else i)) = _
  by_cases c : j > i
  · rw [if_pos c, Int.max_eq_right (Int.le_of_lt c)]
  · rw [if_neg c, Int.max_eq_left (by omega)]
/-! ### is, is not of a bool -/
theorem is_bl (h : Hh) (a b : Bool) : cmpD .Is h (.bl a) (.bl b) = some (.bl (a == b)) := rfl
theorem isnot_bl (h : Hh) (a b : Bool) : cmpD .IsNot h (.bl a) (.bl b) = some (.bl (!(a == b))) := rfl
theorem bl_eq (h : Hh) (a b : Bool) : cmpD .Eq h (.bl a) (.bl b) = some (.bl (a == b)) := eq_pln rfl rfl
theorem bl_ne (h : Hh) (a b : Bool) : cmpD .NotEq h (.bl a) (.bl b) = some (.bl (!(a == b))) := ne_pln rfl rfl
/-! ### plain data, == -/
theorem pln_non (n : Nat) : pln n .non = true := by cases n <;> rfl
theorem pln_bl (n : Nat) (b : Bool) : pln n (.bl b) = true := by cases n <;> rfl
theorem pln_int (n : Nat) (b : Int) : pln n (.int b) = true := by cases n <;> rfl
theorem pln_str {n : Nat} {x : Str} (h : PyData.strOk x = true) : pln n (.str x) = true := by cases n <;> exact h
theorem pln_tupp (n : Nat) (l : List D) (h : 0 < n) : pln n (.tup l) = plns (n - 1) l := by cases n with
  | zero => omega
  | succ n => rfl
theorem pln_lstt (n : Nat) (l : List D) (h : 0 < n) : pln n (.lst l) = plns (n - 1) l := by cases n with
  | zero => omega
  | succ n => rfl
theorem plns_nil (n : Nat) : plns n [] = true := by cases n <;> rfl
theorem plns_cons (n : Nat) (d : D) (l : List D) : plns n (d :: l) = (pln n d && plns n l) := by cases n <;> rfl
theorem eqB_int (i j : Int) : eqB (.int i) (.int j) = decide (i = j) := rfl
theorem eqB_str (i j : Str) : eqB (.str i) (.str j) = decide (i = j) := rfl
theorem eqB_bl (i j : Bool) : eqB (.bl i) (.bl j) = (i == j) := rfl
theorem eqB_tup (i j : List D) : eqB (.tup i) (.tup j) = eqBs i j := rfl
theorem eqB_lst (i j : List D) : eqB (.lst i) (.lst j) = eqBs i j := rfl
theorem eqB_nn : eqB .non .non = true := rfl
theorem eqB_ni (i : Int) : eqB .non (.int i) = false := rfl
theorem eqB_in (i : Int) : eqB (.int i) .non = false := rfl
theorem eqB_nt (i : List D) : eqB .non (.tup i) = false := rfl
theorem eqB_tn (i : List D) : eqB (.tup i) .non = false := rfl
theorem eqBs_nn : eqBs [] [] = true := rfl
theorem eqBs_cons (x y : D) (l m : List D) : eqBs (x :: l) (y :: m) = (eqB x y && eqBs l m) := rfl
theorem eqBs_nc (y : D) (m : List D) : eqBs [] (y :: m) = false := rfl
theorem eqBs_cn (y : D) (m : List D) : eqBs (y :: m) [] = false := rfl
theorem add_lstF {h : Hh} {a b : List D} (c : fits (a.length + b.length) = true) : opAdd h (.lst a) (.lst b) = some (.lst (a ++ b)) := by
  show (if fits (a.length + b.length) = true then some (D.lst (a ++ b)) else none) = _
  rw [if_pos c]
theorem add_tupF {h : Hh} {a b : List D} (c : fits (a.length + b.length) = true) : opAdd h (.tup a) (.tup b) = some (.tup (a ++ b)) := by
  show (if fits (a.length + b.length) = true then some (D.tup (a ++ b)) else none) = _
  rw [if_pos c]
/-! ### stores, dicts of the small heap -/
def stoD (x k y : D) (e : En) (h : Hh) : RS := match x with
  | .ref j => match h[j]? with
    | some (.lst l) => match k with
      | .int n => match ixN l.length n with
        | some m => .nx e (h.set j (.lst (l.set m y)))
        | none => .fail
      | _ => .fail
    | some (.dct l) => match keyD k with
      | some q => if l.length < 16777216 then .nx e (h.set j (.dct (putD l q y))) else .fail
      | none => .fail
    | _ => .fail
  | _ => .fail
theorem sub_E (o i v : F D) (e : En) (h : Hh) : sSub o i v e h = (v e h).st e fun y h1 => (o e h1).st e fun x h2 => (i e h2).st e fun k h3 => stoD x k y e h3 := rfl
theorem sto_lst {h : Hh} {j : Nat} {l : List D} {n : Int} {y : D} {e : En} (q : h[j]? = some (.lst l)) (hn : 0 ≤ n ∧ n < l.length) : stoD (.ref j) (.int n) y e h = .nx e (h.set j (.lst (l.set n.toNat y))) := by
  unfold stoD
  simp only [q]
  have z : ixN l.length n = some n.toNat := by
    unfold ixN
    split
    · rename_i c; simp_all
    · simp_all
  simp only [z]
theorem sto_dct {h : Hh} {j : Nat} {l : List (Key × D)} {n : Int} {y : D} {e : En} (q : h[j]? = some (.dct l)) (hl : l.length < 16777216) : stoD (.ref j) (.int n) y e h = .nx e (h.set j (.dct (putD l (.inl n) y))) := by
  unfold stoD
  simp only [q]
  show (if l.length < 16777216 then RS.nx e (h.set j (.dct (putD l (.inl n) y))) else .fail) = _
  rw [if_pos hl]
theorem asK_refK {h : Hh} {i : Nat} {l : List (Key × D)} (e : h[i]? = some (.dct l)) : asK h (.ref i) = some l := by
  show (match h[i]? with | some (.dct l) => some l | some (.lck (.dct l)) => some l | _ => none) = _
  rw [e]
theorem idx_refK {h : Hh} {i : Nat} {l : List (Key × D)} (e : h[i]? = some (.dct l)) (w : Int) : opIdx h (.ref i) (.int w) = valD l (.inl w) := by
  unfold opIdx
  simp only [asK_refK e]
  rfl
theorem in_refK {h : Hh} {i : Nat} {l : List (Key × D)} (e : h[i]? = some (.dct l)) (w : Int) : cmpD .In h (.int w) (.ref i) = some (.bl (valD l (.inl w)).isSome) := by
  show (inD h (.int w) (.ref i)).map D.bl = _
  have z : inD h (.int w) (.ref i) = some (valD l (.inl w)).isSome := by
    unfold inD
    simp only [asK_refK e]
    rfl
  rw [z]; rfl
theorem nin_refK {h : Hh} {i : Nat} {l : List (Key × D)} (e : h[i]? = some (.dct l)) (w : Int) : cmpD .NotIn h (.int w) (.ref i) = some (.bl (!(valD l (.inl w)).isSome)) := by
  show (inD h (.int w) (.ref i)).map (fun b => D.bl (!b)) = _
  have z : inD h (.int w) (.ref i) = some (valD l (.inl w)).isSome := by
    unfold inD
    simp only [asK_refK e]
    rfl
  rw [z]; rfl
theorem asK_dct (h : Hh) (l : List (Key × D)) : asK h (.dct l) = some l := rfl
theorem eq_dct {h : Hh} {x y : D} {l m : List (Key × D)} (hx : asK h x = some l) (hy : asK h y = some m) (hxn : eqD h x y = none) (e : eqKD l m = true) : cmpD .Eq h x y = some (.bl true) := by
  show (match eqD h x y with | some b => some (D.bl b) | none => (eqDK h x y).map fun b => D.bl b) = _
  rw [hxn]
  unfold eqDK
  rw [hx, hy]
  simp only [e, if_true]; rfl
theorem ne_dct {h : Hh} {x y : D} {l m : List (Key × D)} (hx : asK h x = some l) (hy : asK h y = some m) (hxn : eqD h x y = none) (e : eqKD l m = true) : cmpD .NotEq h x y = some (.bl false) := by
  show (match eqD h x y with | some b => some (D.bl (!b)) | none => (eqDK h x y).map fun b => D.bl (!b)) = _
  rw [hxn]
  unfold eqDK
  rw [hx, hy]
  simp only [e, if_true]; rfl
theorem eqD_dctl (h : Hh) (l : List (Key × D)) (y : D) : eqD h (.dct l) y = none := rfl
/-! ### loops, for simp -/
def forD (d : D) (g : Tg) (b : FS) (e : En) (h : Hh) : RS := if (asQ h d).isSome = true then forS (seqAt d) g b (lenQ h d) 0 e h else .fail
theorem for_seqE (f : F D) (g : Tg) (b : FS) (e : En) (h : Hh) : sFor (iSeq f) g b e h = (f e h).st e fun d h1 => forD d g b e h1 := by
  unfold sFor iSeq
  cases f e h with
  | ok d h1 =>
    rw [rb_ok, rst_ok]
    unfold forD
    by_cases c : (asQ h1 d).isSome = true
    · rw [if_pos c, if_pos c, rst_ok]
    · rw [if_neg c, if_neg c]; rfl
  | exc _ _ _ => rfl
  | fail => rfl
theorem forD_frz {d : D} {l : List D} (hl : frzL d = some l) (g : Tg) (b : FS) (e : En) (h : Hh) : forD d g b e h = forL g b l e h := by
  unfold forD
  rw [if_pos (asQ_frz hl h), len_frz hl, forS_L (seq_frz hl) l.length 0 e h (Nat.zero_add _)]
  rfl
theorem forD_tup (l : List D) (g : Tg) (b : FS) (e : En) (h : Hh) : forD (.tup l) g b e h = forL g b l e h := forD_frz rfl g b e h
theorem forD_lst (l : List D) (g : Tg) (b : FS) (e : En) (h : Hh) : forD (.lst l) g b e h = forL g b l e h := forD_frz rfl g b e h
theorem forD_scr (l : List Int) (g : Tg) (b : FS) (e : En) (h : Hh) : forD (.scr l) g b e h = forL g b (l.map .int) e h := forD_frz rfl g b e h
def forR1 (d : D) (g : Tg) (b : FS) (e : En) (h : Hh) : RS := sFor (iRange1 (dC d)) g b e h
theorem for_r1E (f : F D) (g : Tg) (b : FS) (e : En) (h : Hh) : sFor (iRange1 f) g b e h = (f e h).st e fun d h1 => forR1 d g b e h1 := by
  unfold sFor forR1 sFor iRange1
  cases f e h with
  | ok d h1 => rw [rb_ok, rst_ok]; rfl
  | exc _ _ _ => rfl
  | fail => rfl
theorem forR1_int {j : Int} (hj : -(2 ^ 62) ≤ j ∧ j < 2 ^ 62) (g : Tg) (b : FS) (e : En) (h : Hh) : forR1 (.int j) g b e h = forL g b (rngL 0 j.toNat) e h := for_rng1 rfl hj
def forR2 (d d' : D) (g : Tg) (b : FS) (e : En) (h : Hh) : RS := sFor (iRange2 (dC d) (dC d')) g b e h
theorem for_r2E (f f' : F D) (g : Tg) (b : FS) (e : En) (h : Hh) : sFor (iRange2 f f') g b e h = (f e h).st e fun d h1 => (f' e h1).st e fun d' h2 => forR2 d d' g b e h2 := by
  unfold sFor forR2 sFor iRange2
  cases f e h with
  | ok d h1 =>
    rw [rb_ok, rst_ok]
    cases f' e h1 with
    | ok d' h2 => rw [rb_ok, rst_ok]; rfl
    | exc _ _ _ => rfl
    | fail => rfl
  | exc _ _ _ => rfl
  | fail => rfl
theorem forR2_int {i j : Int} (hj : -(2 ^ 62) ≤ i ∧ i < 2 ^ 62 ∧ -(2 ^ 62) ≤ j ∧ j < 2 ^ 62) (g : Tg) (b : FS) (e : En) (h : Hh) : forR2 (.int i) (.int j) g b e h = forL g b (rngL i (j - i).toNat) e h := for_rng2 rfl rfl hj
def forE (d : D) (g : Tg) (b : FS) (e : En) (h : Hh) : RS := sFor (iEnu (dC d)) g b e h
theorem for_enuE (f : F D) (g : Tg) (b : FS) (e : En) (h : Hh) : sFor (iEnu f) g b e h = (f e h).st e fun d h1 => forE d g b e h1 := by
  unfold sFor forE sFor iEnu
  cases f e h with
  | ok d h1 => rw [rb_ok, rst_ok]; rfl
  | exc _ _ _ => rfl
  | fail => rfl
/-- the items with their numbers -/
def enuL (l : List D) : List D := l.mapIdx fun i x => .tup [.int (i : Nat), x]
theorem forE_lst (l : List D) (g : Tg) (b : FS) (e : En) (h : Hh) : forE (.lst l) g b e h = forL g b (enuL l) e h := by
  have z := forS_L (a := enuAt (.lst l)) (l := enuL l) (fun h i => by
    show some (l[i]?.map fun x => D.tup [.int (i : Nat), x]) = some (enuL l)[i]?
    unfold enuL
    rw [List.getElem?_mapIdx]) (g := g) (b := b) (enuL l).length 0 e h (Nat.zero_add _)
  rw [List.drop_zero] at z
  rw [← z]
  unfold forE sFor iEnu
  show forS (enuAt (.lst l)) g b l.length 0 e h = _
  unfold enuL
  rw [List.length_mapIdx]
def zipL (l m : List D) : List D := List.zipWith (fun x y => .tup [x, y]) l m
def forZ (d d' : D) (g : Tg) (b : FS) (e : En) (h : Hh) : RS := sFor (iZip (dC d) (dC d')) g b e h
theorem for_zipE (f f' : F D) (g : Tg) (b : FS) (e : En) (h : Hh) : sFor (iZip f f') g b e h = (f e h).st e fun d h1 => (f' e h1).st e fun d' h2 => forZ d d' g b e h2 := by
  unfold sFor forZ sFor iZip
  cases f e h with
  | ok d h1 =>
    rw [rb_ok, rst_ok]
    cases f' e h1 with
    | ok d' h2 => rw [rb_ok, rst_ok]; rfl
    | exc _ _ _ => rfl
    | fail => rfl
  | exc _ _ _ => rfl
  | fail => rfl
theorem forZ_lst (l m : List D) (g : Tg) (b : FS) (e : En) (h : Hh) : forZ (.lst l) (.lst m) g b e h = forL g b (zipL l m) e h := by
  have z := forS_L (a := zipAt (.lst l) (.lst m)) (l := zipL l m) (fun h i => by
    show (match l[i]?, m[i]? with | some x, some y => some (some (D.tup [x, y])) | _, _ => some none) = some (zipL l m)[i]?
    unfold zipL
    rw [List.getElem?_zipWith]
    cases l[i]? <;> cases m[i]? <;> rfl) (g := g) (b := b) (zipL l m).length 0 e h (Nat.zero_add _)
  rw [List.drop_zero] at z
  rw [← z]
  unfold forZ sFor iZip
  show forS (zipAt (.lst l) (.lst m)) g b (min l.length m.length) 0 e h = _
  unfold zipL
  rw [List.length_zipWith]
theorem forL_nil (g : Tg) (b : FS) (e : En) (h : Hh) : forL g b [] e h = .nx e h := rfl
/-- one turn, then the others -/
def nextL (g : Tg) (b : FS) (l : List D) : RS → RS
  | .nx e2 h2 => forL g b l e2 h2
  | .ct e2 h2 => forL g b l e2 h2
  | .bk e2 h2 => .nx e2 h2
  | r => r
theorem forL_consE (g : Tg) (b : FS) (d : D) (l : List D) (e : En) (h : Hh) : forL g b (d :: l) e h = (match bindT g d e with | some e1 => nextL g b l (b e1 h) | none => .fail) := by
  show (match bindT g d e with | some e1 => (match b e1 h with | .nx e2 h2 => forL g b l e2 h2 | .ct e2 h2 => forL g b l e2 h2 | .bk e2 h2 => .nx e2 h2 | r => r) | none => .fail) = _
  cases bindT g d e with
  | none => rfl
  | some e1 =>
    show _ = nextL g b l (b e1 h)
    simp only
    cases b e1 h <;> rfl
theorem nextL_nx (g : Tg) (b : FS) (l : List D) (e : En) (h : Hh) : nextL g b l (.nx e h) = forL g b l e h := rfl
theorem nextL_ct (g : Tg) (b : FS) (l : List D) (e : En) (h : Hh) : nextL g b l (.ct e h) = forL g b l e h := rfl
theorem nextL_bk (g : Tg) (b : FS) (l : List D) (e : En) (h : Hh) : nextL g b l (.bk e h) = .nx e h := rfl
theorem nextL_rt (g : Tg) (b : FS) (l : List D) (e : D) (h : Hh) : nextL g b l (.rt e h) = .rt e h := rfl
theorem nextL_if (c : Prop) [Decidable c] (g : Tg) (b : FS) (l : List D) (x y : RS) : nextL g b l (if c then x else y) = if c then nextL g b l x else nextL g b l y := by split <;> rfl
/-- a loop that goes through, its state in the slots, the heap -/
theorem forL_fold {α β : Type} {g : Tg} {b : FS} {φ : α → D} {E : β → En} {Hf : β → Hh} {st : β → α → β} : ∀ {l : List α} {s : β}, (∀ s a, a ∈ l → ∃ e1, bindT g (φ a) (E s) = some e1 ∧ b e1 (Hf s) = .nx (E (st s a)) (Hf (st s a))) → forL g b (l.map φ) (E s) (Hf s) = .nx (E (l.foldl st s)) (Hf (l.foldl st s))
  | [], s, _ => rfl
  | a :: l, s, h => by
    obtain ⟨e1, h1, h2⟩ := h s a List.mem_cons_self
    rw [List.map_cons, forL_cons h1 h2, List.foldl_cons]
    exact forL_fold fun s x hx => h s x (List.mem_cons_of_mem _ hx)
/-- .. with a word that is kept -/
theorem forL_foldI {α β : Type} {g : Tg} {b : FS} {φ : α → D} {E : β → En} {Hf : β → Hh} {st : β → α → β} {I : β → Prop} : ∀ {l : List α} {s : β}, (∀ s a, a ∈ l → I s → ∃ e1, bindT g (φ a) (E s) = some e1 ∧ b e1 (Hf s) = .nx (E (st s a)) (Hf (st s a)) ∧ I (st s a)) → I s → forL g b (l.map φ) (E s) (Hf s) = .nx (E (l.foldl st s)) (Hf (l.foldl st s)) ∧ I (l.foldl st s)
  | [], s, _, i => ⟨rfl, i⟩
  | a :: l, s, h, i => by
    obtain ⟨e1, h1, h2, h3⟩ := h s a List.mem_cons_self i
    rw [List.map_cons, forL_cons h1 h2, List.foldl_cons]
    exact forL_foldI (fun s x hx => h s x (List.mem_cons_of_mem _ hx)) h3
/-! ### comprehensions, for simp -/
def compD (d : D) (g : Tg) (t : F Bool) (f : F D) (vs : List Nat) (e : En) (h : Hh) : R D := dComp (iSeq (dC d)) g t f vs e h
theorem comp_seqE (fs : F D) (g : Tg) (t : F Bool) (f : F D) (vs : List Nat) (e : En) (h : Hh) : dComp (iSeq fs) g t f vs e h = (fs e h).bind fun d h1 => compD d g t f vs e h1 := by
  unfold compD dComp iSeq
  cases fs e h with
  | ok d h1 => rw [rb_ok, rb_ok]; rfl
  | exc _ _ _ => rfl
  | fail => rfl
def endC : Option (List D × Hh) → R D
  | some (l, h) => .ok (.lst l) h
  | none => .fail
theorem compD_frz {d : D} {l : List D} (hl : frzL d = some l) (hf : fits l.length = true) (g : Tg) (t : F Bool) (f : F D) (vs : List Nat) (e : En) (h : Hh) : compD d g t f vs e h = endC (compL g t f l (wipeE e vs) h) := by
  unfold compD dComp iSeq
  rw [show dC d e h = .ok d h from rfl, rb_ok, if_pos (asQ_frz hl h), rb_ok]
  simp only
  rw [len_frz hl, if_pos hf, compS_L (seq_frz hl) l.length 0 _ h (Nat.zero_add _), List.drop_zero]
  cases compL g t f l (wipeE e vs) h with
  | none => rfl
  | some z => rfl
theorem compD_tup {l : List D} (hf : l.length ≤ 16777216) (g : Tg) (t : F Bool) (f : F D) (vs : List Nat) (e : En) (h : Hh) : compD (.tup l) g t f vs e h = endC (compL g t f l (wipeE e vs) h) := compD_frz rfl (decide_eq_true hf) g t f vs e h
theorem compD_lst {l : List D} (hf : l.length ≤ 16777216) (g : Tg) (t : F Bool) (f : F D) (vs : List Nat) (e : En) (h : Hh) : compD (.lst l) g t f vs e h = endC (compL g t f l (wipeE e vs) h) := compD_frz rfl (decide_eq_true hf) g t f vs e h
def compR1 (d : D) (g : Tg) (t : F Bool) (f : F D) (vs : List Nat) (e : En) (h : Hh) : R D := dComp (iRange1 (dC d)) g t f vs e h
theorem comp_r1E (fs : F D) (g : Tg) (t : F Bool) (f : F D) (vs : List Nat) (e : En) (h : Hh) : dComp (iRange1 fs) g t f vs e h = (fs e h).bind fun d h1 => compR1 d g t f vs e h1 := by
  unfold compR1 dComp iRange1
  cases fs e h with
  | ok d h1 => rw [rb_ok, rb_ok]; rfl
  | exc _ _ _ => rfl
  | fail => rfl
theorem compR1_int {j : Int} (hj : -(2 ^ 62) ≤ j ∧ j ≤ 16777216) (g : Tg) (t : F Bool) (f : F D) (vs : List Nat) (e : En) (h : Hh) : compR1 (.int j) g t f vs e h = endC (compL g t f (rngL 0 j.toNat) (wipeE e vs) h) := by
  unfold compR1 dComp iRange1
  rw [show dC (.int j) e h = .ok (.int j) h from rfl, rb_ok]
  simp only
  have hf : fits j.toNat = true := by unfold fits; exact decide_eq_true (by omega)
  rw [if_pos (by omega), rb_ok]
  simp only
  rw [if_pos hf, compS_L (rng_at 0 j.toNat) j.toNat 0 _ h (by rw [rngL_len]; omega), List.drop_zero]
  cases compL g t f (rngL 0 j.toNat) (wipeE e vs) h with
  | none => rfl
  | some z => rfl
theorem endC_some (l : List D) (h : Hh) : endC (some (l, h)) = .ok (.lst l) h := rfl
def endO : Option Bool → Hh → R D
  | some b, h => .ok (.bl b) h
  | none, _ => .fail
theorem endO_some (b : Bool) (h : Hh) : endO (some b) h = .ok (.bl b) h := rfl
theorem isx_E (i c : Nat) (t : List (Nat × Bool)) (e : En) (h : Hh) : dIsx (some (i, c)) i t e h = endO (t.lookup c) h := by
  unfold dIsx
  simp only [if_true]
  cases t.lookup c <;> rfl
theorem mul_tup {h : Hh} {l : List D} {k : Int} (c : 0 ≤ k ∧ k ≤ 1000 ∧ l.length ≤ 1000) : opMul h (.tup l) (.int k) = some (.tup (List.replicate k.toNat l).flatten) := by
  show (if 0 ≤ k ∧ k ≤ 1000 ∧ l.length ≤ 1000 then some (D.tup (List.replicate k.toNat l).flatten) else none) = _
  rw [if_pos c]
/-! ### joined ends -/
theorem ok_if_bl {c : Prop} [Decidable c] {a b : Bool} {h : Hh} : (if c then R.ok (D.bl a) h else R.ok (D.bl b) h) = R.ok (D.bl (if c then a else b)) h := by split <;> rfl
theorem ok_if_B {c : Prop} [Decidable c] {a b : Bool} {h : Hh} : (if c then R.ok a h else R.ok b h) = R.ok (if c then a else b) h := by split <;> rfl
theorem rt_if_bl {c : Prop} [Decidable c] {a b : Bool} {h : Hh} : (if c then RS.rt (D.bl a) h else RS.rt (D.bl b) h) = RS.rt (D.bl (if c then a else b)) h := by split <;> rfl
theorem ok_if_int {c : Prop} [Decidable c] {a b : Int} {h : Hh} : (if c then R.ok (D.int a) h else R.ok (D.int b) h) = R.ok (D.int (if c then a else b)) h := by split <;> rfl
theorem nx_if {c : Prop} [Decidable c] {a b : En} {h : Hh} : (if c then RS.nx a h else RS.nx b h) = RS.nx (if c then a else b) h := by split <;> rfl
theorem ite_cons {c : Prop} [Decidable c] {α : Type} {a b : α} {l m : List α} : (if c then a :: l else b :: m) = (if c then a else b) :: (if c then l else m) := by split <;> rfl
theorem ite_some {c : Prop} [Decidable c] {α : Type} {a b : α} : (if c then some a else some b) = some (if c then a else b) := by split <;> rfl
theorem ite_int {c : Prop} [Decidable c] {a b : Int} : (if c then D.int a else D.int b) = D.int (if c then a else b) := by split <;> rfl
theorem ite_bl {c : Prop} [Decidable c] {a b : Bool} : (if c then D.bl a else D.bl b) = D.bl (if c then a else b) := by split <;> rfl
theorem atI_mem {l : List D} {i : Int} (h : 0 ≤ i ∧ i < l.length) : ∃ x ∈ l, atI l i = some x := by
  have hl : i.toNat < l.length := by omega
  refine ⟨l[i.toNat], List.getElem_mem hl, ?_⟩
  rw [atI_nat h.1 h.2, List.getElem?_eq_getElem hl]
end Sb

/-! Sb18: methods of things that aren't looked into, calls that read. -/
namespace Sb
open L2 PySem PySem.Spec PyProof.Rows
def meS (x : D) (M : Nat → Option (FC × List D)) (m : Str) (h : Hh) : Option (FC × List D) := match insAt h x with
  | some (c, fs) => match M c with
    | some (f, dd) => if (fs.lookup m).isNone = true then some (f, dd) else none
    | none => none
  | none => none
def meD (o : Option (FC × List D)) (x : D) (r : R (List D)) : R D := match o with
  | some (f, dd) => r.bind fun ds h2 => f ((x :: ds) ++ dd) h2
  | none => .fail
theorem me_E (g : F D) (r : F (List D)) (M : Nat → Option (FC × List D)) (m : Str) (e : En) (h : Hh) : dMe g r M m e h = (g e h).bind fun x h1 => meD (meS x M m h1) x (r e h1) := by
  unfold dMe
  congr 1
  funext x h1
  unfold meS meD
  cases insAt h1 x with
  | none => rfl
  | some cf =>
    obtain ⟨c, fs⟩ := cf
    simp only
    cases M c with
    | none => rfl
    | some fd =>
      obtain ⟨f, dd⟩ := fd
      simp only
      by_cases z : (fs.lookup m).isNone = true
      · rw [if_pos z, if_pos z]
      · rw [if_neg z, if_neg z]
theorem meD_some (f : FC) (dd : List D) (x : D) (r : R (List D)) : meD (some (f, dd)) x r = r.bind fun ds h2 => f ((x :: ds) ++ dd) h2 := rfl
theorem meS_of {x : D} {M : Nat → Option (FC × List D)} {m : Str} {h : Hh} {c : Nat} {fs : List (Str × D)} {z : FC × List D} (hi : insAt h x = some (c, fs)) (hm : M c = some z) (hn : fs.lookup m = none) : meS x M m h = some z := by
  unfold meS
  rw [hi]
  simp only [hm, hn, Option.isNone_none, if_true]
theorem fldD_of {T : FT} {f : Str} {x y : D} {h : Hh} {c : Nat} {fs : List (Str × D)} (hi : insAt h x = some (c, fs)) (ht : T c f = true) (hn : fs.lookup f = some y) : fldD T f h x = some y := by
  unfold fldD
  rw [hi]
  simp only [ht, if_true, hn]
/-! ### calls that read -/
theorem frzDs_def {g : Nat → Option D} {ds ds' : List D} (c : noRefs ds = true) (e : frzDs g ds = some ds') : ds' = ds := by
  unfold noRefs at c
  split at c
  · rename_i l q
    rw [frzDs_id q] at e
    exact (Option.some.inj e).symm
  · cases c
mutual
theorem imm_frz {g : Nat → Option D} : ∀ {d : D}, immD d = true → frzD g d = some d
  | .non, _ => rfl
  | .bl _, _ => rfl
  | .int _, _ => rfl
  | .str _, _ => rfl
  | .tup l, h => by
    show (frzDs g l).map D.tup = _
    rw [imm_frzs (l := l) h]; rfl
  | .lst _, h => by cases h
  | .dct _, h => by cases h
  | .ins _ _, h => by cases h
  | .ref _, h => by cases h
  | .scr _, h => by cases h
theorem imm_frzs {g : Nat → Option D} : ∀ {l : List D}, immDs l = true → frzDs g l = some l
  | [], _ => rfl
  | d :: l, h => by
    have h2 : (immD d && immDs l) = true := h
    obtain ⟨h3, h4⟩ := Bool.and_eq_true_iff.mp h2
    show (match frzD g d, frzDs g l with | some x, some xs => some (x :: xs) | _, _ => none) = _
    rw [imm_frz h3, imm_frzs h4]
end
theorem pure_any {f : FC} {ds ds' : List D} {h h' : Hh} {d : D} (r : frzDs (frzN 8 h) ds = some ds') (e : f ds' [] = .ok d h') (z : immD d = true) : pureC f ds h = .ok d h := by
  by_cases c : noRefs ds = true
  · obtain rfl := frzDs_def c r
    unfold pureC
    rw [if_pos c, e]
    simp only
    unfold frz
    rw [imm_frz z]
  · exact pure_rd (by simpa using c) r e z
theorem pure_anyx {f : FC} {ds ds' : List D} {h h' : Hh} {c : Nat} (r : frzDs (frzN 8 h) ds = some ds') (e : f ds' [] = .exc c [] h') : pureC f ds h = .exc c [] h := by
  by_cases q : noRefs ds = true
  · obtain rfl := frzDs_def q r
    unfold pureC
    rw [if_pos q, e]
  · exact pure_rdx (by simpa using q) r e
theorem frzDs_cons {g : Nat → Option D} {d d' : D} {l l' : List D} (a : frzD g d = some d') (b : frzDs g l = some l') : frzDs g (d :: l) = some (d' :: l') := by
  show (match frzD g d, frzDs g l with | some x, some xs => some (x :: xs) | _, _ => none) = _
  rw [a, b]
theorem frzDs_nil {g : Nat → Option D} : frzDs g [] = some [] := rfl
theorem frzDf_cons {g : Nat → Option D} {k : Str} {d d' : D} {l l' : List (Str × D)} (a : frzD g d = some d') (b : frzDf g l = some l') : frzDf g ((k, d) :: l) = some ((k, d') :: l') := by
  show (match frzD g d, frzDf g l with | some x, some xs => some ((k, x) :: xs) | _, _ => none) = _
  rw [a, b]
theorem frzDf_nil {g : Nat → Option D} : frzDf g [] = some [] := rfl
theorem frzDs_map {α : Type} {g : Nat → Option D} {φ ψ : α → D} : ∀ {l : List α}, (∀ a ∈ l, frzD g (φ a) = some (ψ a)) → frzDs g (l.map φ) = some (l.map ψ)
  | [], _ => rfl
  | a :: l, h => frzDs_cons (h a List.mem_cons_self) (frzDs_map fun b hb => h b (List.mem_cons_of_mem _ hb))
theorem frzN_lst {n : Nat} {h : Hh} {i : Nat} {l l' : List D} (e : h[i]? = some (.lst l)) (q : frzDs (frzN n h) l = some l') : frzN (n + 1) h i = some (.lst l') := by
  unfold frzN
  rw [e]
  simp only [q, Option.map_some]
theorem frzN_dct {n : Nat} {h : Hh} {i : Nat} {l l' : List (Key × D)} (e : h[i]? = some (.dct l)) (q : frzDk (frzN n h) l = some l') : frzN (n + 1) h i = some (.dct l') := by
  unfold frzN
  rw [e]
  simp only [q, Option.map_some]
theorem frzN_ins {n : Nat} {h : Hh} {i c : Nat} {l l' : List (Str × D)} (e : h[i]? = some (.ins c l)) (q : frzDf (frzN n h) l = some l') : frzN (n + 1) h i = some (.ins c l') := by
  unfold frzN
  rw [e]
  simp only [q, Option.map_some]
theorem frz_lst {g : Nat → Option D} {l l' : List D} (q : frzDs g l = some l') : frzD g (.lst l) = some (.lst l') := by
  show (frzDs g l).map D.lst = _
  rw [q]; rfl
theorem set_self {h : Hh} {j : Nat} {d : O} (e : h[j]? = some d) : h.set j d = h := by
  apply List.ext_getElem?
  intro i
  rw [List.getElem?_set]
  by_cases c : j = i
  · subst c
    have : j < h.length := by
      by_cases q : j < h.length
      · exact q
      · rw [List.getElem?_eq_none (by omega)] at e; cases e
    rw [List.getElem?_eq_getElem this] at e
    simp only [this, if_true, Option.some.inj e, List.getElem?_eq_getElem this]
  · simp [c]
/-! ### dicts -/
def seD (x y z : D) (h : Hh) : R D := match x, keyD y with
  | .ref i, some q => (match h[i]? with
    | some (.dct l) => if l.length < 16777216 then (match valD l q with
      | some v => .ok v h
      | none => .ok z (h.set i (.dct (putD l q z)))) else .fail
    | _ => .fail)
  | _, _ => .fail
theorem sed_E (f g k : F D) (e : En) (h : Hh) : dSetd f g k e h = (f e h).bind fun x h1 => if (asK h1 x).isSome = true then (g e h1).bind fun y h2 => (k e h2).bind fun z h3 => seD x y z h3 else .fail := rfl
def geD (x y z : D) (h : Hh) : R D := match asK h x, keyD y with
  | some l, some q => .ok (getK (valD l q) z) h
  | _, _ => .fail
theorem dge_E (f g k : F D) (e : En) (h : Hh) : dGet f g k e h = (f e h).bind fun x h1 => if (asK h1 x).isSome = true then (g e h1).bind fun y h2 => (k e h2).bind fun z h3 => geD x y z h3 else .fail := rfl
def compDN (d : D) (g : Tg) (t : F Bool) (f : F D) (vs : List Nat) (e : En) (h : Hh) : R D := dCompN (iSeq (dC d)) g t f vs e h
theorem comp_seqN (fs : F D) (g : Tg) (t : F Bool) (f : F D) (vs : List Nat) (e : En) (h : Hh) : dCompN (iSeq fs) g t f vs e h = (fs e h).bind fun d h1 => compDN d g t f vs e h1 := by
  unfold compDN dCompN iSeq
  cases fs e h with
  | ok d h1 => rw [rb_ok, rb_ok]; rfl
  | exc _ _ _ => rfl
  | fail => rfl
def endN : Option (List D × Hh) → R D
  | some (l, h2) => .ok (.ref h2.length) (h2 ++ [.lst l])
  | none => .fail
theorem compN_frz {d : D} {l : List D} (hl : frzL d = some l) (hf : l.length ≤ 16777216) (g : Tg) (t : F Bool) (f : F D) (vs : List Nat) (e : En) (h : Hh) : compDN d g t f vs e h = endN (compL g t f l (wipeE e vs) h) := by
  unfold compDN dCompN iSeq
  rw [show dC d e h = .ok d h from rfl, rb_ok, if_pos (asQ_frz hl h), rb_ok]
  simp only
  rw [len_frz hl, if_pos (show fits l.length = true from decide_eq_true hf), compS_L (seq_frz hl) l.length 0 _ h (Nat.zero_add _), List.drop_zero]
  cases compL g t f l (wipeE e vs) h with
  | none => rfl
  | some z => rfl
theorem endN_some (l : List D) (h : Hh) : endN (some (l, h)) = .ok (.ref h.length) (h ++ [.lst l]) := rfl
theorem s_fodE (w : Dw) (f : F D) (g : Tg) (b : FS) (e : En) (h : Hh) : sForD w f g b e h = (f e h).st e fun d h1 => forDw w d g b e h1 := rfl
theorem its_len (w : Dw) (l : List (Key × D)) : (itsD w l).length = l.length := by cases w <;> simp [itsD]
theorem forDw_dct (w : Dw) (l : List (Key × D)) (g : Tg) (b : FS) (e : En) (h : Hh) : forDw w (.dct l) g b e h = calR (forL g b (itsD w l) e h) := by
  show calR (forS (dwAt w (.dct l)) g b l.length 0 e h) = _
  rw [forS_L (a := dwAt w (.dct l)) (l := itsD w l) (fun h i => rfl) l.length 0 e h (by rw [its_len]; omega), List.drop_zero]
theorem calR_nx (e : En) (h : Hh) : calR (.nx e h) = .nx e h := rfl
theorem calR_rt (d : D) (h : Hh) : calR (.rt d h) = .rt d h := rfl
theorem c_codE (w : Dw) (fs : F D) (g : Tg) (t : F Bool) (f : F D) (vs : List Nat) (e : En) (h : Hh) : dCompD w fs g t f vs e h = (fs e h).bind fun d h1 => compDw w d g t f vs e h1 := rfl
/-! a comprehension over a list of the small heap that its parts leave alone -/
theorem compS_refF {i : Nat} {α : Type} {l : List α} {φ ψ : α → D} {p : α → Bool} {g : Tg} {t : F Bool} {f : F D} {e : En} {h : Hh} (e0 : h[i]? = some (.lst (l.map φ))) (st : ∀ a ∈ l, ∃ e1, bindT g (φ a) e = some e1 ∧ t e1 h = .ok (p a) h ∧ f e1 h = .ok (ψ a) h) :
    ∀ (m n : Nat), n + m = l.length → compS (seqAt (.ref i)) g t f m n e h = some (((l.drop n).filter p).map ψ, h)
  | m, n, hm => by
    have sq : seqAt (.ref i) h n = some ((l.map φ)[n]?) := by
      show (match asL h (.ref i) with | some l => some l[n]? | none => none) = _
      rw [asL_ref e0]
    rw [List.getElem?_map] at sq
    cases m with
    | zero =>
      rw [List.getElem?_eq_none (by omega)] at sq
      unfold compS
      rw [sq, List.drop_eq_nil_of_le (by omega)]
      rfl
    | succ m =>
      have hl : n < l.length := by omega
      rw [List.getElem?_eq_getElem hl] at sq
      obtain ⟨e1, b, c, d⟩ := st l[n] (List.getElem_mem hl)
      have ih := compS_refF e0 st m (n + 1) (by omega)
      unfold compS
      rw [sq, List.drop_eq_getElem_cons hl]
      simp only [Option.map_some, b, c]
      cases pa : p l[n] with
      | true =>
        simp only [if_true, d]
        rw [ih, List.filter_cons_of_pos pa]; rfl
      | false =>
        simp only [Bool.false_eq_true, if_false]
        rw [ih, List.filter_cons_of_neg (by rw [pa]; exact Bool.false_ne_true)]
theorem compD_refF {i : Nat} {α : Type} {l : List α} {φ ψ : α → D} {p : α → Bool} {g : Tg} {t : F Bool} {f : F D} {vs : List Nat} {e : En} {h : Hh} (e0 : h[i]? = some (.lst (l.map φ))) (hl : l.length ≤ 16777216) (st : ∀ a ∈ l, ∃ e1, bindT g (φ a) (wipeE e vs) = some e1 ∧ t e1 h = .ok (p a) h ∧ f e1 h = .ok (ψ a) h) :
    compD (.ref i) g t f vs e h = .ok (.lst ((l.filter p).map ψ)) h := by
  have a1 : asQ h (.ref i) = some (l.map φ) := asL_ref e0
  have a2 : lenQ h (.ref i) = l.length := by unfold lenQ; rw [a1]; exact List.length_map _
  have z := compS_refF (g := g) (t := t) (f := f) (e := wipeE e vs) e0 st l.length 0 (Nat.zero_add _)
  rw [List.drop_zero] at z
  unfold compD dComp iSeq
  rw [show dC (.ref i) e h = .ok (.ref i) h from rfl, rb_ok, if_pos (by rw [a1]; rfl), rb_ok]
  simp only
  rw [a2, if_pos (show fits l.length = true from decide_eq_true hl), z]
theorem rng_map (n : Nat) : rngL 0 n = (List.range n).map fun i : Nat => D.int (i : Int) := by
  apply List.ext_getElem?
  intro j
  rw [rngL_at, List.getElem?_map]
  by_cases c : j < n
  · rw [if_pos c, List.getElem?_range c, Int.zero_add]; rfl
  · rw [if_neg c, List.getElem?_eq_none (by rw [List.length_range]; omega)]; rfl
def geD1 (x y : D) (h : Hh) : R D := match asK h x, keyD y with
  | some l, some q => .ok (getK (valD l q) .non) h
  | _, _ => .fail
theorem dg1_E (f g : F D) (e : En) (h : Hh) : dGet1 f g e h = (f e h).bind fun x h1 => if (asK h1 x).isSome = true then (g e h1).bind fun y h2 => geD1 x y h2 else .fail := rfl
def compR1N (d : D) (g : Tg) (t : F Bool) (f : F D) (vs : List Nat) (e : En) (h : Hh) : R D := dCompN (iRange1 (dC d)) g t f vs e h
theorem comp_r1N (fs : F D) (g : Tg) (t : F Bool) (f : F D) (vs : List Nat) (e : En) (h : Hh) : dCompN (iRange1 fs) g t f vs e h = (fs e h).bind fun d h1 => compR1N d g t f vs e h1 := by
  unfold compR1N dCompN iRange1
  cases fs e h with
  | ok d h1 => rw [rb_ok, rb_ok]; rfl
  | exc _ _ _ => rfl
  | fail => rfl
theorem compR1N_int {j : Int} (hj : -(2 ^ 62) ≤ j ∧ j ≤ 16777216) (g : Tg) (t : F Bool) (f : F D) (vs : List Nat) (e : En) (h : Hh) : compR1N (.int j) g t f vs e h = endN (compL g t f (rngL 0 j.toNat) (wipeE e vs) h) := by
  unfold compR1N dCompN iRange1
  rw [show dC (.int j) e h = .ok (.int j) h from rfl, rb_ok]
  simp only
  have hf : fits j.toNat = true := by unfold fits; exact decide_eq_true (by omega)
  rw [if_pos (by omega), rb_ok]
  simp only
  rw [if_pos hf, compS_L (rng_at 0 j.toNat) j.toNat 0 _ h (by rw [rngL_len]; omega), List.drop_zero]
  cases compL g t f (rngL 0 j.toNat) (wipeE e vs) h with
  | none => rfl
  | some z => rfl
def poD (x y : D) (h : Hh) : R D := match x, keyD y with
  | .ref i, some q => (match h[i]? with
    | some (.dct l) => (match valD l q with
      | some v => .ok v (h.set i (.dct (dropD l q)))
      | none => .fail)
    | _ => .fail)
  | _, _ => .fail
theorem dpo_E (f g : F D) (e : En) (h : Hh) : dPop f g e h = (f e h).bind fun x h1 => if (asK h1 x).isSome = true then (g e h1).bind fun y h2 => poD x y h2 else .fail := rfl
theorem poD_ref {h : Hh} {i : Nat} {l : List (Key × D)} {w : Int} {v : D} (e : h[i]? = some (.dct l)) (q : valD l (.inl w) = some v) : poD (.ref i) (.int w) h = .ok v (h.set i (.dct (dropD l (.inl w)))) := by
  unfold poD
  simp only [show keyD (.int w) = some (.inl w) from rfl, e, q]
theorem len_refK {h : Hh} {i : Nat} {l : List (Key × D)} (e : h[i]? = some (.dct l)) : bLen h [.ref i] = some (.int l.length) := by
  have z : asL h (.ref i) = none := by
    show (match h[i]? with | some (.lst l) => some l | some (.lck (.lst l)) => some l | _ => none) = _
    rw [e]
  unfold bLen
  simp only [z, asK_refK e]
theorem deref_refK {h : Hh} {i : Nat} {l : List (Key × D)} (e : h[i]? = some (.dct l)) : deref h (.ref i) = .ref i := by
  have z : asM h (.ref i) = none := by
    show (match h[i]? with | some (.lst l) => some l | some (.lck (.lst l)) => some l | _ => none) = _
    rw [e]
  unfold deref
  simp only [z]
theorem eqD_refK {h : Hh} {i : Nat} {l : List (Key × D)} (e : h[i]? = some (.dct l)) (y : D) : eqD h (.ref i) y = none := by
  unfold eqD
  rw [deref_refK e]
  rfl
theorem eq_dctL {h : Hh} {x y : D} {l m : List (Key × D)} (hx : asK h x = some l) (hy : asK h y = some m) (hxn : eqD h x y = none) (e : ¬ l.length = m.length) : cmpD .Eq h x y = some (.bl false) := by
  show (match eqD h x y with | some b => some (D.bl b) | none => (eqDK h x y).map fun b => D.bl b) = _
  have z : eqKD l m = false := by unfold eqKD; rw [decide_eq_false e, Bool.false_and]
  rw [hxn]
  unfold eqDK
  rw [hx, hy]
  simp only [z, e, Bool.false_eq_true, if_false]; rfl
theorem ne_dctL {h : Hh} {x y : D} {l m : List (Key × D)} (hx : asK h x = some l) (hy : asK h y = some m) (hxn : eqD h x y = none) (e : ¬ l.length = m.length) : cmpD .NotEq h x y = some (.bl true) := by
  show (match eqD h x y with | some b => some (D.bl (!b)) | none => (eqDK h x y).map fun b => D.bl (!b)) = _
  have z : eqKD l m = false := by unfold eqKD; rw [decide_eq_false e, Bool.false_and]
  rw [hxn]
  unfold eqDK
  rw [hx, hy]
  simp only [z, e, Bool.false_eq_true, if_false]; rfl
theorem ne_refK0 {h : Hh} {i : Nat} {l : List (Key × D)} (e : h[i]? = some (.dct l)) : cmpD .NotEq h (.ref i) (.dct []) = some (.bl (!(decide (l.length = 0)))) := by
  cases l with
  | nil => exact ne_dct (asK_refK e) (asK_dct h []) (eqD_refK e _) rfl
  | cons p l => exact ne_dctL (asK_refK e) (asK_dct h []) (eqD_refK e _) (by simp)
theorem compDw_dct (w : Dw) {l : List (Key × D)} (hl : l.length ≤ 16777216) (g : Tg) (t : F Bool) (f : F D) (vs : List Nat) (e : En) (h : Hh) : compDw w (.dct l) g t f vs e h = endCw (compL g t f (itsD w l) (wipeE e vs) h) := by
  show (if fits l.length = true then endCw (compS (dwAt w (.dct l)) g t f l.length 0 (wipeE e vs) h) else .fail) = _
  rw [if_pos (show fits _ = true from decide_eq_true hl), compS_L (a := dwAt w (.dct l)) (l := itsD w l) (fun h i => rfl) l.length 0 _ h (by rw [its_len]; omega), List.drop_zero]
theorem endCw_some (l : List D) (h : Hh) : endCw (some (l, h)) = .ok (.lst l) h := rfl
theorem clD_ref {h : Hh} {i : Nat} {l : List (Key × D)} (e : h[i]? = some (.dct l)) : clD (.ref i) h = .ok .non (h.set i (.dct [])) := by
  show (match h[i]? with | some (.dct _) => R.ok D.non (h.set i (.dct [])) | _ => .fail) = _
  rw [e]
theorem dcr_E (f : F D) (e : En) (h : Hh) : dDcr f e h = (f e h).bind clD := rfl
theorem nList_ref {h : Hh} {i : Nat} {l : List D} (e : h[i]? = some (.lst l)) : nList h [.ref i] = some (.ref h.length, h ++ [.lst l]) := by
  show (asQ h (.ref i)).map (fun l => (D.ref h.length, h ++ [O.lst l])) = _
  rw [show asQ h (.ref i) = some l from asL_ref e]; rfl
theorem nDict_ref {h : Hh} {i : Nat} {l : List (Key × D)} (e : h[i]? = some (.dct l)) : nDict h [.ref i] = some (.ref h.length, h ++ [.dct l]) := by
  show (asK h (.ref i)).map (fun l => (D.ref h.length, h ++ [O.dct l])) = _
  rw [asK_refK e]; rfl
end Sb

/-! law_k14_deeds_in_the_book: the defs -/
namespace P
open Sb L2 PySem PySem.Spec PyProof.Rows
-- 0: _wall(k); 0:k
def b0_0 : Bk := (.cons .pass
  .nil)
def b0 : Bk := (.cons (.whl 200 (.val (.cst (.bl true)))
  b0_0)
  .nil)
def f0 : FnD := ⟨["k"], 1, b0⟩
-- 1: Claim.told(self); 0:self
def b1 : Bk := (.cons (.ret (.tup .nil))
  .nil)
def f1 : FnD := ⟨["self"], 1, b1⟩
-- 2: Claim.comes(self, day, shown); 0:self 1:day 2:shown
def b2 : Bk := (.cons (.ret (.tup (.cons (.cst (.int 0)) (.cons (.cst (.int 0)) (.cons (.cst (.int 0)) .nil)))))
  .nil)
def f2 : FnD := ⟨["self", "day", "shown"], 3, b2⟩
-- 3: Claim.may_strike(self, pot, side, day, thing); 0:self 1:pot 2:side 3:day 4:thing
def b3 : Bk := (.cons (.ret (.cst (.bl false)))
  .nil)
def f3 : FnD := ⟨["self", "pot", "side", "day", "thing"], 5, b3⟩
-- 4: Held.__init__(self, whole); 0:self 1:whole
def b4 : Bk := (.cons (.fld (.var 0) "whole" (.var 1))
  .nil)
def f4 : FnD := ⟨["self", "whole"], 2, b4⟩
-- 5: Held.told(self); 0:self
def b5 : Bk := (.cons (.ret (.tup (.cons (.cst (.str "held")) .nil)))
  .nil)
def f5 : FnD := ⟨["self"], 1, b5⟩
-- 6: Held.comes(self, day, shown); 0:self 1:day 2:shown
def b6 : Bk := (.cons (.ret (.tup (.cons (.cst (.int 0)) (.cons (.cst (.int 0)) (.cons (.fld (.var 0) "whole") .nil)))))
  .nil)
def f6 : FnD := ⟨["self", "day", "shown"], 3, b6⟩
-- 7: Laid.__init__(self, whole, side, stand, day, wait); 0:self 1:whole 2:side 3:stand 4:day 5:wait
def b7 : Bk := (.cons (.fld (.var 0) "whole" (.var 1))
  (.cons (.fld (.var 0) "layer" (.var 2))
  (.cons (.fld (.var 0) "lying" (.var 3))
  (.cons (.fld (.var 0) "begun" (.var 4))
  (.cons (.fld (.var 0) "patience" (.var 5))
  .nil)))))
def f7 : FnD := ⟨["self", "whole", "side", "stand", "day", "wait"], 6, b7⟩
-- 8: Laid.told(self); 0:self
def b8 : Bk := (.cons (.ret (.tup (.cons (.cst (.str "laid")) (.cons (.fld (.var 0) "layer") (.cons (.fld (.var 0) "lying") (.cons (.fld (.var 0) "begun") .nil))))))
  .nil)
def f8 : FnD := ⟨["self"], 1, b8⟩
-- 9: Laid.comes(self, day, shown); 0:self 1:day 2:shown 3:dues 4:payer 5:amount 6:word 7:last
def b9_0 : Bk := (.cons (.ite (.and (.cmp .In (.var 6) (.var 2)) (.cmp .Lt (.idx (.var 2) (.var 6)) (.var 7)))
  (.cons (.sub (.var 3) (.bin .Sub (.cst (.int 1)) (.var 4)) (.bin .Add (.idx (.var 3) (.bin .Sub (.cst (.int 1)) (.var 4))) (.var 5)))
  .nil)
  (.cons (.ite (.cmp .GtE (.var 1) (.var 7))
  (.cons (.sub (.var 3) (.var 4) (.bin .Add (.idx (.var 3) (.var 4)) (.var 5)))
  .nil)
  (.cons (.sub (.var 3) (.cst (.int 2)) (.bin .Add (.idx (.var 3) (.cst (.int 2))) (.var 5)))
  .nil))
  .nil))
  (.wip [4, 5, 6, 7] .nil))
def b9 : Bk := (.cons (.ite (.cmp .Lt (.var 1) (.bin .Add (.fld (.var 0) "begun") (.fld (.var 0) "patience")))
  (.cons (.ret (.tup (.cons (.cst (.int 0)) (.cons (.cst (.int 0)) (.cons (.fld (.var 0) "whole") .nil)))))
  .nil)
  .nil)
  (.cons (.asg (.nm 3) (.ban (.bif .list (.cons (.idx (.fld (.var 0) "lying") (.cst (.int 1))) .nil)) (.lst (.cons (.cst (.int 0)) .nil))))
  (.wip [4, 5, 6, 7] (.cons (.for (.seq (.idx (.fld (.var 0) "lying") (.cst (.int 2)))) (.tp [(.nm 4), (.nm 5), (.nm 6), (.nm 7)])
  b9_0)
  (.cons (.ret (.tup (.cons (.idx (.var 3) (.cst (.int 0))) (.cons (.idx (.var 3) (.cst (.int 1))) (.cons (.idx (.var 3) (.cst (.int 2))) .nil)))))
  .nil)))))
def f9 : FnD := ⟨["self", "day", "shown", "dues", "payer", "amount", "word", "last"], 3, b9⟩
-- 10: Laid.may_strike(self, pot, side, day, thing); 0:self 1:pot 2:side 3:day 4:thing
def b10 : Bk := (.cons (.ite (.or (.cmp .Eq (.var 2) (.fld (.var 0) "layer")) (.cmp .GtE (.var 3) (.bin .Add (.fld (.var 0) "begun") (.fld (.var 0) "patience"))))
  (.cons (.ret (.cst (.bl false)))
  .nil)
  .nil)
  (.cons (.ret (.cmp .Eq (.var 4) (.tup (.cons (.cst (.str "strike")) (.cons (.var 1) (.cons (.fld (.var 0) "layer") (.cons (.idx (.fld (.var 0) "lying") (.cst (.int 0))) .nil)))))))
  .nil))
def f10 : FnD := ⟨["self", "pot", "side", "day", "thing"], 5, b10⟩
-- 11: Taken.__init__(self, whole, side); 0:self 1:whole 2:side
def b11 : Bk := (.cons (.fld (.var 0) "whole" (.var 1))
  (.cons (.fld (.var 0) "taker" (.var 2))
  .nil))
def f11 : FnD := ⟨["self", "whole", "side"], 3, b11⟩
-- 12: Taken.told(self); 0:self
def b12 : Bk := (.cons (.ret (.tup (.cons (.cst (.str "taken")) (.cons (.fld (.var 0) "taker") .nil))))
  .nil)
def f12 : FnD := ⟨["self"], 1, b12⟩
-- 13: Taken.comes(self, day, shown); 0:self 1:day 2:shown
def b13 : Bk := (.cons (.ite (.cmp .Eq (.fld (.var 0) "taker") (.cst (.int 0)))
  (.cons (.ret (.tup (.cons (.fld (.var 0) "whole") (.cons (.cst (.int 0)) (.cons (.cst (.int 0)) .nil)))))
  .nil)
  .nil)
  (.cons (.ret (.tup (.cons (.cst (.int 0)) (.cons (.fld (.var 0) "whole") (.cons (.cst (.int 0)) .nil)))))
  .nil))
def f13 : FnD := ⟨["self", "day", "shown"], 3, b13⟩
-- 14: NoPot.__init__(self, pot); 0:self 1:pot
def b14 : Bk := (.cons .never (.cons .never .nil))
def f14 : FnD := ⟨["self", "pot"], 2, b14⟩
-- 15: in_bounds(thing, most); 0:thing 1:most
def b15 : Bk := (.cons (.ret (.and (.isi .int (.var 0)) (.and (.not (.isi .bl (.var 0))) (.chn .LtE .LtE (.cst (.int 0)) (.var 0) (.var 1)))))
  .nil)
def f15 : FnD := ⟨["thing", "most"], 2, b15⟩
-- 16: is_tie(thing); 0:thing 1:payer 2:amount 3:word 4:day
def b16 : Bk := (.cons (.ite (.or (.not (.val (.isi .tup (.var 0)))) (.cmp .NotEq (.bif .len (.cons (.var 0) .nil)) (.cst (.int 4))))
  (.cons (.ret (.cst (.bl false)))
  .nil)
  .nil)
  (.cons (.asg (.tp [(.nm 1), (.nm 2), (.nm 3), (.nm 4)]) (.var 0))
  (.cons (.ite (.or (.not (.val (.cal false 15 [] (.cons (.var 1) (.cons (.cst (.int 1)) .nil))))) (.or (.not (.val (.cal false 15 [] (.cons (.var 2) (.cons (.glb (.int 1000000000000)) .nil))))) (.cmp .Lt (.var 2) (.cst (.int 1)))))
  (.cons (.ret (.cst (.bl false)))
  .nil)
  .nil)
  (.cons (.ret (.and (.cal false 15 [] (.cons (.var 3) (.cons (.glb (.int 59)) .nil))) (.cal false 15 [] (.cons (.var 4) (.cons (.glb (.int 1000000)) .nil)))))
  .nil))))
def f16 : FnD := ⟨["thing", "payer", "amount", "word", "day"], 1, b16⟩
-- 17: are_shares(thing); 0:thing 1:share
def x17_0 : Ex := (.cal false 15 [] (.cons (.var 1) (.cons (.bin .Mult (.cst (.int 2)) (.glb (.int 1000000000000))) .nil)))
def b17 : Bk := (.cons (.ite (.or (.not (.val (.isi .tup (.var 0)))) (.cmp .NotEq (.bif .len (.cons (.var 0) .nil)) (.cst (.int 2))))
  (.cons (.ret (.cst (.bl false)))
  .nil)
  .nil)
  (.cons (.ret (.bif .all (.cons (.com x17_0 (.nm 1) (.seq (.var 0)) .no [("share", 1)]) .nil)))
  .nil))
def f17 : FnD := ⟨["thing", "share"], 1, b17⟩
-- 18: are_ties(thing); 0:thing 1:words 2:tie 3:word
def x18_0 : Ex := (.cmp .Eq (.bim .count (.var 1) (.cons (.var 3) .nil)) (.cst (.int 1)))
def x18_1 : Ex := (.idx (.var 2) (.cst (.int 2)))
def x18_2 : Ex := (.cal false 16 [] (.cons (.var 2) .nil))
def b18 : Bk := (.cons (.ite (.or (.not (.val (.isi .tup (.var 0)))) (.or (.cmp .Gt (.bif .len (.cons (.var 0) .nil)) (.glb (.int 6))) (.not (.val (.bif .all (.cons (.com x18_2 (.nm 2) (.seq (.var 0)) .no [("tie", 2)]) .nil))))))
  (.cons (.ret (.cst (.bl false)))
  .nil)
  .nil)
  (.cons (.asg (.nm 1) (.com x18_1 (.nm 2) (.seq (.var 0)) .no [("tie", 2)]))
  (.cons (.ret (.bif .all (.cons (.com x18_0 (.nm 3) (.seq (.var 1)) .no [("word", 3)]) .nil)))
  .nil)))
def f18 : FnD := ⟨["thing", "words", "tie", "word"], 1, b18⟩
-- 19: is_stand(thing); 0:thing
def b19 : Bk := (.cons (.ite (.or (.not (.val (.isi .tup (.var 0)))) (.cmp .NotEq (.bif .len (.cons (.var 0) .nil)) (.cst (.int 3))))
  (.cons (.ret (.cst (.bl false)))
  .nil)
  .nil)
  (.cons (.ret (.and (.cal false 15 [] (.cons (.idx (.var 0) (.cst (.int 0))) (.cons (.glb (.int 1000000)) .nil))) (.and (.cal false 17 [] (.cons (.idx (.var 0) (.cst (.int 1))) .nil)) (.cal false 18 [] (.cons (.idx (.var 0) (.cst (.int 2))) .nil)))))
  .nil))
def f19 : FnD := ⟨["thing"], 1, b19⟩
-- 20: stand(number, shares, ties); 0:number 1:shares 2:ties 3:made
def b20 : Bk := (.cons (.asg (.nm 3) (.tup (.cons (.var 0) (.cons (.var 1) (.cons (.ite (.cmp .Is (.var 2) (.cst (.non))) (.tup .nil) (.var 2)) .nil)))))
  (.cons (.ite (.not (.val (.cal false 19 [] (.cons (.var 3) .nil))))
  (.cons (.rai 5)
  .nil)
  .nil)
  (.cons (.ret (.var 3))
  .nil)))
def f20 : FnD := ⟨["number", "shares", "ties", "made"], 3, b20⟩
-- 21: first(left, right); 0:left 1:right
def b21 : Bk := (.cons (.ret (.cal false 20 [.non] (.cons (.cst (.int 0)) (.cons (.tup (.cons (.var 0) (.cons (.var 1) .nil))) .nil))))
  .nil)
def f21 : FnD := ⟨["left", "right"], 2, b21⟩
-- 22: deals(one); 0:one 1:tie
def x22_0 : Ex := (.idx (.var 1) (.cst (.int 1)))
def b22 : Bk := (.cons (.ret (.bin .Add (.bif .sum (.cons (.idx (.var 0) (.cst (.int 1))) .nil)) (.bif .sum (.cons (.com x22_0 (.nm 1) (.seq (.idx (.var 0) (.cst (.int 2)))) .no [("tie", 1)]) .nil))))
  .nil)
def f22 : FnD := ⟨["one", "tie"], 1, b22⟩
-- 23: is_pot(thing); 0:thing 1:left 2:right 3:one 4:other 5:wait
def b23 : Bk := (.cons (.ite (.or (.not (.val (.isi .tup (.var 0)))) (.cmp .NotEq (.bif .len (.cons (.var 0) .nil)) (.cst (.int 5))))
  (.cons (.ret (.cst (.bl false)))
  .nil)
  .nil)
  (.cons (.asg (.tp [(.nm 1), (.nm 2), (.nm 3), (.nm 4), (.nm 5)]) (.var 0))
  (.cons (.ite (.or (.not (.val (.cal false 15 [] (.cons (.var 1) (.cons (.glb (.int 3)) .nil))))) (.or (.not (.val (.cal false 15 [] (.cons (.var 2) (.cons (.glb (.int 3)) .nil))))) (.cmp .Eq (.var 1) (.var 2))))
  (.cons (.ret (.cst (.bl false)))
  .nil)
  .nil)
  (.cons (.ite (.or (.not (.val (.cal false 15 [] (.cons (.var 3) (.cons (.glb (.int 1000000000000)) .nil))))) (.not (.val (.cal false 15 [] (.cons (.var 4) (.cons (.glb (.int 1000000000000)) .nil))))))
  (.cons (.ret (.cst (.bl false)))
  .nil)
  .nil)
  (.cons (.ret (.and (.cal false 15 [] (.cons (.var 5) (.cons (.glb (.int 100)) .nil))) (.cmp .Gt (.var 5) (.cst (.int 0)))))
  .nil)))))
def f23 : FnD := ⟨["thing", "left", "right", "one", "other", "wait"], 1, b23⟩
-- 24: Book.__init__(self, pots); 0:self 1:pots 2:place 3:pot
def x24_0 : Ex := .dnw
def x24_1 : Ex := (.mak true 1 4 [] (.cons (.bin .Add (.idx (.var 3) (.cst (.int 2))) (.idx (.var 3) (.cst (.int 3)))) .nil))
def b24_2 : Bk := (.cons (.ite (.or (.cmp .GtE (.var 2) (.glb (.int 3))) (.not (.val (.cal false 23 [] (.cons (.var 3) .nil)))))
  (.cons .never
  .nil)
  .nil)
  (.wip [2, 3] .nil))
def b24 : Bk := (.wip [2, 3] (.cons (.for (.enu (.var 1)) (.tp [(.nm 2), (.nm 3)])
  b24_2)
  (.cons (.fld (.var 0) "kept" (.bif .list (.cons (.var 1) .nil)))
  (.cons (.fld (.var 0) "now" (.cst (.int 0)))
  (.cons (.fld (.var 0) "claims" (.cmn x24_1 (.nm 3) (.seq (.var 1)) .no [("pot", 3)]))
  (.cons (.fld (.var 0) "shows" (.com x24_0 (.nm 3) (.seq (.var 1)) .no [("pot", 3)]))
  .nil))))))
def f24 : FnD := ⟨["self", "pots", "place", "pot"], 2, b24⟩
-- 25: Book.made_of(self); 0:self
def b25 : Bk := (.cons .never
  .nil)
def f25 : FnD := ⟨["self"], 1, b25⟩
-- 26: Book.today(self); 0:self
def b26 : Bk := (.cons (.ret (.fld (.var 0) "now"))
  .nil)
def f26 : FnD := ⟨["self"], 1, b26⟩
-- 27: Book.next_day(self); 0:self
def b27 : Bk := (.cons (.fld (.var 0) "now" (.bin .Add (.fld (.var 0) "now") (.cst (.int 1))))
  .nil)
def f27 : FnD := ⟨["self"], 1, b27⟩
-- 28: Book.look_for(self, pot, side); 0:self 1:pot 2:side
def b28 : Bk := (.cons (.ite (.or (.not (.val (.cal false 15 [] (.cons (.var 1) (.cons (.bin .Sub (.bif .len (.cons (.fld (.var 0) "kept") .nil)) (.cst (.int 1))) .nil))))) (.not (.val (.cal false 15 [] (.cons (.var 2) (.cons (.cst (.int 1)) .nil))))))
  (.cons (.rai 6)
  .nil)
  .nil)
  .nil)
def f28 : FnD := ⟨["self", "pot", "side"], 3, b28⟩
-- 29: Book.show(self, pot, word); 0:self 1:pot 2:word
def b29 : Bk := (.cons (.drop (.met false (.var 0) "look_for" [(8, 28, [.int 0])] (.cons (.var 1) .nil)))
  (.cons (.ite (.not (.val (.cal false 15 [] (.cons (.var 2) (.cons (.glb (.int 59)) .nil)))))
  (.cons (.rai 6)
  .nil)
  .nil)
  (.cons (.drop (.dse (.idx (.fld (.var 0) "shows") (.var 1)) (.var 2) (.fld (.var 0) "now")))
  .nil)))
def f29 : FnD := ⟨["self", "pot", "word"], 3, b29⟩
-- 30: Book.agreed(self, pot, side, stand, agreement); 0:self 1:pot 2:side 3:stand 4:agreement
def b30 : Bk := (.cons (.ite (.cmp .Eq (.var 3) (.cal false 21 [] (.cons (.idx (.idx (.fld (.var 0) "kept") (.var 1)) (.cst (.int 2))) (.cons (.idx (.idx (.fld (.var 0) "kept") (.var 1)) (.cst (.int 3))) .nil))))
  (.cons (.ret (.cst (.bl true)))
  .nil)
  .nil)
  (.cons (.ret (.cmp .Eq (.var 4) (.tup (.cons (.cst (.str "agree")) (.cons (.var 1) (.cons (.bin .Sub (.cst (.int 1)) (.var 2)) (.cons (.var 3) .nil)))))))
  .nil))
def f30 : FnD := ⟨["self", "pot", "side", "stand", "agreement"], 5, b30⟩
-- 31: Book.lay(self, pot, side, stand, agreement); 0:self 1:pot 2:side 3:stand 4:agreement
def b31 : Bk := (.cons (.drop (.met false (.var 0) "look_for" [(8, 28, [])] (.cons (.var 1) (.cons (.var 2) .nil))))
  (.cons (.ite (.or (.not (.val (.cal false 19 [] (.cons (.var 3) .nil)))) (.cmp .NotEq (.cal false 22 [] (.cons (.var 3) .nil)) (.fld (.idx (.fld (.var 0) "claims") (.var 1)) "whole")))
  (.cons (.rai 5)
  .nil)
  .nil)
  (.cons (.ite (.or (.cmp .NotEq (.met false (.var 0) "told" [(8, 33, [])] (.cons (.var 1) .nil)) (.tup (.cons (.cst (.str "held")) .nil))) (.not (.val (.met false (.var 0) "agreed" [(8, 30, [])] (.cons (.var 1) (.cons (.var 2) (.cons (.var 3) (.cons (.var 4) .nil))))))))
  (.cons (.rai 6)
  .nil)
  .nil)
  (.cons (.sub (.fld (.var 0) "claims") (.var 1) (.mak true 2 7 [] (.cons (.fld (.idx (.fld (.var 0) "claims") (.var 1)) "whole") (.cons (.var 2) (.cons (.var 3) (.cons (.fld (.var 0) "now") (.cons (.idx (.idx (.fld (.var 0) "kept") (.var 1)) (.cst (.int 4))) .nil)))))))
  .nil))))
def f31 : FnD := ⟨["self", "pot", "side", "stand", "agreement"], 5, b31⟩
-- 32: Book.strike(self, pot, side, thing); 0:self 1:pot 2:side 3:thing
def b32 : Bk := (.cons (.drop (.met false (.var 0) "look_for" [(8, 28, [])] (.cons (.var 1) (.cons (.var 2) .nil))))
  (.cons (.ite (.not (.val (.met false (.idx (.fld (.var 0) "claims") (.var 1)) "may_strike" [(0, 3, []), (1, 3, []), (2, 10, []), (3, 3, [])] (.cons (.var 1) (.cons (.var 2) (.cons (.fld (.var 0) "now") (.cons (.var 3) .nil)))))))
  (.cons (.rai 6)
  .nil)
  .nil)
  (.cons (.sub (.fld (.var 0) "claims") (.var 1) (.mak true 3 11 [] (.cons (.fld (.idx (.fld (.var 0) "claims") (.var 1)) "whole") (.cons (.var 2) .nil))))
  .nil)))
def f32 : FnD := ⟨["self", "pot", "side", "thing"], 4, b32⟩
-- 33: Book.told(self, pot); 0:self 1:pot
def b33 : Bk := (.cons (.drop (.met false (.var 0) "look_for" [(8, 28, [.int 0])] (.cons (.var 1) .nil)))
  (.cons (.ret (.met false (.idx (.fld (.var 0) "claims") (.var 1)) "told" [(0, 1, []), (1, 5, []), (2, 8, []), (3, 12, [])] .nil))
  .nil))
def f33 : FnD := ⟨["self", "pot"], 2, b33⟩
-- 34: Book.shown_for(self, pot); 0:self 1:pot
def b34 : Bk := (.cons (.drop (.met false (.var 0) "look_for" [(8, 28, [.int 0])] (.cons (.var 1) .nil)))
  (.cons (.ret (.bnw .dict (.cons (.idx (.fld (.var 0) "shows") (.var 1)) .nil)))
  .nil))
def f34 : FnD := ⟨["self", "pot"], 2, b34⟩
-- 35: Book.due_of(self, pot); 0:self 1:pot
def b35 : Bk := (.cons .never
  .nil)
def f35 : FnD := ⟨["self", "pot"], 2, b35⟩
-- 36: Book.coin_of(self, hand); 0:self 1:hand
def b36 : Bk := (.cons .never
  .nil)
def f36 : FnD := ⟨["self", "hand"], 2, b36⟩
-- 37: Book.is_over(self); 0:self
def b37 : Bk := (.cons .never
  .nil)
def f37 : FnD := ⟨["self"], 1, b37⟩
-- 38: Book.all_shown(self); 0:self 1:word 2:shown
def x38_0 : Ex := (.cmp .In (.var 1) (.var 2))
def x38_1 : Ex := (.var 1)
def b38 : Bk := (.cons (.ret (.cmn x38_1 (.nm 1) (.rg1 (.bin .Add (.glb (.int 59)) (.cst (.int 1)))) (.so (.val (.bif .any (.cons (.com x38_0 (.nm 2) (.seq (.fld (.var 0) "shows")) .no [("shown", 2)]) .nil)))) [("word", 1)]))
  .nil)
def f38 : FnD := ⟨["self", "word", "shown"], 1, b38⟩
-- 39: _law_cell_at(_law_script, _law_k); 0:_law_script 1:_law_k
def b39 : Bk := (.cons (.ite (.cmp .Lt (.var 1) (.bif .len (.cons (.var 0) .nil)))
  (.cons (.ret (.idx (.var 0) (.var 1)))
  .nil)
  .nil)
  (.cons (.ret (.cst (.int 0)))
  .nil))
def f39 : FnD := ⟨["_law_script", "_law_k"], 2, b39⟩
-- 40: _law_mixed(_law_cell, _law_k); 0:_law_cell 1:_law_k 2:_law_number
def b40 : Bk := (.cons (.ite (.cmp .Eq (.bin .Mod (.var 0) (.cst (.int 2))) (.cst (.int 0)))
  (.cons (.ret (.bin .BitAnd (.bin .RShift (.bin .FloorDiv (.var 0) (.cst (.int 2))) (.bin .Mult (.cst (.int 41)) (.var 1))) (.cst (.int 2199023255551))))
  .nil)
  .nil)
  (.cons (.asg (.nm 2) (.bin .Mod (.bin .Mult (.bin .Add (.bin .Add (.bin .Mod (.var 0) (.cst (.int 2147483647))) (.bin .Mult (.cst (.int 7919)) (.var 1))) (.cst (.int 1))) (.cst (.int 48271))) (.cst (.int 2147483647))))
  (.cons (.asg (.nm 2) (.bin .Mod (.bin .Mult (.var 2) (.bin .Add (.bin .FloorDiv (.var 2) (.cst (.int 1009))) (.cst (.int 69621)))) (.cst (.int 2147483647))))
  (.cons (.ret (.bin .Mod (.bin .Mult (.var 2) (.bin .Add (.bin .Add (.bin .FloorDiv (.var 2) (.cst (.int 4099))) (.cst (.int 16807))) (.var 1))) (.cst (.int 2147483629))))
  .nil))))
def f40 : FnD := ⟨["_law_cell", "_law_k", "_law_number"], 2, b40⟩
-- 41: _law_small_stand(_law_cell, _law_whole); 0:_law_cell 1:_law_whole 2:_law_left 3:_law_ties 4:_law_words 5:_law_k 6:_law_share 7:_law_number 8:_law_amount 9:_law_word
def b41_0 : Bk := (.cons (.asg (.nm 7) (.cal false 40 [] (.cons (.bin .FloorDiv (.var 0) (.cst (.int 7))) (.cons (.var 5) .nil))))
  (.cons (.asg (.nm 8) (.bif .min (.cons (.var 2) (.cons (.bin .Add (.cst (.int 1)) (.bin .Mod (.bin .FloorDiv (.var 7) (.cst (.int 7))) (.idx (.lst (.cons (.cst (.int 9)) (.cons (.bin .Add (.cst (.int 1)) (.var 1)) .nil))) (.bin .FloorDiv (.bin .Mod (.var 7) (.cst (.int 7))) (.cst (.int 6)))))) .nil))))
  (.cons (.asg (.nm 9) (.bin .Mod (.bin .FloorDiv (.var 7) (.cst (.int 70))) (.cst (.int 12))))
  (.cons (.ite (.and (.cmp .Gt (.var 8) (.cst (.int 0))) (.cmp .NotIn (.var 9) (.var 4)))
  (.cons (.drop (.bim .append (.var 4) (.cons (.var 9) .nil)))
  (.cons (.asg (.nm 2) (.bin .Sub (.var 2) (.var 8)))
  (.cons (.asg (.nm 3) (.bin .Add (.var 3) (.tup (.cons (.tup (.cons (.bin .Mod (.bin .FloorDiv (.var 7) (.cst (.int 840))) (.cst (.int 2))) (.cons (.var 8) (.cons (.var 9) (.cons (.bin .Mod (.bin .FloorDiv (.var 7) (.cst (.int 1680))) (.cst (.int 30))) .nil))))) .nil))))
  .nil)))
  .nil)
  (.wip [5, 7, 8, 9] .nil)))))
def b41 : Bk := (.cons (.asg (.nm 2) (.var 1))
  (.cons (.asg (.nm 3) (.tup .nil))
  (.cons (.asg (.nm 4) (.new .nil))
  (.wip [5, 7, 8, 9] (.cons (.for (.rg1 (.bin .Mod (.var 0) (.cst (.int 7)))) (.nm 5)
  b41_0)
  (.cons (.asg (.nm 6) (.bin .Mod (.cal false 40 [] (.cons (.bin .FloorDiv (.var 0) (.cst (.int 7))) (.cons (.cst (.int 9)) .nil))) (.bin .Add (.var 2) (.cst (.int 1)))))
  (.cons (.ret (.tup (.cons (.bin .Mod (.bin .FloorDiv (.var 0) (.cst (.int 7))) (.cst (.int 7))) (.cons (.tup (.cons (.var 6) (.cons (.bin .Sub (.var 2) (.var 6)) .nil))) (.cons (.var 3) .nil)))))
  .nil)))))))
def f41 : FnD := ⟨["_law_cell", "_law_whole", "_law_left", "_law_ties", "_law_words", "_law_k", "_law_share", "_law_number", "_law_amount", "_law_word"], 2, b41⟩
-- 42: _law_laid(_law_model, _law_cell); 0:_law_model 1:_law_cell 2:_law_pot 3:_law_side 4:_law_whole 5:_law_begin 6:_law_other 7:_law_one 8:_law_agree 9:_law_some
def b42 : Bk := (.cons (.asg (.nm 2) (.bin .Mod (.bin .FloorDiv (.var 1) (.cst (.int 5))) (.bif .len (.cons (.idx (.var 0) (.cst (.str "pots"))) .nil))))
  (.cons (.asg (.nm 3) (.bin .Mod (.bin .FloorDiv (.var 1) (.cst (.int 15))) (.cst (.int 2))))
  (.cons (.asg (.nm 4) (.bin .Add (.idx (.idx (.idx (.var 0) (.cst (.str "pots"))) (.var 2)) (.cst (.int 2))) (.idx (.idx (.idx (.var 0) (.cst (.str "pots"))) (.var 2)) (.cst (.int 3)))))
  (.cons (.asg (.nm 5) (.tup (.cons (.cst (.int 0)) (.cons (.tup (.cons (.idx (.idx (.idx (.var 0) (.cst (.str "pots"))) (.var 2)) (.cst (.int 2))) (.cons (.idx (.idx (.idx (.var 0) (.cst (.str "pots"))) (.var 2)) (.cst (.int 3))) .nil))) (.cons (.tup .nil) .nil)))))
  (.cons (.asg (.nm 6) (.cal true 41 [] (.cons (.bin .FloorDiv (.var 1) (.cst (.int 30))) (.cons (.var 4) .nil))))
  (.cons (.asg (.nm 7) (.idx (.lst (.cons (.var 5) (.cons (.var 6) (.cons (.var 6) (.cons (.cal true 41 [] (.cons (.bin .FloorDiv (.var 1) (.cst (.int 30))) (.cons (.bin .Add (.var 4) (.cst (.int 1))) .nil))) .nil))))) (.bin .Mod (.bin .FloorDiv (.var 1) (.cst (.int 30))) (.cst (.int 4)))))
  (.cons (.ite (.cmp .Eq (.bin .Mod (.bin .FloorDiv (.var 1) (.cst (.int 30))) (.cst (.int 17))) (.cst (.int 3)))
  (.cons (.asg (.nm 7) (.idx (.lst (.cons (.cst (.non)) (.cons (.tup (.cons (.cst (.int 1)) (.cons (.tup (.cons (.var 4) (.cons (.cst (.int 0)) .nil))) .nil))) (.cons (.tup (.cons (.cst (.int 1)) (.cons (.tup (.cons (.var 4) (.cons (.neg (.cst (.int 1))) .nil))) (.cons (.tup (.cons (.tup (.cons (.cst (.int 0)) (.cons (.cst (.int 1)) (.cons (.cst (.int 1)) (.cons (.cst (.int 1)) .nil))))) .nil)) .nil)))) (.cons (.bif .list (.cons (.var 5) .nil)) .nil))))) (.bin .Mod (.bin .FloorDiv (.var 1) (.cst (.int 510))) (.cst (.int 4)))))
  .nil)
  .nil)
  (.cons (.asg (.nm 8) (.tup (.cons (.cst (.str "agree")) (.cons (.var 2) (.cons (.bin .Sub (.cst (.int 1)) (.var 3)) (.cons (.var 7) .nil))))))
  (.cons (.asg (.nm 9) (.lst (.cons (.var 8) (.cons (.var 8) (.cons (.var 8) (.cons (.cst (.non)) (.cons (.tup (.cons (.cst (.str "agree")) (.cons (.var 2) (.cons (.var 3) (.cons (.var 7) .nil))))) (.cons (.tup (.cons (.cst (.str "agree")) (.cons (.bin .Mod (.bin .Add (.var 2) (.cst (.int 1))) (.cst (.int 3))) (.cons (.bin .Sub (.cst (.int 1)) (.var 3)) (.cons (.var 7) .nil))))) .nil))))))))
  (.cons (.asg (.nm 9) (.bin .Add (.var 9) (.lst (.cons (.tup (.cons (.cst (.str "strike")) (.cons (.var 2) (.cons (.bin .Sub (.cst (.int 1)) (.var 3)) (.cons (.cst (.int 0)) .nil))))) (.cons (.tup (.cons (.cst (.str "agree")) (.cons (.var 2) (.cons (.bin .Sub (.cst (.int 1)) (.var 3)) (.cons (.tup (.cons (.cst (.int 9)) (.cons (.tup (.cons (.var 4) (.cons (.cst (.int 0)) .nil))) (.cons (.tup .nil) .nil)))) .nil))))) .nil)))))
  (.cons (.asg (.nm 2) (.idx (.lst (.cons (.var 2) (.cons (.var 2) (.cons (.var 2) (.cons (.var 2) (.cons (.bif .len (.cons (.idx (.var 0) (.cst (.str "pots"))) .nil)) (.cons (.neg (.cst (.int 1))) .nil))))))) (.bin .Mult (.bin .Mod (.bin .Mod (.bin .FloorDiv (.var 1) (.cst (.int 7))) (.cst (.int 31))) (.cst (.int 6))) (.bin .FloorDiv (.bin .Mod (.bin .FloorDiv (.var 1) (.cst (.int 11))) (.cst (.int 5))) (.cst (.int 4))))))
  (.cons (.asg (.nm 3) (.idx (.lst (.cons (.var 3) (.cons (.var 3) (.cons (.var 3) (.cons (.cst (.int 2)) (.cons (.neg (.cst (.int 1))) .nil)))))) (.bin .Mult (.bin .Mod (.bin .Mod (.bin .FloorDiv (.var 1) (.cst (.int 13))) (.cst (.int 29))) (.cst (.int 5))) (.bin .FloorDiv (.bin .Mod (.bin .FloorDiv (.var 1) (.cst (.int 17))) (.cst (.int 7))) (.cst (.int 6))))))
  (.cons (.ret (.tup (.cons (.cst (.str "lay")) (.cons (.var 2) (.cons (.var 3) (.cons (.var 7) (.cons (.idx (.var 9) (.bin .Mod (.bin .FloorDiv (.var 1) (.cst (.int 120))) (.cst (.int 8)))) .nil)))))))
  .nil)))))))))))))
def f42 : FnD := ⟨["_law_model", "_law_cell", "_law_pot", "_law_side", "_law_whole", "_law_begin", "_law_other", "_law_one", "_law_agree", "_law_some"], 2, b42⟩
-- 43: _law_struck(_law_model, _law_cell); 0:_law_model 1:_law_cell 2:_law_pot 3:_law_claim 4:_law_side 5:_law_number 6:_law_right 7:_law_some
def b43 : Bk := (.cons (.asg (.nm 2) (.bin .Mod (.bin .FloorDiv (.var 1) (.cst (.int 5))) (.bif .len (.cons (.idx (.var 0) (.cst (.str "pots"))) .nil))))
  (.cons (.asg (.nm 3) (.idx (.idx (.var 0) (.cst (.str "claims"))) (.var 2)))
  (.cons (.asg (.nm 4) (.bin .Mod (.bin .FloorDiv (.var 1) (.cst (.int 15))) (.cst (.int 2))))
  (.cons (.asg (.nm 5) (.cst (.int 0)))
  (.cons (.ite (.cmp .Eq (.idx (.var 3) (.cst (.int 0))) (.cst (.str "laid")))
  (.cons (.asg (.nm 4) (.idx (.lst (.cons (.bin .Sub (.cst (.int 1)) (.idx (.var 3) (.cst (.int 1)))) (.cons (.bin .Sub (.cst (.int 1)) (.idx (.var 3) (.cst (.int 1)))) (.cons (.bin .Sub (.cst (.int 1)) (.idx (.var 3) (.cst (.int 1)))) (.cons (.idx (.var 3) (.cst (.int 1))) .nil))))) (.bin .Mod (.bin .FloorDiv (.var 1) (.cst (.int 15))) (.cst (.int 4)))))
  (.cons (.asg (.nm 5) (.idx (.idx (.var 3) (.cst (.int 2))) (.cst (.int 0))))
  .nil))
  .nil)
  (.cons (.asg (.nm 6) (.tup (.cons (.cst (.str "strike")) (.cons (.var 2) (.cons (.bin .Sub (.cst (.int 1)) (.var 4)) (.cons (.var 5) .nil))))))
  (.cons (.asg (.nm 7) (.lst (.cons (.var 6) (.cons (.var 6) (.cons (.var 6) (.cons (.tup (.cons (.cst (.str "strike")) (.cons (.var 2) (.cons (.var 4) (.cons (.var 5) .nil))))) (.cons (.tup (.cons (.cst (.str "strike")) (.cons (.var 2) (.cons (.bin .Sub (.cst (.int 1)) (.var 4)) (.cons (.bin .Add (.var 5) (.cst (.int 1))) .nil))))) .nil)))))))
  (.cons (.asg (.nm 7) (.bin .Add (.var 7) (.lst (.cons (.cst (.non)) (.cons (.tup (.cons (.cst (.str "word")) (.cons (.cst (.int 3)) .nil))) .nil)))))
  (.cons (.asg (.nm 2) (.idx (.lst (.cons (.var 2) (.cons (.var 2) (.cons (.var 2) (.cons (.bif .len (.cons (.idx (.var 0) (.cst (.str "pots"))) .nil)) (.cons (.neg (.cst (.int 1))) (.cons (.cst (.int 7)) .nil))))))) (.bin .Mult (.bin .Mod (.bin .Mod (.bin .FloorDiv (.var 1) (.cst (.int 7))) (.cst (.int 31))) (.cst (.int 6))) (.bin .FloorDiv (.bin .Mod (.bin .FloorDiv (.var 1) (.cst (.int 11))) (.cst (.int 5))) (.cst (.int 4))))))
  (.cons (.asg (.nm 4) (.idx (.lst (.cons (.var 4) (.cons (.var 4) (.cons (.cst (.int 2)) (.cons (.neg (.cst (.int 1))) .nil))))) (.bin .Mult (.bin .Mod (.bin .Mod (.bin .FloorDiv (.var 1) (.cst (.int 13))) (.cst (.int 29))) (.cst (.int 4))) (.bin .FloorDiv (.bin .Mod (.bin .FloorDiv (.var 1) (.cst (.int 17))) (.cst (.int 5))) (.cst (.int 4))))))
  (.cons (.ret (.tup (.cons (.cst (.str "strike")) (.cons (.var 2) (.cons (.var 4) (.cons (.idx (.var 7) (.bin .Mod (.bin .FloorDiv (.var 1) (.cst (.int 60))) (.cst (.int 7)))) .nil))))))
  .nil)))))))))))
def f43 : FnD := ⟨["_law_model", "_law_cell", "_law_pot", "_law_claim", "_law_side", "_law_number", "_law_right", "_law_some"], 2, b43⟩
-- 44: _law_deed(_law_model, _law_cell); 0:_law_model 1:_law_cell 2:_law_word
def b44 : Bk := (.cons (.ite (.cmp .Eq (.bin .Mod (.var 1) (.cst (.int 5))) (.cst (.int 0)))
  (.cons (.ret (.tup (.cons (.cst (.str "day")) .nil)))
  .nil)
  .nil)
  (.cons (.ite (.cmp .Eq (.bin .Mod (.var 1) (.cst (.int 5))) (.cst (.int 1)))
  (.cons (.asg (.nm 2) (.idx (.lst (.cons (.bin .Mod (.bin .FloorDiv (.var 1) (.cst (.int 25))) (.cst (.int 12))) (.cons (.bin .Mod (.bin .FloorDiv (.var 1) (.cst (.int 25))) (.cst (.int 60))) (.cons (.cst (.int 60)) (.cons (.neg (.cst (.int 1))) .nil))))) (.bin .Mult (.bin .FloorDiv (.bin .Mod (.bin .FloorDiv (.var 1) (.cst (.int 25))) (.cst (.int 8))) (.cst (.int 2))) (.bin .Mod (.bin .FloorDiv (.var 1) (.cst (.int 200))) (.cst (.int 2))))))
  (.cons (.ret (.tup (.cons (.cst (.str "show")) (.cons (.idx (.lst (.cons (.bin .Mod (.bin .FloorDiv (.var 1) (.cst (.int 5))) (.bif .len (.cons (.idx (.var 0) (.cst (.str "pots"))) .nil))) (.cons (.bin .Sub (.bin .Mod (.bin .FloorDiv (.var 1) (.cst (.int 5))) (.cst (.int 4))) (.cst (.int 1))) .nil))) (.bin .FloorDiv (.bin .Mod (.bin .FloorDiv (.var 1) (.cst (.int 450))) (.cst (.int 5))) (.cst (.int 4)))) (.cons (.var 2) .nil)))))
  .nil))
  .nil)
  (.wip [2] (.cons (.ite (.cmp .Eq (.bin .Mod (.var 1) (.cst (.int 5))) (.cst (.int 2)))
  (.cons (.ret (.cal false 43 [] (.cons (.var 0) (.cons (.var 1) .nil))))
  .nil)
  .nil)
  (.cons (.ret (.cal false 42 [] (.cons (.var 0) (.cons (.var 1) .nil))))
  .nil)))))
def f44 : FnD := ⟨["_law_model", "_law_cell", "_law_word"], 2, b44⟩
-- 45: _law_is_stand(_law_one, _law_whole); 0:_law_one 1:_law_whole 2:_law_tie
def x45_0 : Ex := (.idx (.var 2) (.cst (.int 1)))
def b45 : Bk := (.cons (.ite (.or (.not (.val (.isi .tup (.var 0)))) (.or (.cmp .NotEq (.bif .len (.cons (.var 0) .nil)) (.cst (.int 3))) (.cmp .Lt (.bif .min (.cons (.idx (.var 0) (.cst (.int 1))) .nil)) (.cst (.int 0)))))
  (.cons (.ret (.cst (.bl false)))
  .nil)
  .nil)
  (.cons (.ret (.cmp .Eq (.bin .Add (.bif .sum (.cons (.idx (.var 0) (.cst (.int 1))) .nil)) (.bif .sum (.cons (.com x45_0 (.nm 2) (.seq (.idx (.var 0) (.cst (.int 2)))) .no [("_law_tie", 2)]) .nil))) (.var 1)))
  .nil))
def f45 : FnD := ⟨["_law_one", "_law_whole", "_law_tie"], 2, b45⟩
-- 46: _law_due(_law_model, _law_deed_here); 0:_law_model 1:_law_deed_here 2:_law_pot 3:_law_claim 4:_law_left 5:_law_right 6:_law_one 7:_law_other 8:_law_wait
def b46 : Bk := (.cons (.ite (.cmp .Eq (.idx (.var 1) (.cst (.int 0))) (.cst (.str "day")))
  (.cons (.sub (.var 0) (.cst (.str "day")) (.bin .Add (.idx (.var 0) (.cst (.str "day"))) (.cst (.int 1))))
  (.cons (.ret (.cst (.str "done")))
  .nil))
  .nil)
  (.cons (.asg (.nm 2) (.idx (.var 1) (.cst (.int 1))))
  (.cons (.ite (.or (.cmp .Lt (.var 2) (.cst (.int 0))) (.cmp .GtE (.var 2) (.bif .len (.cons (.idx (.var 0) (.cst (.str "pots"))) .nil))))
  (.cons (.ret (.cst (.str "deed")))
  .nil)
  .nil)
  (.cons (.ite (.cmp .Eq (.idx (.var 1) (.cst (.int 0))) (.cst (.str "show")))
  (.cons (.ite (.or (.cmp .Lt (.idx (.var 1) (.cst (.int 2))) (.cst (.int 0))) (.cmp .Gt (.idx (.var 1) (.cst (.int 2))) (.cst (.int 59))))
  (.cons (.ret (.cst (.str "deed")))
  .nil)
  .nil)
  (.cons (.drop (.dse (.idx (.idx (.var 0) (.cst (.str "shows"))) (.var 2)) (.idx (.var 1) (.cst (.int 2))) (.idx (.var 0) (.cst (.str "day")))))
  (.cons (.ret (.cst (.str "done")))
  .nil)))
  .nil)
  (.cons (.ite (.cmp .NotIn (.idx (.var 1) (.cst (.int 2))) (.lst (.cons (.cst (.int 0)) (.cons (.cst (.int 1)) .nil))))
  (.cons (.ret (.cst (.str "deed")))
  .nil)
  .nil)
  (.cons (.asg (.nm 3) (.idx (.idx (.var 0) (.cst (.str "claims"))) (.var 2)))
  (.cons (.asg (.tp [(.nm 4), (.nm 5), (.nm 6), (.nm 7), (.nm 8)]) (.idx (.idx (.var 0) (.cst (.str "pots"))) (.var 2)))
  (.cons (.ite (.cmp .Eq (.idx (.var 1) (.cst (.int 0))) (.cst (.str "strike")))
  (.cons (.ite (.or (.cmp .NotEq (.idx (.var 3) (.cst (.int 0))) (.cst (.str "laid"))) (.or (.cmp .Eq (.idx (.var 3) (.cst (.int 1))) (.idx (.var 1) (.cst (.int 2)))) (.cmp .GtE (.idx (.var 0) (.cst (.str "day"))) (.bin .Add (.idx (.var 3) (.cst (.int 3))) (.var 8)))))
  (.cons (.ret (.cst (.str "deed")))
  .nil)
  .nil)
  (.cons (.ite (.cmp .NotEq (.idx (.var 1) (.cst (.int 3))) (.tup (.cons (.cst (.str "strike")) (.cons (.var 2) (.cons (.idx (.var 3) (.cst (.int 1))) (.cons (.idx (.idx (.var 3) (.cst (.int 2))) (.cst (.int 0))) .nil))))))
  (.cons (.ret (.cst (.str "deed")))
  .nil)
  .nil)
  (.cons (.sub (.idx (.var 0) (.cst (.str "claims"))) (.var 2) (.tup (.cons (.cst (.str "taken")) (.cons (.idx (.var 1) (.cst (.int 2))) .nil))))
  (.cons (.ret (.cst (.str "done")))
  .nil))))
  .nil)
  (.cons (.ite (.not (.val (.cal false 45 [] (.cons (.idx (.var 1) (.cst (.int 3))) (.cons (.bin .Add (.var 6) (.var 7)) .nil)))))
  (.cons (.ret (.cst (.str "stand")))
  .nil)
  .nil)
  (.cons (.ite (.or (.cmp .NotEq (.var 3) (.tup (.cons (.cst (.str "held")) .nil))) (.and (.cmp .NotEq (.idx (.var 1) (.cst (.int 3))) (.tup (.cons (.cst (.int 0)) (.cons (.tup (.cons (.var 6) (.cons (.var 7) .nil))) (.cons (.tup .nil) .nil))))) (.cmp .NotEq (.idx (.var 1) (.cst (.int 4))) (.tup (.cons (.cst (.str "agree")) (.cons (.var 2) (.cons (.bin .Sub (.cst (.int 1)) (.idx (.var 1) (.cst (.int 2)))) (.cons (.idx (.var 1) (.cst (.int 3))) .nil))))))))
  (.cons (.ret (.cst (.str "deed")))
  .nil)
  .nil)
  (.cons (.sub (.idx (.var 0) (.cst (.str "claims"))) (.var 2) (.tup (.cons (.cst (.str "laid")) (.cons (.idx (.var 1) (.cst (.int 2))) (.cons (.idx (.var 1) (.cst (.int 3))) (.cons (.idx (.var 0) (.cst (.str "day"))) .nil))))))
  (.cons (.ret (.cst (.str "done")))
  .nil))))))))))))
def f46 : FnD := ⟨["_law_model", "_law_deed_here", "_law_pot", "_law_claim", "_law_left", "_law_right", "_law_one", "_law_other", "_law_wait"], 2, b46⟩
-- 47: _law_done(_law_book, _law_deed_here); 0:_law_book 1:_law_deed_here 2:_law_word 3:_law_plain 4:e
def b47 : Bk := (.cons (.asg (.nm 2) (.cst (.str "done")))
  (.cons (.asg (.nm 3) (.cst (.bl true)))
  (.cons (.try (.cons (.ite (.cmp .Eq (.idx (.var 1) (.cst (.int 0))) (.cst (.str "day")))
  (.cons (.drop (.met false (.var 0) "next_day" [(8, 27, [])] .nil))
  .nil)
  (.cons (.ite (.cmp .Eq (.idx (.var 1) (.cst (.int 0))) (.cst (.str "show")))
  (.cons (.drop (.met false (.var 0) "show" [(8, 29, [])] (.cons (.idx (.var 1) (.cst (.int 1))) (.cons (.idx (.var 1) (.cst (.int 2))) .nil))))
  .nil)
  (.cons (.ite (.cmp .Eq (.idx (.var 1) (.cst (.int 0))) (.cst (.str "strike")))
  (.cons (.drop (.met false (.var 0) "strike" [(8, 32, [])] (.cons (.idx (.var 1) (.cst (.int 1))) (.cons (.idx (.var 1) (.cst (.int 2))) (.cons (.idx (.var 1) (.cst (.int 3))) .nil)))))
  .nil)
  (.cons (.ite (.cmp .Is (.idx (.var 1) (.cst (.int 4))) (.cst (.non)))
  (.cons (.drop (.met false (.var 0) "lay" [(8, 31, [.non])] (.cons (.idx (.var 1) (.cst (.int 1))) (.cons (.idx (.var 1) (.cst (.int 2))) (.cons (.idx (.var 1) (.cst (.int 3))) .nil)))))
  .nil)
  (.cons (.drop (.met false (.var 0) "lay" [(8, 31, [])] (.cons (.idx (.var 1) (.cst (.int 1))) (.cons (.idx (.var 1) (.cst (.int 2))) (.cons (.idx (.var 1) (.cst (.int 3))) (.cons (.idx (.var 1) (.cst (.int 4))) .nil))))))
  .nil))
  .nil))
  .nil))
  .nil))
  .nil)
  (.cons (some 4) [(4, false), (5, false), (6, true), (7, false)]
  (.cons (.asg (.nm 2) (.cst (.str "deed")))
  (.cons (.asg (.nm 3) (.and (.isx 4 [(6, true)]) (.not (.isx 4 [(6, false)]))))
  .nil))
  (.cons (some 4) [(4, false), (5, true), (7, false)]
  (.cons (.asg (.nm 2) (.cst (.str "stand")))
  (.cons (.asg (.nm 3) (.and (.isx 4 [(5, true)]) (.not (.isx 4 [(5, false)]))))
  .nil))
  .nil)))
  (.cons (.ret (.idx (.lst (.cons (.var 2) (.cons (.cst (.str "mixed")) .nil))) (.not (.var 3))))
  .nil))))
def f47 : FnD := ⟨["_law_book", "_law_deed_here", "_law_word", "_law_plain", "e"], 2, b47⟩
-- 48: _law_stands(_law_book, _law_model); 0:_law_book 1:_law_model 2:_law_words 3:_law_pot
def b48_0 : Bk := (.cons (.ite (.or (.cmp .NotEq (.met false (.var 0) "told" [(8, 33, [])] (.cons (.var 3) .nil)) (.idx (.idx (.var 1) (.cst (.str "claims"))) (.var 3))) (.cmp .NotEq (.met false (.var 0) "shown_for" [(8, 34, [])] (.cons (.var 3) .nil)) (.idx (.idx (.var 1) (.cst (.str "shows"))) (.var 3))))
  (.cons (.ret (.cst (.bl false)))
  .nil)
  .nil)
  (.cons (.asg (.nm 2) (.bin .Add (.var 2) (.bif .list (.cons (.idx (.idx (.var 1) (.cst (.str "shows"))) (.var 3)) .nil))))
  (.wip [3] .nil)))
def b48 : Bk := (.cons (.ite (.cmp .NotEq (.met false (.var 0) "today" [(8, 26, [])] .nil) (.idx (.var 1) (.cst (.str "day"))))
  (.cons (.ret (.cst (.bl false)))
  .nil)
  .nil)
  (.cons (.asg (.nm 2) (.lst .nil))
  (.wip [3] (.cons (.for (.rg1 (.bif .len (.cons (.idx (.var 1) (.cst (.str "pots"))) .nil))) (.nm 3)
  b48_0)
  (.cons (.drop (.dcr (.met false (.var 0) "shown_for" [(8, 34, [])] (.cons (.cst (.int 0)) .nil))))
  (.cons (.drop (.bim .append (.met false (.var 0) "all_shown" [(8, 38, [])] .nil) (.cons (.cst (.int 99)) .nil)))
  (.cons (.ret (.and (.cmp .Eq (.met false (.var 0) "all_shown" [(8, 38, [])] .nil) (.sst (.var 2))) (.cmp .Eq (.met false (.var 0) "shown_for" [(8, 34, [])] (.cons (.cst (.int 0)) .nil)) (.idx (.idx (.var 1) (.cst (.str "shows"))) (.cst (.int 0))))))
  .nil)))))))
def f48 : FnD := ⟨["_law_book", "_law_model", "_law_words", "_law_pot"], 2, b48⟩
-- 49: law(_law_script); 0:_law_script 1:_law_pots 2:_law_k 3:_law_book 4:_law_model 5:_law_cell 6:_law_number 7:_law_deed_here 8:_law_pot
def b49_0 : Bk := (.cons (.asg (.nm 7) (.cal false 44 [] (.cons (.var 4) (.cons (.var 5) .nil))))
  (.cons (.ite (.cmp .NotEq (.cal false 47 [] (.cons (.var 3) (.cons (.var 7) .nil))) (.cal false 46 [] (.cons (.var 4) (.cons (.var 7) .nil))))
  (.cons (.ret (.cst (.bl false)))
  .nil)
  .nil)
  (.cons (.ite (.not (.val (.cal false 48 [] (.cons (.var 3) (.cons (.var 4) .nil)))))
  (.cons (.ret (.cst (.bl false)))
  .nil)
  .nil)
  (.wip [5, 7] .nil))))
def x49_1 : Ex := .dnw
def x49_2 : Ex := (.tup (.cons (.cst (.str "held")) .nil))
def b49_3 : Bk := (.cons (.asg (.nm 6) (.cal false 40 [] (.cons (.cal false 39 [] (.cons (.var 0) (.cons (.bin .Add (.cst (.int 1)) (.var 2)) .nil))) (.cons (.cst (.int 30)) .nil))))
  (.cons (.drop (.bim .append (.var 1) (.cons (.tup (.cons (.bin .Mod (.var 6) (.cst (.int 2))) (.cons (.bin .Add (.cst (.int 2)) (.bin .Mod (.bin .FloorDiv (.var 6) (.cst (.int 2))) (.cst (.int 2)))) (.cons (.bin .Mod (.bin .FloorDiv (.var 6) (.cst (.int 4))) (.cst (.int 41))) (.cons (.bin .Mod (.bin .FloorDiv (.var 6) (.cst (.int 164))) (.cst (.int 21))) (.cons (.bin .Add (.cst (.int 1)) (.bin .Mod (.bin .FloorDiv (.var 6) (.cst (.int 4000))) (.cst (.int 6)))) .nil)))))) .nil)))
  (.wip [2, 6] .nil)))
def b49 : Bk := (.cons (.asg (.nm 1) (.new .nil))
  (.wip [2, 6] (.cons (.for (.rg1 (.bin .Add (.cst (.int 1)) (.bin .Mod (.cal false 39 [] (.cons (.var 0) (.cons (.cst (.int 0)) .nil))) (.cst (.int 3))))) (.nm 2)
  b49_3)
  (.cons (.ite (.cmp .Eq (.bin .Mod (.bin .FloorDiv (.cal false 39 [] (.cons (.var 0) (.cons (.cst (.int 0)) .nil))) (.cst (.int 3))) (.cst (.int 4))) (.cst (.int 1)))
  (.cons (.asg (.nm 1) (.bin .Mult (.slc (.var 1) .no (.so (.cst (.int 1)))) (.bif .len (.cons (.var 1) .nil))))
  .nil)
  .nil)
  (.cons (.asg (.nm 3) (.mak false 8 24 [] (.cons (.var 1) .nil)))
  (.cons (.asg (.nm 4) (.dis (.cons (.cst (.str "pots")) (.var 1) (.cons (.cst (.str "day")) (.cst (.int 0)) (.cons (.cst (.str "claims")) (.cmn x49_2 (.nm 8) (.seq (.var 1)) .no [("_law_pot", 8)]) (.cons (.cst (.str "shows")) (.cmn x49_1 (.nm 8) (.seq (.var 1)) .no [("_law_pot", 8)]) .nil))))))
  (.wip [5, 7] (.cons (.for (.seq (.slc (.var 0) (.so (.cst (.int 4))) (.so (.cst (.int 44))))) (.nm 5)
  b49_0)
  (.cons (.ret (.cst (.bl true)))
  .nil)))))))))
def f49 : FnD := ⟨["_law_script", "_law_pots", "_law_k", "_law_book", "_law_model", "_law_cell", "_law_number", "_law_deed_here", "_law_pot"], 1, b49⟩
def fns : List FnD := [f0, f1, f2, f3, f4, f5, f6, f7, f8, f9, f10, f11, f12, f13, f14, f15, f16, f17, f18, f19, f20, f21, f22, f23, f24, f25, f26, f27, f28, f29, f30, f31, f32, f33, f34, f35, f36, f37, f38, f39, f40, f41, f42, f43, f44, f45, f46, f47, f48, f49]
def T : Tb where
  fn := ([⟨"_wall", []⟩, ⟨"told", []⟩, ⟨"comes", []⟩, ⟨"may_strike", []⟩, ⟨"__init__", []⟩, ⟨"told", []⟩, ⟨"comes", []⟩, ⟨"__init__", []⟩, ⟨"told", []⟩, ⟨"comes", []⟩, ⟨"may_strike", []⟩, ⟨"__init__", []⟩, ⟨"told", []⟩, ⟨"comes", []⟩, ⟨"__init__", []⟩, ⟨"in_bounds", [(2, [])]⟩, ⟨"is_tie", [(1, [])]⟩, ⟨"are_shares", [(1, [])]⟩, ⟨"are_ties", [(1, [])]⟩, ⟨"is_stand", [(1, [])]⟩, ⟨"stand", [(2, [.non])]⟩, ⟨"first", [(2, [])]⟩, ⟨"deals", [(1, [])]⟩, ⟨"is_pot", [(1, [])]⟩] : List (FnT)) ++ ([⟨"__init__", []⟩, ⟨"made_of", []⟩, ⟨"today", []⟩, ⟨"next_day", []⟩, ⟨"look_for", []⟩, ⟨"show", []⟩, ⟨"agreed", []⟩, ⟨"lay", []⟩, ⟨"strike", []⟩, ⟨"told", []⟩, ⟨"shown_for", []⟩, ⟨"due_of", []⟩, ⟨"coin_of", []⟩, ⟨"is_over", []⟩, ⟨"all_shown", []⟩, ⟨"_law_cell_at", [(2, [])]⟩, ⟨"_law_mixed", [(2, [])]⟩, ⟨"_law_small_stand", [(2, [])]⟩, ⟨"_law_laid", [(2, [])]⟩, ⟨"_law_struck", [(2, [])]⟩, ⟨"_law_deed", [(2, [])]⟩, ⟨"_law_is_stand", [(2, [])]⟩, ⟨"_law_due", [(2, [])]⟩, ⟨"_law_done", [(2, [])]⟩] : List (FnT)) ++ ([⟨"_law_stands", [(2, [])]⟩, ⟨"law", [(1, [])]⟩] : List (FnT))
  cs := ["Claim", "Held", "Laid", "Taken", "BookError", "NoStand", "NoDeed", "NoPot", "Book"]
  gl := [("MOST_DAY", .int 1000000), ("MOST_WORD", .int 59), ("MOST_COIN", .int 1000000000000), ("MOST_TIES", .int 6), ("MOST_NUMBER", .int 1000000), ("MOST_WAIT", .int 100), ("MOST_HAND", .int 3), ("MOST_POTS", .int 3)]
  bn := ["all", "any", "bool", "dict", "enumerate", "int", "isinstance", "len", "list", "min", "range", "set", "sorted", "sum", "tuple"]
  ft := [(1, "whole"), (2, "begun"), (2, "layer"), (2, "lying"), (2, "patience"), (2, "whole"), (3, "taker"), (3, "whole"), (8, "claims"), (8, "kept"), (8, "now"), (8, "shows")]
  me := [(0, "may_strike", 5, 3, []), (0, "told", 1, 1, []), (1, "may_strike", 5, 3, []), (1, "told", 1, 5, []), (2, "may_strike", 5, 10, []), (2, "told", 1, 8, []), (3, "may_strike", 5, 3, []), (3, "told", 1, 12, []), (8, "agreed", 5, 30, []), (8, "all_shown", 1, 38, []), (8, "lay", 4, 31, [.non]), (8, "lay", 5, 31, []), (8, "look_for", 2, 28, [.int 0]), (8, "look_for", 3, 28, []), (8, "next_day", 1, 27, []), (8, "show", 3, 29, []), (8, "shown_for", 2, 34, []), (8, "strike", 4, 32, []), (8, "today", 1, 26, []), (8, "told", 2, 33, [])]
  mks := [(1, "Held", 2, 4, []), (2, "Laid", 6, 7, []), (3, "Taken", 3, 11, []), (8, "Book", 2, 24, [])]
  ex := [(5, "NoStand"), (6, "NoDeed")]
  xn := ["BookError", "NoDeed", "NoStand"]
  xm := [(4, "NoDeed", false), (4, "NoStand", false), (5, "NoDeed", false), (5, "NoStand", true), (6, "NoDeed", true), (7, "NoDeed", false), (7, "NoStand", false)]
  xi := [(5, "BookError", true), (5, "NoDeed", false), (6, "BookError", true), (6, "NoStand", false)]
  ic := []
  tab := []
  inh := [(1, "may_strike", "Claim"), (3, "may_strike", "Claim")]
abbrev S (k i : Nat) : FC := semN fns T.f k i
abbrev M (k : Nat) : Sm := ⟨semN fns T.f k, T.f⟩
theorem q0 (k : Nat) {a0 : D} {h : Hh} : S (k + 1) 0 [a0] h = outB (evB (M k) none b0 [some a0] h) := body_out (n := 1) (np := 1) (b := evB (M k) none b0) (ds := [a0]) rfl
theorem q1 (k : Nat) {a0 : D} {h : Hh} : S (k + 1) 1 [a0] h = outB (evB (M k) none b1 [some a0] h) := body_out (n := 1) (np := 1) (b := evB (M k) none b1) (ds := [a0]) rfl
theorem q2 (k : Nat) {a0 a1 a2 : D} {h : Hh} : S (k + 1) 2 [a0, a1, a2] h = outB (evB (M k) none b2 [some a0, some a1, some a2] h) := body_out (n := 3) (np := 3) (b := evB (M k) none b2) (ds := [a0, a1, a2]) rfl
theorem q3 (k : Nat) {a0 a1 a2 a3 a4 : D} {h : Hh} : S (k + 1) 3 [a0, a1, a2, a3, a4] h = outB (evB (M k) none b3 [some a0, some a1, some a2, some a3, some a4] h) := body_out (n := 5) (np := 5) (b := evB (M k) none b3) (ds := [a0, a1, a2, a3, a4]) rfl
theorem q4 (k : Nat) {a0 a1 : D} {h : Hh} : S (k + 1) 4 [a0, a1] h = outB (evB (M k) none b4 [some a0, some a1] h) := body_out (n := 2) (np := 2) (b := evB (M k) none b4) (ds := [a0, a1]) rfl
theorem q5 (k : Nat) {a0 : D} {h : Hh} : S (k + 1) 5 [a0] h = outB (evB (M k) none b5 [some a0] h) := body_out (n := 1) (np := 1) (b := evB (M k) none b5) (ds := [a0]) rfl
theorem q6 (k : Nat) {a0 a1 a2 : D} {h : Hh} : S (k + 1) 6 [a0, a1, a2] h = outB (evB (M k) none b6 [some a0, some a1, some a2] h) := body_out (n := 3) (np := 3) (b := evB (M k) none b6) (ds := [a0, a1, a2]) rfl
theorem q7 (k : Nat) {a0 a1 a2 a3 a4 a5 : D} {h : Hh} : S (k + 1) 7 [a0, a1, a2, a3, a4, a5] h = outB (evB (M k) none b7 [some a0, some a1, some a2, some a3, some a4, some a5] h) := body_out (n := 6) (np := 6) (b := evB (M k) none b7) (ds := [a0, a1, a2, a3, a4, a5]) rfl
theorem q8 (k : Nat) {a0 : D} {h : Hh} : S (k + 1) 8 [a0] h = outB (evB (M k) none b8 [some a0] h) := body_out (n := 1) (np := 1) (b := evB (M k) none b8) (ds := [a0]) rfl
theorem q9 (k : Nat) {a0 a1 a2 : D} {h : Hh} : S (k + 1) 9 [a0, a1, a2] h = outB (evB (M k) none b9 [some a0, some a1, some a2, none, none, none, none, none] h) := body_out (n := 8) (np := 3) (b := evB (M k) none b9) (ds := [a0, a1, a2]) rfl
theorem q10 (k : Nat) {a0 a1 a2 a3 a4 : D} {h : Hh} : S (k + 1) 10 [a0, a1, a2, a3, a4] h = outB (evB (M k) none b10 [some a0, some a1, some a2, some a3, some a4] h) := body_out (n := 5) (np := 5) (b := evB (M k) none b10) (ds := [a0, a1, a2, a3, a4]) rfl
theorem q11 (k : Nat) {a0 a1 a2 : D} {h : Hh} : S (k + 1) 11 [a0, a1, a2] h = outB (evB (M k) none b11 [some a0, some a1, some a2] h) := body_out (n := 3) (np := 3) (b := evB (M k) none b11) (ds := [a0, a1, a2]) rfl
theorem q12 (k : Nat) {a0 : D} {h : Hh} : S (k + 1) 12 [a0] h = outB (evB (M k) none b12 [some a0] h) := body_out (n := 1) (np := 1) (b := evB (M k) none b12) (ds := [a0]) rfl
theorem q13 (k : Nat) {a0 a1 a2 : D} {h : Hh} : S (k + 1) 13 [a0, a1, a2] h = outB (evB (M k) none b13 [some a0, some a1, some a2] h) := body_out (n := 3) (np := 3) (b := evB (M k) none b13) (ds := [a0, a1, a2]) rfl
theorem q14 (k : Nat) {a0 a1 : D} {h : Hh} : S (k + 1) 14 [a0, a1] h = outB (evB (M k) none b14 [some a0, some a1] h) := body_out (n := 2) (np := 2) (b := evB (M k) none b14) (ds := [a0, a1]) rfl
theorem q15 (k : Nat) {a0 a1 : D} {h : Hh} : S (k + 1) 15 [a0, a1] h = outB (evB (M k) none b15 [some a0, some a1] h) := body_out (n := 2) (np := 2) (b := evB (M k) none b15) (ds := [a0, a1]) rfl
theorem q16 (k : Nat) {a0 : D} {h : Hh} : S (k + 1) 16 [a0] h = outB (evB (M k) none b16 [some a0, none, none, none, none] h) := body_out (n := 5) (np := 1) (b := evB (M k) none b16) (ds := [a0]) rfl
theorem q17 (k : Nat) {a0 : D} {h : Hh} : S (k + 1) 17 [a0] h = outB (evB (M k) none b17 [some a0, none] h) := body_out (n := 2) (np := 1) (b := evB (M k) none b17) (ds := [a0]) rfl
theorem q18 (k : Nat) {a0 : D} {h : Hh} : S (k + 1) 18 [a0] h = outB (evB (M k) none b18 [some a0, none, none, none] h) := body_out (n := 4) (np := 1) (b := evB (M k) none b18) (ds := [a0]) rfl
theorem q19 (k : Nat) {a0 : D} {h : Hh} : S (k + 1) 19 [a0] h = outB (evB (M k) none b19 [some a0] h) := body_out (n := 1) (np := 1) (b := evB (M k) none b19) (ds := [a0]) rfl
theorem q20 (k : Nat) {a0 a1 a2 : D} {h : Hh} : S (k + 1) 20 [a0, a1, a2] h = outB (evB (M k) none b20 [some a0, some a1, some a2, none] h) := body_out (n := 4) (np := 3) (b := evB (M k) none b20) (ds := [a0, a1, a2]) rfl
theorem q21 (k : Nat) {a0 a1 : D} {h : Hh} : S (k + 1) 21 [a0, a1] h = outB (evB (M k) none b21 [some a0, some a1] h) := body_out (n := 2) (np := 2) (b := evB (M k) none b21) (ds := [a0, a1]) rfl
theorem q22 (k : Nat) {a0 : D} {h : Hh} : S (k + 1) 22 [a0] h = outB (evB (M k) none b22 [some a0, none] h) := body_out (n := 2) (np := 1) (b := evB (M k) none b22) (ds := [a0]) rfl
theorem q23 (k : Nat) {a0 : D} {h : Hh} : S (k + 1) 23 [a0] h = outB (evB (M k) none b23 [some a0, none, none, none, none, none] h) := body_out (n := 6) (np := 1) (b := evB (M k) none b23) (ds := [a0]) rfl
theorem q24 (k : Nat) {a0 a1 : D} {h : Hh} : S (k + 1) 24 [a0, a1] h = outB (evB (M k) none b24 [some a0, some a1, none, none] h) := body_out (n := 4) (np := 2) (b := evB (M k) none b24) (ds := [a0, a1]) rfl
theorem q25 (k : Nat) {a0 : D} {h : Hh} : S (k + 1) 25 [a0] h = outB (evB (M k) none b25 [some a0] h) := body_out (n := 1) (np := 1) (b := evB (M k) none b25) (ds := [a0]) rfl
theorem q26 (k : Nat) {a0 : D} {h : Hh} : S (k + 1) 26 [a0] h = outB (evB (M k) none b26 [some a0] h) := body_out (n := 1) (np := 1) (b := evB (M k) none b26) (ds := [a0]) rfl
theorem q27 (k : Nat) {a0 : D} {h : Hh} : S (k + 1) 27 [a0] h = outB (evB (M k) none b27 [some a0] h) := body_out (n := 1) (np := 1) (b := evB (M k) none b27) (ds := [a0]) rfl
theorem q28 (k : Nat) {a0 a1 a2 : D} {h : Hh} : S (k + 1) 28 [a0, a1, a2] h = outB (evB (M k) none b28 [some a0, some a1, some a2] h) := body_out (n := 3) (np := 3) (b := evB (M k) none b28) (ds := [a0, a1, a2]) rfl
theorem q29 (k : Nat) {a0 a1 a2 : D} {h : Hh} : S (k + 1) 29 [a0, a1, a2] h = outB (evB (M k) none b29 [some a0, some a1, some a2] h) := body_out (n := 3) (np := 3) (b := evB (M k) none b29) (ds := [a0, a1, a2]) rfl
theorem q30 (k : Nat) {a0 a1 a2 a3 a4 : D} {h : Hh} : S (k + 1) 30 [a0, a1, a2, a3, a4] h = outB (evB (M k) none b30 [some a0, some a1, some a2, some a3, some a4] h) := body_out (n := 5) (np := 5) (b := evB (M k) none b30) (ds := [a0, a1, a2, a3, a4]) rfl
theorem q31 (k : Nat) {a0 a1 a2 a3 a4 : D} {h : Hh} : S (k + 1) 31 [a0, a1, a2, a3, a4] h = outB (evB (M k) none b31 [some a0, some a1, some a2, some a3, some a4] h) := body_out (n := 5) (np := 5) (b := evB (M k) none b31) (ds := [a0, a1, a2, a3, a4]) rfl
theorem q32 (k : Nat) {a0 a1 a2 a3 : D} {h : Hh} : S (k + 1) 32 [a0, a1, a2, a3] h = outB (evB (M k) none b32 [some a0, some a1, some a2, some a3] h) := body_out (n := 4) (np := 4) (b := evB (M k) none b32) (ds := [a0, a1, a2, a3]) rfl
theorem q33 (k : Nat) {a0 a1 : D} {h : Hh} : S (k + 1) 33 [a0, a1] h = outB (evB (M k) none b33 [some a0, some a1] h) := body_out (n := 2) (np := 2) (b := evB (M k) none b33) (ds := [a0, a1]) rfl
theorem q34 (k : Nat) {a0 a1 : D} {h : Hh} : S (k + 1) 34 [a0, a1] h = outB (evB (M k) none b34 [some a0, some a1] h) := body_out (n := 2) (np := 2) (b := evB (M k) none b34) (ds := [a0, a1]) rfl
theorem q35 (k : Nat) {a0 a1 : D} {h : Hh} : S (k + 1) 35 [a0, a1] h = outB (evB (M k) none b35 [some a0, some a1] h) := body_out (n := 2) (np := 2) (b := evB (M k) none b35) (ds := [a0, a1]) rfl
theorem q36 (k : Nat) {a0 a1 : D} {h : Hh} : S (k + 1) 36 [a0, a1] h = outB (evB (M k) none b36 [some a0, some a1] h) := body_out (n := 2) (np := 2) (b := evB (M k) none b36) (ds := [a0, a1]) rfl
theorem q37 (k : Nat) {a0 : D} {h : Hh} : S (k + 1) 37 [a0] h = outB (evB (M k) none b37 [some a0] h) := body_out (n := 1) (np := 1) (b := evB (M k) none b37) (ds := [a0]) rfl
theorem q38 (k : Nat) {a0 : D} {h : Hh} : S (k + 1) 38 [a0] h = outB (evB (M k) none b38 [some a0, none, none] h) := body_out (n := 3) (np := 1) (b := evB (M k) none b38) (ds := [a0]) rfl
theorem q39 (k : Nat) {a0 a1 : D} {h : Hh} : S (k + 1) 39 [a0, a1] h = outB (evB (M k) none b39 [some a0, some a1] h) := body_out (n := 2) (np := 2) (b := evB (M k) none b39) (ds := [a0, a1]) rfl
theorem q40 (k : Nat) {a0 a1 : D} {h : Hh} : S (k + 1) 40 [a0, a1] h = outB (evB (M k) none b40 [some a0, some a1, none] h) := body_out (n := 3) (np := 2) (b := evB (M k) none b40) (ds := [a0, a1]) rfl
theorem q41 (k : Nat) {a0 a1 : D} {h : Hh} : S (k + 1) 41 [a0, a1] h = outB (evB (M k) none b41 [some a0, some a1, none, none, none, none, none, none, none, none] h) := body_out (n := 10) (np := 2) (b := evB (M k) none b41) (ds := [a0, a1]) rfl
theorem q42 (k : Nat) {a0 a1 : D} {h : Hh} : S (k + 1) 42 [a0, a1] h = outB (evB (M k) none b42 [some a0, some a1, none, none, none, none, none, none, none, none] h) := body_out (n := 10) (np := 2) (b := evB (M k) none b42) (ds := [a0, a1]) rfl
theorem q43 (k : Nat) {a0 a1 : D} {h : Hh} : S (k + 1) 43 [a0, a1] h = outB (evB (M k) none b43 [some a0, some a1, none, none, none, none, none, none] h) := body_out (n := 8) (np := 2) (b := evB (M k) none b43) (ds := [a0, a1]) rfl
theorem q44 (k : Nat) {a0 a1 : D} {h : Hh} : S (k + 1) 44 [a0, a1] h = outB (evB (M k) none b44 [some a0, some a1, none] h) := body_out (n := 3) (np := 2) (b := evB (M k) none b44) (ds := [a0, a1]) rfl
theorem q45 (k : Nat) {a0 a1 : D} {h : Hh} : S (k + 1) 45 [a0, a1] h = outB (evB (M k) none b45 [some a0, some a1, none] h) := body_out (n := 3) (np := 2) (b := evB (M k) none b45) (ds := [a0, a1]) rfl
theorem q46 (k : Nat) {a0 a1 : D} {h : Hh} : S (k + 1) 46 [a0, a1] h = outB (evB (M k) none b46 [some a0, some a1, none, none, none, none, none, none, none] h) := body_out (n := 9) (np := 2) (b := evB (M k) none b46) (ds := [a0, a1]) rfl
theorem q47 (k : Nat) {a0 a1 : D} {h : Hh} : S (k + 1) 47 [a0, a1] h = outB (evB (M k) none b47 [some a0, some a1, none, none, none] h) := body_out (n := 5) (np := 2) (b := evB (M k) none b47) (ds := [a0, a1]) rfl
theorem q48 (k : Nat) {a0 a1 : D} {h : Hh} : S (k + 1) 48 [a0, a1] h = outB (evB (M k) none b48 [some a0, some a1, none, none] h) := body_out (n := 4) (np := 2) (b := evB (M k) none b48) (ds := [a0, a1]) rfl
theorem q49 (k : Nat) {a0 : D} {h : Hh} : S (k + 1) 49 [a0] h = outB (evB (M k) none b49 [some a0, none, none, none, none, none, none, none, none] h) := body_out (n := 9) (np := 1) (b := evB (M k) none b49) (ds := [a0]) rfl
def FL1 (a0 : D) : List (Str × D) := [("whole", a0)]
theorem fll1 {a0 : D} : (FL1 a0).length = 1 := rfl
theorem pi1_0 {y : D} : putFD "whole" y [] = [(("whole" : Str), y)] := rfl
theorem fl1_whole {a0 : D} {h : Hh} : fldD T.f "whole" h (.ins 1 (FL1 a0)) = some a0 := rfl
theorem fr1_whole {a0 : D} {h : Hh} {i : Nat} (e : h[i]? = some (.ins 1 (FL1 a0))) : fldD T.f "whole" h (.ref i) = some a0 := by
  unfold fldD
  rw [insAt_ref e]; rfl
theorem ft1_whole : T.f 1 "whole" = true := by decide +kernel
theorem pf1_whole {a0 : D} {y : D} : putFD "whole" y (FL1 a0) = FL1 y := rfl
theorem nl1_told {a0 : D} : List.lookup ("told" : Str) (FL1 a0) = none := rfl
theorem nl1_comes {a0 : D} : List.lookup ("comes" : Str) (FL1 a0) = none := rfl
theorem nl1_may_strike {a0 : D} : List.lookup ("may_strike" : Str) (FL1 a0) = none := rfl
theorem mk1 (k : Nat) {p0 : D} {h : Hh} (hn : ∀ p ∈ ([p0] : List D), noRef p = true) : mkP 1 (S (k + 1) 4) [] [p0] h = .ok (.ins 1 (FL1 p0)) h :=
  mkP_of hn (by unfold mkC; rw [List.nil_append, List.append_nil, show ([] : Hh).length = 0 from rfl, q4]; rfl) (fun p hp => by
    simp only [FL1, List.mem_cons, List.not_mem_nil, or_false] at hp
    rcases hp with rfl <;> first | exact hn _ (by simp) | rfl)
def FL2 (a0 a1 a2 a3 a4 : D) : List (Str × D) := [("whole", a0), ("layer", a1), ("lying", a2), ("begun", a3), ("patience", a4)]
theorem fll2 {a0 a1 a2 a3 a4 : D} : (FL2 a0 a1 a2 a3 a4).length = 5 := rfl
theorem pi2_0 {y : D} : putFD "whole" y [] = [(("whole" : Str), y)] := rfl
theorem pi2_1 {a0 : D} {y : D} : putFD "layer" y [(("whole" : Str), a0)] = [(("whole" : Str), a0), (("layer" : Str), y)] := rfl
theorem pi2_2 {a0 a1 : D} {y : D} : putFD "lying" y [(("whole" : Str), a0), (("layer" : Str), a1)] = [(("whole" : Str), a0), (("layer" : Str), a1), (("lying" : Str), y)] := rfl
theorem pi2_3 {a0 a1 a2 : D} {y : D} : putFD "begun" y [(("whole" : Str), a0), (("layer" : Str), a1), (("lying" : Str), a2)] = [(("whole" : Str), a0), (("layer" : Str), a1), (("lying" : Str), a2), (("begun" : Str), y)] := rfl
theorem pi2_4 {a0 a1 a2 a3 : D} {y : D} : putFD "patience" y [(("whole" : Str), a0), (("layer" : Str), a1), (("lying" : Str), a2), (("begun" : Str), a3)] = [(("whole" : Str), a0), (("layer" : Str), a1), (("lying" : Str), a2), (("begun" : Str), a3), (("patience" : Str), y)] := rfl
theorem fl2_whole {a0 a1 a2 a3 a4 : D} {h : Hh} : fldD T.f "whole" h (.ins 2 (FL2 a0 a1 a2 a3 a4)) = some a0 := rfl
theorem fr2_whole {a0 a1 a2 a3 a4 : D} {h : Hh} {i : Nat} (e : h[i]? = some (.ins 2 (FL2 a0 a1 a2 a3 a4))) : fldD T.f "whole" h (.ref i) = some a0 := by
  unfold fldD
  rw [insAt_ref e]; rfl
theorem ft2_whole : T.f 2 "whole" = true := by decide +kernel
theorem pf2_whole {a0 a1 a2 a3 a4 : D} {y : D} : putFD "whole" y (FL2 a0 a1 a2 a3 a4) = FL2 y a1 a2 a3 a4 := rfl
theorem fl2_layer {a0 a1 a2 a3 a4 : D} {h : Hh} : fldD T.f "layer" h (.ins 2 (FL2 a0 a1 a2 a3 a4)) = some a1 := rfl
theorem fr2_layer {a0 a1 a2 a3 a4 : D} {h : Hh} {i : Nat} (e : h[i]? = some (.ins 2 (FL2 a0 a1 a2 a3 a4))) : fldD T.f "layer" h (.ref i) = some a1 := by
  unfold fldD
  rw [insAt_ref e]; rfl
theorem ft2_layer : T.f 2 "layer" = true := by decide +kernel
theorem pf2_layer {a0 a1 a2 a3 a4 : D} {y : D} : putFD "layer" y (FL2 a0 a1 a2 a3 a4) = FL2 a0 y a2 a3 a4 := rfl
theorem fl2_lying {a0 a1 a2 a3 a4 : D} {h : Hh} : fldD T.f "lying" h (.ins 2 (FL2 a0 a1 a2 a3 a4)) = some a2 := rfl
theorem fr2_lying {a0 a1 a2 a3 a4 : D} {h : Hh} {i : Nat} (e : h[i]? = some (.ins 2 (FL2 a0 a1 a2 a3 a4))) : fldD T.f "lying" h (.ref i) = some a2 := by
  unfold fldD
  rw [insAt_ref e]; rfl
theorem ft2_lying : T.f 2 "lying" = true := by decide +kernel
theorem pf2_lying {a0 a1 a2 a3 a4 : D} {y : D} : putFD "lying" y (FL2 a0 a1 a2 a3 a4) = FL2 a0 a1 y a3 a4 := rfl
theorem fl2_begun {a0 a1 a2 a3 a4 : D} {h : Hh} : fldD T.f "begun" h (.ins 2 (FL2 a0 a1 a2 a3 a4)) = some a3 := rfl
theorem fr2_begun {a0 a1 a2 a3 a4 : D} {h : Hh} {i : Nat} (e : h[i]? = some (.ins 2 (FL2 a0 a1 a2 a3 a4))) : fldD T.f "begun" h (.ref i) = some a3 := by
  unfold fldD
  rw [insAt_ref e]; rfl
theorem ft2_begun : T.f 2 "begun" = true := by decide +kernel
theorem pf2_begun {a0 a1 a2 a3 a4 : D} {y : D} : putFD "begun" y (FL2 a0 a1 a2 a3 a4) = FL2 a0 a1 a2 y a4 := rfl
theorem fl2_patience {a0 a1 a2 a3 a4 : D} {h : Hh} : fldD T.f "patience" h (.ins 2 (FL2 a0 a1 a2 a3 a4)) = some a4 := rfl
theorem fr2_patience {a0 a1 a2 a3 a4 : D} {h : Hh} {i : Nat} (e : h[i]? = some (.ins 2 (FL2 a0 a1 a2 a3 a4))) : fldD T.f "patience" h (.ref i) = some a4 := by
  unfold fldD
  rw [insAt_ref e]; rfl
theorem ft2_patience : T.f 2 "patience" = true := by decide +kernel
theorem pf2_patience {a0 a1 a2 a3 a4 : D} {y : D} : putFD "patience" y (FL2 a0 a1 a2 a3 a4) = FL2 a0 a1 a2 a3 y := rfl
theorem nl2_told {a0 a1 a2 a3 a4 : D} : List.lookup ("told" : Str) (FL2 a0 a1 a2 a3 a4) = none := rfl
theorem nl2_comes {a0 a1 a2 a3 a4 : D} : List.lookup ("comes" : Str) (FL2 a0 a1 a2 a3 a4) = none := rfl
theorem nl2_may_strike {a0 a1 a2 a3 a4 : D} : List.lookup ("may_strike" : Str) (FL2 a0 a1 a2 a3 a4) = none := rfl
theorem mk2 (k : Nat) {p0 p1 p2 p3 p4 : D} {h : Hh} (hn : ∀ p ∈ ([p0, p1, p2, p3, p4] : List D), noRef p = true) : mkP 2 (S (k + 1) 7) [] [p0, p1, p2, p3, p4] h = .ok (.ins 2 (FL2 p0 p1 p2 p3 p4)) h :=
  mkP_of hn (by unfold mkC; rw [List.nil_append, List.append_nil, show ([] : Hh).length = 0 from rfl, q7]; rfl) (fun p hp => by
    simp only [FL2, List.mem_cons, List.not_mem_nil, or_false] at hp
    rcases hp with rfl | rfl | rfl | rfl | rfl <;> first | exact hn _ (by simp) | rfl)
def FL3 (a0 a1 : D) : List (Str × D) := [("whole", a0), ("taker", a1)]
theorem fll3 {a0 a1 : D} : (FL3 a0 a1).length = 2 := rfl
theorem pi3_0 {y : D} : putFD "whole" y [] = [(("whole" : Str), y)] := rfl
theorem pi3_1 {a0 : D} {y : D} : putFD "taker" y [(("whole" : Str), a0)] = [(("whole" : Str), a0), (("taker" : Str), y)] := rfl
theorem fl3_whole {a0 a1 : D} {h : Hh} : fldD T.f "whole" h (.ins 3 (FL3 a0 a1)) = some a0 := rfl
theorem fr3_whole {a0 a1 : D} {h : Hh} {i : Nat} (e : h[i]? = some (.ins 3 (FL3 a0 a1))) : fldD T.f "whole" h (.ref i) = some a0 := by
  unfold fldD
  rw [insAt_ref e]; rfl
theorem ft3_whole : T.f 3 "whole" = true := by decide +kernel
theorem pf3_whole {a0 a1 : D} {y : D} : putFD "whole" y (FL3 a0 a1) = FL3 y a1 := rfl
theorem fl3_taker {a0 a1 : D} {h : Hh} : fldD T.f "taker" h (.ins 3 (FL3 a0 a1)) = some a1 := rfl
theorem fr3_taker {a0 a1 : D} {h : Hh} {i : Nat} (e : h[i]? = some (.ins 3 (FL3 a0 a1))) : fldD T.f "taker" h (.ref i) = some a1 := by
  unfold fldD
  rw [insAt_ref e]; rfl
theorem ft3_taker : T.f 3 "taker" = true := by decide +kernel
theorem pf3_taker {a0 a1 : D} {y : D} : putFD "taker" y (FL3 a0 a1) = FL3 a0 y := rfl
theorem nl3_told {a0 a1 : D} : List.lookup ("told" : Str) (FL3 a0 a1) = none := rfl
theorem nl3_comes {a0 a1 : D} : List.lookup ("comes" : Str) (FL3 a0 a1) = none := rfl
theorem nl3_may_strike {a0 a1 : D} : List.lookup ("may_strike" : Str) (FL3 a0 a1) = none := rfl
theorem mk3 (k : Nat) {p0 p1 : D} {h : Hh} (hn : ∀ p ∈ ([p0, p1] : List D), noRef p = true) : mkP 3 (S (k + 1) 11) [] [p0, p1] h = .ok (.ins 3 (FL3 p0 p1)) h :=
  mkP_of hn (by unfold mkC; rw [List.nil_append, List.append_nil, show ([] : Hh).length = 0 from rfl, q11]; rfl) (fun p hp => by
    simp only [FL3, List.mem_cons, List.not_mem_nil, or_false] at hp
    rcases hp with rfl | rfl <;> first | exact hn _ (by simp) | rfl)
def FL8 (a0 a1 a2 a3 : D) : List (Str × D) := [("kept", a0), ("now", a1), ("claims", a2), ("shows", a3)]
theorem fll8 {a0 a1 a2 a3 : D} : (FL8 a0 a1 a2 a3).length = 4 := rfl
theorem pi8_0 {y : D} : putFD "kept" y [] = [(("kept" : Str), y)] := rfl
theorem pi8_1 {a0 : D} {y : D} : putFD "now" y [(("kept" : Str), a0)] = [(("kept" : Str), a0), (("now" : Str), y)] := rfl
theorem pi8_2 {a0 a1 : D} {y : D} : putFD "claims" y [(("kept" : Str), a0), (("now" : Str), a1)] = [(("kept" : Str), a0), (("now" : Str), a1), (("claims" : Str), y)] := rfl
theorem pi8_3 {a0 a1 a2 : D} {y : D} : putFD "shows" y [(("kept" : Str), a0), (("now" : Str), a1), (("claims" : Str), a2)] = [(("kept" : Str), a0), (("now" : Str), a1), (("claims" : Str), a2), (("shows" : Str), y)] := rfl
theorem fl8_kept {a0 a1 a2 a3 : D} {h : Hh} : fldD T.f "kept" h (.ins 8 (FL8 a0 a1 a2 a3)) = some a0 := rfl
theorem fr8_kept {a0 a1 a2 a3 : D} {h : Hh} {i : Nat} (e : h[i]? = some (.ins 8 (FL8 a0 a1 a2 a3))) : fldD T.f "kept" h (.ref i) = some a0 := by
  unfold fldD
  rw [insAt_ref e]; rfl
theorem ft8_kept : T.f 8 "kept" = true := by decide +kernel
theorem pf8_kept {a0 a1 a2 a3 : D} {y : D} : putFD "kept" y (FL8 a0 a1 a2 a3) = FL8 y a1 a2 a3 := rfl
theorem fl8_now {a0 a1 a2 a3 : D} {h : Hh} : fldD T.f "now" h (.ins 8 (FL8 a0 a1 a2 a3)) = some a1 := rfl
theorem fr8_now {a0 a1 a2 a3 : D} {h : Hh} {i : Nat} (e : h[i]? = some (.ins 8 (FL8 a0 a1 a2 a3))) : fldD T.f "now" h (.ref i) = some a1 := by
  unfold fldD
  rw [insAt_ref e]; rfl
theorem ft8_now : T.f 8 "now" = true := by decide +kernel
theorem pf8_now {a0 a1 a2 a3 : D} {y : D} : putFD "now" y (FL8 a0 a1 a2 a3) = FL8 a0 y a2 a3 := rfl
theorem fl8_claims {a0 a1 a2 a3 : D} {h : Hh} : fldD T.f "claims" h (.ins 8 (FL8 a0 a1 a2 a3)) = some a2 := rfl
theorem fr8_claims {a0 a1 a2 a3 : D} {h : Hh} {i : Nat} (e : h[i]? = some (.ins 8 (FL8 a0 a1 a2 a3))) : fldD T.f "claims" h (.ref i) = some a2 := by
  unfold fldD
  rw [insAt_ref e]; rfl
theorem ft8_claims : T.f 8 "claims" = true := by decide +kernel
theorem pf8_claims {a0 a1 a2 a3 : D} {y : D} : putFD "claims" y (FL8 a0 a1 a2 a3) = FL8 a0 a1 y a3 := rfl
theorem fl8_shows {a0 a1 a2 a3 : D} {h : Hh} : fldD T.f "shows" h (.ins 8 (FL8 a0 a1 a2 a3)) = some a3 := rfl
theorem fr8_shows {a0 a1 a2 a3 : D} {h : Hh} {i : Nat} (e : h[i]? = some (.ins 8 (FL8 a0 a1 a2 a3))) : fldD T.f "shows" h (.ref i) = some a3 := by
  unfold fldD
  rw [insAt_ref e]; rfl
theorem ft8_shows : T.f 8 "shows" = true := by decide +kernel
theorem pf8_shows {a0 a1 a2 a3 : D} {y : D} : putFD "shows" y (FL8 a0 a1 a2 a3) = FL8 a0 a1 a2 y := rfl
theorem nl8_made_of {a0 a1 a2 a3 : D} : List.lookup ("made_of" : Str) (FL8 a0 a1 a2 a3) = none := rfl
theorem nl8_today {a0 a1 a2 a3 : D} : List.lookup ("today" : Str) (FL8 a0 a1 a2 a3) = none := rfl
theorem nl8_next_day {a0 a1 a2 a3 : D} : List.lookup ("next_day" : Str) (FL8 a0 a1 a2 a3) = none := rfl
theorem nl8_look_for {a0 a1 a2 a3 : D} : List.lookup ("look_for" : Str) (FL8 a0 a1 a2 a3) = none := rfl
theorem nl8_show {a0 a1 a2 a3 : D} : List.lookup ("show" : Str) (FL8 a0 a1 a2 a3) = none := rfl
theorem nl8_agreed {a0 a1 a2 a3 : D} : List.lookup ("agreed" : Str) (FL8 a0 a1 a2 a3) = none := rfl
theorem nl8_lay {a0 a1 a2 a3 : D} : List.lookup ("lay" : Str) (FL8 a0 a1 a2 a3) = none := rfl
theorem nl8_strike {a0 a1 a2 a3 : D} : List.lookup ("strike" : Str) (FL8 a0 a1 a2 a3) = none := rfl
theorem nl8_told {a0 a1 a2 a3 : D} : List.lookup ("told" : Str) (FL8 a0 a1 a2 a3) = none := rfl
theorem nl8_shown_for {a0 a1 a2 a3 : D} : List.lookup ("shown_for" : Str) (FL8 a0 a1 a2 a3) = none := rfl
theorem nl8_due_of {a0 a1 a2 a3 : D} : List.lookup ("due_of" : Str) (FL8 a0 a1 a2 a3) = none := rfl
theorem nl8_coin_of {a0 a1 a2 a3 : D} : List.lookup ("coin_of" : Str) (FL8 a0 a1 a2 a3) = none := rfl
theorem nl8_is_over {a0 a1 a2 a3 : D} : List.lookup ("is_over" : Str) (FL8 a0 a1 a2 a3) = none := rfl
theorem nl8_all_shown {a0 a1 a2 a3 : D} : List.lookup ("all_shown" : Str) (FL8 a0 a1 a2 a3) = none := rfl
theorem so0 : PyData.strOk ("agree" : Str) = true := by decide +kernel
theorem so1 : PyData.strOk ("claims" : Str) = true := by decide +kernel
theorem so2 : PyData.strOk ("day" : Str) = true := by decide +kernel
theorem so3 : PyData.strOk ("deed" : Str) = true := by decide +kernel
theorem so4 : PyData.strOk ("done" : Str) = true := by decide +kernel
theorem so5 : PyData.strOk ("held" : Str) = true := by decide +kernel
theorem so6 : PyData.strOk ("it may not lie" : Str) = true := by decide +kernel
theorem so7 : PyData.strOk ("laid" : Str) = true := by decide +kernel
theorem so8 : PyData.strOk ("lay" : Str) = true := by decide +kernel
theorem so9 : PyData.strOk ("mixed" : Str) = true := by decide +kernel
theorem so10 : PyData.strOk ("no pot" : Str) = true := by decide +kernel
theorem so11 : PyData.strOk ("no stand" : Str) = true := by decide +kernel
theorem so12 : PyData.strOk ("no stand of this pot" : Str) = true := by decide +kernel
theorem so13 : PyData.strOk ("no such pot or side" : Str) = true := by decide +kernel
theorem so14 : PyData.strOk ("no word" : Str) = true := by decide +kernel
theorem so15 : PyData.strOk ("nothing to strike" : Str) = true := by decide +kernel
theorem so16 : PyData.strOk ("pots" : Str) = true := by decide +kernel
theorem so17 : PyData.strOk ("show" : Str) = true := by decide +kernel
theorem so18 : PyData.strOk ("shows" : Str) = true := by decide +kernel
theorem so19 : PyData.strOk ("stand" : Str) = true := by decide +kernel
theorem so20 : PyData.strOk ("strike" : Str) = true := by decide +kernel
theorem so21 : PyData.strOk ("taken" : Str) = true := by decide +kernel
theorem so22 : PyData.strOk ("word" : Str) = true := by decide +kernel
theorem sn0_1 : (("agree" : Str) = "claims") = False := eq_false (by decide +kernel)
theorem sn0_2 : (("agree" : Str) = "day") = False := eq_false (by decide +kernel)
theorem sn0_3 : (("agree" : Str) = "deed") = False := eq_false (by decide +kernel)
theorem sn0_4 : (("agree" : Str) = "done") = False := eq_false (by decide +kernel)
theorem sn0_5 : (("agree" : Str) = "held") = False := eq_false (by decide +kernel)
theorem sn0_6 : (("agree" : Str) = "it may not lie") = False := eq_false (by decide +kernel)
theorem sn0_7 : (("agree" : Str) = "laid") = False := eq_false (by decide +kernel)
theorem sn0_8 : (("agree" : Str) = "lay") = False := eq_false (by decide +kernel)
theorem sn0_9 : (("agree" : Str) = "mixed") = False := eq_false (by decide +kernel)
theorem sn0_10 : (("agree" : Str) = "no pot") = False := eq_false (by decide +kernel)
theorem sn0_11 : (("agree" : Str) = "no stand") = False := eq_false (by decide +kernel)
theorem sn0_12 : (("agree" : Str) = "no stand of this pot") = False := eq_false (by decide +kernel)
theorem sn0_13 : (("agree" : Str) = "no such pot or side") = False := eq_false (by decide +kernel)
theorem sn0_14 : (("agree" : Str) = "no word") = False := eq_false (by decide +kernel)
theorem sn0_15 : (("agree" : Str) = "nothing to strike") = False := eq_false (by decide +kernel)
theorem sn0_16 : (("agree" : Str) = "pots") = False := eq_false (by decide +kernel)
theorem sn0_17 : (("agree" : Str) = "show") = False := eq_false (by decide +kernel)
theorem sn0_18 : (("agree" : Str) = "shows") = False := eq_false (by decide +kernel)
theorem sn0_19 : (("agree" : Str) = "stand") = False := eq_false (by decide +kernel)
theorem sn0_20 : (("agree" : Str) = "strike") = False := eq_false (by decide +kernel)
theorem sn0_21 : (("agree" : Str) = "taken") = False := eq_false (by decide +kernel)
theorem sn0_22 : (("agree" : Str) = "word") = False := eq_false (by decide +kernel)
theorem sn1_0 : (("claims" : Str) = "agree") = False := eq_false (by decide +kernel)
theorem sn1_2 : (("claims" : Str) = "day") = False := eq_false (by decide +kernel)
theorem sn1_3 : (("claims" : Str) = "deed") = False := eq_false (by decide +kernel)
theorem sn1_4 : (("claims" : Str) = "done") = False := eq_false (by decide +kernel)
theorem sn1_5 : (("claims" : Str) = "held") = False := eq_false (by decide +kernel)
theorem sn1_6 : (("claims" : Str) = "it may not lie") = False := eq_false (by decide +kernel)
theorem sn1_7 : (("claims" : Str) = "laid") = False := eq_false (by decide +kernel)
theorem sn1_8 : (("claims" : Str) = "lay") = False := eq_false (by decide +kernel)
theorem sn1_9 : (("claims" : Str) = "mixed") = False := eq_false (by decide +kernel)
theorem sn1_10 : (("claims" : Str) = "no pot") = False := eq_false (by decide +kernel)
theorem sn1_11 : (("claims" : Str) = "no stand") = False := eq_false (by decide +kernel)
theorem sn1_12 : (("claims" : Str) = "no stand of this pot") = False := eq_false (by decide +kernel)
theorem sn1_13 : (("claims" : Str) = "no such pot or side") = False := eq_false (by decide +kernel)
theorem sn1_14 : (("claims" : Str) = "no word") = False := eq_false (by decide +kernel)
theorem sn1_15 : (("claims" : Str) = "nothing to strike") = False := eq_false (by decide +kernel)
theorem sn1_16 : (("claims" : Str) = "pots") = False := eq_false (by decide +kernel)
theorem sn1_17 : (("claims" : Str) = "show") = False := eq_false (by decide +kernel)
theorem sn1_18 : (("claims" : Str) = "shows") = False := eq_false (by decide +kernel)
theorem sn1_19 : (("claims" : Str) = "stand") = False := eq_false (by decide +kernel)
theorem sn1_20 : (("claims" : Str) = "strike") = False := eq_false (by decide +kernel)
theorem sn1_21 : (("claims" : Str) = "taken") = False := eq_false (by decide +kernel)
theorem sn1_22 : (("claims" : Str) = "word") = False := eq_false (by decide +kernel)
theorem sn2_0 : (("day" : Str) = "agree") = False := eq_false (by decide +kernel)
theorem sn2_1 : (("day" : Str) = "claims") = False := eq_false (by decide +kernel)
theorem sn2_3 : (("day" : Str) = "deed") = False := eq_false (by decide +kernel)
theorem sn2_4 : (("day" : Str) = "done") = False := eq_false (by decide +kernel)
theorem sn2_5 : (("day" : Str) = "held") = False := eq_false (by decide +kernel)
theorem sn2_6 : (("day" : Str) = "it may not lie") = False := eq_false (by decide +kernel)
theorem sn2_7 : (("day" : Str) = "laid") = False := eq_false (by decide +kernel)
theorem sn2_8 : (("day" : Str) = "lay") = False := eq_false (by decide +kernel)
theorem sn2_9 : (("day" : Str) = "mixed") = False := eq_false (by decide +kernel)
theorem sn2_10 : (("day" : Str) = "no pot") = False := eq_false (by decide +kernel)
theorem sn2_11 : (("day" : Str) = "no stand") = False := eq_false (by decide +kernel)
theorem sn2_12 : (("day" : Str) = "no stand of this pot") = False := eq_false (by decide +kernel)
theorem sn2_13 : (("day" : Str) = "no such pot or side") = False := eq_false (by decide +kernel)
theorem sn2_14 : (("day" : Str) = "no word") = False := eq_false (by decide +kernel)
theorem sn2_15 : (("day" : Str) = "nothing to strike") = False := eq_false (by decide +kernel)
theorem sn2_16 : (("day" : Str) = "pots") = False := eq_false (by decide +kernel)
theorem sn2_17 : (("day" : Str) = "show") = False := eq_false (by decide +kernel)
theorem sn2_18 : (("day" : Str) = "shows") = False := eq_false (by decide +kernel)
theorem sn2_19 : (("day" : Str) = "stand") = False := eq_false (by decide +kernel)
theorem sn2_20 : (("day" : Str) = "strike") = False := eq_false (by decide +kernel)
theorem sn2_21 : (("day" : Str) = "taken") = False := eq_false (by decide +kernel)
theorem sn2_22 : (("day" : Str) = "word") = False := eq_false (by decide +kernel)
theorem sn3_0 : (("deed" : Str) = "agree") = False := eq_false (by decide +kernel)
theorem sn3_1 : (("deed" : Str) = "claims") = False := eq_false (by decide +kernel)
theorem sn3_2 : (("deed" : Str) = "day") = False := eq_false (by decide +kernel)
theorem sn3_4 : (("deed" : Str) = "done") = False := eq_false (by decide +kernel)
theorem sn3_5 : (("deed" : Str) = "held") = False := eq_false (by decide +kernel)
theorem sn3_6 : (("deed" : Str) = "it may not lie") = False := eq_false (by decide +kernel)
theorem sn3_7 : (("deed" : Str) = "laid") = False := eq_false (by decide +kernel)
theorem sn3_8 : (("deed" : Str) = "lay") = False := eq_false (by decide +kernel)
theorem sn3_9 : (("deed" : Str) = "mixed") = False := eq_false (by decide +kernel)
theorem sn3_10 : (("deed" : Str) = "no pot") = False := eq_false (by decide +kernel)
theorem sn3_11 : (("deed" : Str) = "no stand") = False := eq_false (by decide +kernel)
theorem sn3_12 : (("deed" : Str) = "no stand of this pot") = False := eq_false (by decide +kernel)
theorem sn3_13 : (("deed" : Str) = "no such pot or side") = False := eq_false (by decide +kernel)
theorem sn3_14 : (("deed" : Str) = "no word") = False := eq_false (by decide +kernel)
theorem sn3_15 : (("deed" : Str) = "nothing to strike") = False := eq_false (by decide +kernel)
theorem sn3_16 : (("deed" : Str) = "pots") = False := eq_false (by decide +kernel)
theorem sn3_17 : (("deed" : Str) = "show") = False := eq_false (by decide +kernel)
theorem sn3_18 : (("deed" : Str) = "shows") = False := eq_false (by decide +kernel)
theorem sn3_19 : (("deed" : Str) = "stand") = False := eq_false (by decide +kernel)
theorem sn3_20 : (("deed" : Str) = "strike") = False := eq_false (by decide +kernel)
theorem sn3_21 : (("deed" : Str) = "taken") = False := eq_false (by decide +kernel)
theorem sn3_22 : (("deed" : Str) = "word") = False := eq_false (by decide +kernel)
theorem sn4_0 : (("done" : Str) = "agree") = False := eq_false (by decide +kernel)
theorem sn4_1 : (("done" : Str) = "claims") = False := eq_false (by decide +kernel)
theorem sn4_2 : (("done" : Str) = "day") = False := eq_false (by decide +kernel)
theorem sn4_3 : (("done" : Str) = "deed") = False := eq_false (by decide +kernel)
theorem sn4_5 : (("done" : Str) = "held") = False := eq_false (by decide +kernel)
theorem sn4_6 : (("done" : Str) = "it may not lie") = False := eq_false (by decide +kernel)
theorem sn4_7 : (("done" : Str) = "laid") = False := eq_false (by decide +kernel)
theorem sn4_8 : (("done" : Str) = "lay") = False := eq_false (by decide +kernel)
theorem sn4_9 : (("done" : Str) = "mixed") = False := eq_false (by decide +kernel)
theorem sn4_10 : (("done" : Str) = "no pot") = False := eq_false (by decide +kernel)
theorem sn4_11 : (("done" : Str) = "no stand") = False := eq_false (by decide +kernel)
theorem sn4_12 : (("done" : Str) = "no stand of this pot") = False := eq_false (by decide +kernel)
theorem sn4_13 : (("done" : Str) = "no such pot or side") = False := eq_false (by decide +kernel)
theorem sn4_14 : (("done" : Str) = "no word") = False := eq_false (by decide +kernel)
theorem sn4_15 : (("done" : Str) = "nothing to strike") = False := eq_false (by decide +kernel)
theorem sn4_16 : (("done" : Str) = "pots") = False := eq_false (by decide +kernel)
theorem sn4_17 : (("done" : Str) = "show") = False := eq_false (by decide +kernel)
theorem sn4_18 : (("done" : Str) = "shows") = False := eq_false (by decide +kernel)
theorem sn4_19 : (("done" : Str) = "stand") = False := eq_false (by decide +kernel)
theorem sn4_20 : (("done" : Str) = "strike") = False := eq_false (by decide +kernel)
theorem sn4_21 : (("done" : Str) = "taken") = False := eq_false (by decide +kernel)
theorem sn4_22 : (("done" : Str) = "word") = False := eq_false (by decide +kernel)
theorem sn5_0 : (("held" : Str) = "agree") = False := eq_false (by decide +kernel)
theorem sn5_1 : (("held" : Str) = "claims") = False := eq_false (by decide +kernel)
theorem sn5_2 : (("held" : Str) = "day") = False := eq_false (by decide +kernel)
theorem sn5_3 : (("held" : Str) = "deed") = False := eq_false (by decide +kernel)
theorem sn5_4 : (("held" : Str) = "done") = False := eq_false (by decide +kernel)
theorem sn5_6 : (("held" : Str) = "it may not lie") = False := eq_false (by decide +kernel)
theorem sn5_7 : (("held" : Str) = "laid") = False := eq_false (by decide +kernel)
theorem sn5_8 : (("held" : Str) = "lay") = False := eq_false (by decide +kernel)
theorem sn5_9 : (("held" : Str) = "mixed") = False := eq_false (by decide +kernel)
theorem sn5_10 : (("held" : Str) = "no pot") = False := eq_false (by decide +kernel)
theorem sn5_11 : (("held" : Str) = "no stand") = False := eq_false (by decide +kernel)
theorem sn5_12 : (("held" : Str) = "no stand of this pot") = False := eq_false (by decide +kernel)
theorem sn5_13 : (("held" : Str) = "no such pot or side") = False := eq_false (by decide +kernel)
theorem sn5_14 : (("held" : Str) = "no word") = False := eq_false (by decide +kernel)
theorem sn5_15 : (("held" : Str) = "nothing to strike") = False := eq_false (by decide +kernel)
theorem sn5_16 : (("held" : Str) = "pots") = False := eq_false (by decide +kernel)
theorem sn5_17 : (("held" : Str) = "show") = False := eq_false (by decide +kernel)
theorem sn5_18 : (("held" : Str) = "shows") = False := eq_false (by decide +kernel)
theorem sn5_19 : (("held" : Str) = "stand") = False := eq_false (by decide +kernel)
theorem sn5_20 : (("held" : Str) = "strike") = False := eq_false (by decide +kernel)
theorem sn5_21 : (("held" : Str) = "taken") = False := eq_false (by decide +kernel)
theorem sn5_22 : (("held" : Str) = "word") = False := eq_false (by decide +kernel)
theorem sn6_0 : (("it may not lie" : Str) = "agree") = False := eq_false (by decide +kernel)
theorem sn6_1 : (("it may not lie" : Str) = "claims") = False := eq_false (by decide +kernel)
theorem sn6_2 : (("it may not lie" : Str) = "day") = False := eq_false (by decide +kernel)
theorem sn6_3 : (("it may not lie" : Str) = "deed") = False := eq_false (by decide +kernel)
theorem sn6_4 : (("it may not lie" : Str) = "done") = False := eq_false (by decide +kernel)
theorem sn6_5 : (("it may not lie" : Str) = "held") = False := eq_false (by decide +kernel)
theorem sn6_7 : (("it may not lie" : Str) = "laid") = False := eq_false (by decide +kernel)
theorem sn6_8 : (("it may not lie" : Str) = "lay") = False := eq_false (by decide +kernel)
theorem sn6_9 : (("it may not lie" : Str) = "mixed") = False := eq_false (by decide +kernel)
theorem sn6_10 : (("it may not lie" : Str) = "no pot") = False := eq_false (by decide +kernel)
theorem sn6_11 : (("it may not lie" : Str) = "no stand") = False := eq_false (by decide +kernel)
theorem sn6_12 : (("it may not lie" : Str) = "no stand of this pot") = False := eq_false (by decide +kernel)
theorem sn6_13 : (("it may not lie" : Str) = "no such pot or side") = False := eq_false (by decide +kernel)
theorem sn6_14 : (("it may not lie" : Str) = "no word") = False := eq_false (by decide +kernel)
theorem sn6_15 : (("it may not lie" : Str) = "nothing to strike") = False := eq_false (by decide +kernel)
theorem sn6_16 : (("it may not lie" : Str) = "pots") = False := eq_false (by decide +kernel)
theorem sn6_17 : (("it may not lie" : Str) = "show") = False := eq_false (by decide +kernel)
theorem sn6_18 : (("it may not lie" : Str) = "shows") = False := eq_false (by decide +kernel)
theorem sn6_19 : (("it may not lie" : Str) = "stand") = False := eq_false (by decide +kernel)
theorem sn6_20 : (("it may not lie" : Str) = "strike") = False := eq_false (by decide +kernel)
theorem sn6_21 : (("it may not lie" : Str) = "taken") = False := eq_false (by decide +kernel)
theorem sn6_22 : (("it may not lie" : Str) = "word") = False := eq_false (by decide +kernel)
theorem sn7_0 : (("laid" : Str) = "agree") = False := eq_false (by decide +kernel)
theorem sn7_1 : (("laid" : Str) = "claims") = False := eq_false (by decide +kernel)
theorem sn7_2 : (("laid" : Str) = "day") = False := eq_false (by decide +kernel)
theorem sn7_3 : (("laid" : Str) = "deed") = False := eq_false (by decide +kernel)
theorem sn7_4 : (("laid" : Str) = "done") = False := eq_false (by decide +kernel)
theorem sn7_5 : (("laid" : Str) = "held") = False := eq_false (by decide +kernel)
theorem sn7_6 : (("laid" : Str) = "it may not lie") = False := eq_false (by decide +kernel)
theorem sn7_8 : (("laid" : Str) = "lay") = False := eq_false (by decide +kernel)
theorem sn7_9 : (("laid" : Str) = "mixed") = False := eq_false (by decide +kernel)
theorem sn7_10 : (("laid" : Str) = "no pot") = False := eq_false (by decide +kernel)
theorem sn7_11 : (("laid" : Str) = "no stand") = False := eq_false (by decide +kernel)
theorem sn7_12 : (("laid" : Str) = "no stand of this pot") = False := eq_false (by decide +kernel)
theorem sn7_13 : (("laid" : Str) = "no such pot or side") = False := eq_false (by decide +kernel)
theorem sn7_14 : (("laid" : Str) = "no word") = False := eq_false (by decide +kernel)
theorem sn7_15 : (("laid" : Str) = "nothing to strike") = False := eq_false (by decide +kernel)
theorem sn7_16 : (("laid" : Str) = "pots") = False := eq_false (by decide +kernel)
theorem sn7_17 : (("laid" : Str) = "show") = False := eq_false (by decide +kernel)
theorem sn7_18 : (("laid" : Str) = "shows") = False := eq_false (by decide +kernel)
theorem sn7_19 : (("laid" : Str) = "stand") = False := eq_false (by decide +kernel)
theorem sn7_20 : (("laid" : Str) = "strike") = False := eq_false (by decide +kernel)
theorem sn7_21 : (("laid" : Str) = "taken") = False := eq_false (by decide +kernel)
theorem sn7_22 : (("laid" : Str) = "word") = False := eq_false (by decide +kernel)
theorem sn8_0 : (("lay" : Str) = "agree") = False := eq_false (by decide +kernel)
theorem sn8_1 : (("lay" : Str) = "claims") = False := eq_false (by decide +kernel)
theorem sn8_2 : (("lay" : Str) = "day") = False := eq_false (by decide +kernel)
theorem sn8_3 : (("lay" : Str) = "deed") = False := eq_false (by decide +kernel)
theorem sn8_4 : (("lay" : Str) = "done") = False := eq_false (by decide +kernel)
theorem sn8_5 : (("lay" : Str) = "held") = False := eq_false (by decide +kernel)
theorem sn8_6 : (("lay" : Str) = "it may not lie") = False := eq_false (by decide +kernel)
theorem sn8_7 : (("lay" : Str) = "laid") = False := eq_false (by decide +kernel)
theorem sn8_9 : (("lay" : Str) = "mixed") = False := eq_false (by decide +kernel)
theorem sn8_10 : (("lay" : Str) = "no pot") = False := eq_false (by decide +kernel)
theorem sn8_11 : (("lay" : Str) = "no stand") = False := eq_false (by decide +kernel)
theorem sn8_12 : (("lay" : Str) = "no stand of this pot") = False := eq_false (by decide +kernel)
theorem sn8_13 : (("lay" : Str) = "no such pot or side") = False := eq_false (by decide +kernel)
theorem sn8_14 : (("lay" : Str) = "no word") = False := eq_false (by decide +kernel)
theorem sn8_15 : (("lay" : Str) = "nothing to strike") = False := eq_false (by decide +kernel)
theorem sn8_16 : (("lay" : Str) = "pots") = False := eq_false (by decide +kernel)
theorem sn8_17 : (("lay" : Str) = "show") = False := eq_false (by decide +kernel)
theorem sn8_18 : (("lay" : Str) = "shows") = False := eq_false (by decide +kernel)
theorem sn8_19 : (("lay" : Str) = "stand") = False := eq_false (by decide +kernel)
theorem sn8_20 : (("lay" : Str) = "strike") = False := eq_false (by decide +kernel)
theorem sn8_21 : (("lay" : Str) = "taken") = False := eq_false (by decide +kernel)
theorem sn8_22 : (("lay" : Str) = "word") = False := eq_false (by decide +kernel)
theorem sn9_0 : (("mixed" : Str) = "agree") = False := eq_false (by decide +kernel)
theorem sn9_1 : (("mixed" : Str) = "claims") = False := eq_false (by decide +kernel)
theorem sn9_2 : (("mixed" : Str) = "day") = False := eq_false (by decide +kernel)
theorem sn9_3 : (("mixed" : Str) = "deed") = False := eq_false (by decide +kernel)
theorem sn9_4 : (("mixed" : Str) = "done") = False := eq_false (by decide +kernel)
theorem sn9_5 : (("mixed" : Str) = "held") = False := eq_false (by decide +kernel)
theorem sn9_6 : (("mixed" : Str) = "it may not lie") = False := eq_false (by decide +kernel)
theorem sn9_7 : (("mixed" : Str) = "laid") = False := eq_false (by decide +kernel)
theorem sn9_8 : (("mixed" : Str) = "lay") = False := eq_false (by decide +kernel)
theorem sn9_10 : (("mixed" : Str) = "no pot") = False := eq_false (by decide +kernel)
theorem sn9_11 : (("mixed" : Str) = "no stand") = False := eq_false (by decide +kernel)
theorem sn9_12 : (("mixed" : Str) = "no stand of this pot") = False := eq_false (by decide +kernel)
theorem sn9_13 : (("mixed" : Str) = "no such pot or side") = False := eq_false (by decide +kernel)
theorem sn9_14 : (("mixed" : Str) = "no word") = False := eq_false (by decide +kernel)
theorem sn9_15 : (("mixed" : Str) = "nothing to strike") = False := eq_false (by decide +kernel)
theorem sn9_16 : (("mixed" : Str) = "pots") = False := eq_false (by decide +kernel)
theorem sn9_17 : (("mixed" : Str) = "show") = False := eq_false (by decide +kernel)
theorem sn9_18 : (("mixed" : Str) = "shows") = False := eq_false (by decide +kernel)
theorem sn9_19 : (("mixed" : Str) = "stand") = False := eq_false (by decide +kernel)
theorem sn9_20 : (("mixed" : Str) = "strike") = False := eq_false (by decide +kernel)
theorem sn9_21 : (("mixed" : Str) = "taken") = False := eq_false (by decide +kernel)
theorem sn9_22 : (("mixed" : Str) = "word") = False := eq_false (by decide +kernel)
theorem sn10_0 : (("no pot" : Str) = "agree") = False := eq_false (by decide +kernel)
theorem sn10_1 : (("no pot" : Str) = "claims") = False := eq_false (by decide +kernel)
theorem sn10_2 : (("no pot" : Str) = "day") = False := eq_false (by decide +kernel)
theorem sn10_3 : (("no pot" : Str) = "deed") = False := eq_false (by decide +kernel)
theorem sn10_4 : (("no pot" : Str) = "done") = False := eq_false (by decide +kernel)
theorem sn10_5 : (("no pot" : Str) = "held") = False := eq_false (by decide +kernel)
theorem sn10_6 : (("no pot" : Str) = "it may not lie") = False := eq_false (by decide +kernel)
theorem sn10_7 : (("no pot" : Str) = "laid") = False := eq_false (by decide +kernel)
theorem sn10_8 : (("no pot" : Str) = "lay") = False := eq_false (by decide +kernel)
theorem sn10_9 : (("no pot" : Str) = "mixed") = False := eq_false (by decide +kernel)
theorem sn10_11 : (("no pot" : Str) = "no stand") = False := eq_false (by decide +kernel)
theorem sn10_12 : (("no pot" : Str) = "no stand of this pot") = False := eq_false (by decide +kernel)
theorem sn10_13 : (("no pot" : Str) = "no such pot or side") = False := eq_false (by decide +kernel)
theorem sn10_14 : (("no pot" : Str) = "no word") = False := eq_false (by decide +kernel)
theorem sn10_15 : (("no pot" : Str) = "nothing to strike") = False := eq_false (by decide +kernel)
theorem sn10_16 : (("no pot" : Str) = "pots") = False := eq_false (by decide +kernel)
theorem sn10_17 : (("no pot" : Str) = "show") = False := eq_false (by decide +kernel)
theorem sn10_18 : (("no pot" : Str) = "shows") = False := eq_false (by decide +kernel)
theorem sn10_19 : (("no pot" : Str) = "stand") = False := eq_false (by decide +kernel)
theorem sn10_20 : (("no pot" : Str) = "strike") = False := eq_false (by decide +kernel)
theorem sn10_21 : (("no pot" : Str) = "taken") = False := eq_false (by decide +kernel)
theorem sn10_22 : (("no pot" : Str) = "word") = False := eq_false (by decide +kernel)
theorem sn11_0 : (("no stand" : Str) = "agree") = False := eq_false (by decide +kernel)
theorem sn11_1 : (("no stand" : Str) = "claims") = False := eq_false (by decide +kernel)
theorem sn11_2 : (("no stand" : Str) = "day") = False := eq_false (by decide +kernel)
theorem sn11_3 : (("no stand" : Str) = "deed") = False := eq_false (by decide +kernel)
theorem sn11_4 : (("no stand" : Str) = "done") = False := eq_false (by decide +kernel)
theorem sn11_5 : (("no stand" : Str) = "held") = False := eq_false (by decide +kernel)
theorem sn11_6 : (("no stand" : Str) = "it may not lie") = False := eq_false (by decide +kernel)
theorem sn11_7 : (("no stand" : Str) = "laid") = False := eq_false (by decide +kernel)
theorem sn11_8 : (("no stand" : Str) = "lay") = False := eq_false (by decide +kernel)
theorem sn11_9 : (("no stand" : Str) = "mixed") = False := eq_false (by decide +kernel)
theorem sn11_10 : (("no stand" : Str) = "no pot") = False := eq_false (by decide +kernel)
theorem sn11_12 : (("no stand" : Str) = "no stand of this pot") = False := eq_false (by decide +kernel)
theorem sn11_13 : (("no stand" : Str) = "no such pot or side") = False := eq_false (by decide +kernel)
theorem sn11_14 : (("no stand" : Str) = "no word") = False := eq_false (by decide +kernel)
theorem sn11_15 : (("no stand" : Str) = "nothing to strike") = False := eq_false (by decide +kernel)
theorem sn11_16 : (("no stand" : Str) = "pots") = False := eq_false (by decide +kernel)
theorem sn11_17 : (("no stand" : Str) = "show") = False := eq_false (by decide +kernel)
theorem sn11_18 : (("no stand" : Str) = "shows") = False := eq_false (by decide +kernel)
theorem sn11_19 : (("no stand" : Str) = "stand") = False := eq_false (by decide +kernel)
theorem sn11_20 : (("no stand" : Str) = "strike") = False := eq_false (by decide +kernel)
theorem sn11_21 : (("no stand" : Str) = "taken") = False := eq_false (by decide +kernel)
theorem sn11_22 : (("no stand" : Str) = "word") = False := eq_false (by decide +kernel)
theorem sn12_0 : (("no stand of this pot" : Str) = "agree") = False := eq_false (by decide +kernel)
theorem sn12_1 : (("no stand of this pot" : Str) = "claims") = False := eq_false (by decide +kernel)
theorem sn12_2 : (("no stand of this pot" : Str) = "day") = False := eq_false (by decide +kernel)
theorem sn12_3 : (("no stand of this pot" : Str) = "deed") = False := eq_false (by decide +kernel)
theorem sn12_4 : (("no stand of this pot" : Str) = "done") = False := eq_false (by decide +kernel)
theorem sn12_5 : (("no stand of this pot" : Str) = "held") = False := eq_false (by decide +kernel)
theorem sn12_6 : (("no stand of this pot" : Str) = "it may not lie") = False := eq_false (by decide +kernel)
theorem sn12_7 : (("no stand of this pot" : Str) = "laid") = False := eq_false (by decide +kernel)
theorem sn12_8 : (("no stand of this pot" : Str) = "lay") = False := eq_false (by decide +kernel)
theorem sn12_9 : (("no stand of this pot" : Str) = "mixed") = False := eq_false (by decide +kernel)
theorem sn12_10 : (("no stand of this pot" : Str) = "no pot") = False := eq_false (by decide +kernel)
theorem sn12_11 : (("no stand of this pot" : Str) = "no stand") = False := eq_false (by decide +kernel)
theorem sn12_13 : (("no stand of this pot" : Str) = "no such pot or side") = False := eq_false (by decide +kernel)
theorem sn12_14 : (("no stand of this pot" : Str) = "no word") = False := eq_false (by decide +kernel)
theorem sn12_15 : (("no stand of this pot" : Str) = "nothing to strike") = False := eq_false (by decide +kernel)
theorem sn12_16 : (("no stand of this pot" : Str) = "pots") = False := eq_false (by decide +kernel)
theorem sn12_17 : (("no stand of this pot" : Str) = "show") = False := eq_false (by decide +kernel)
theorem sn12_18 : (("no stand of this pot" : Str) = "shows") = False := eq_false (by decide +kernel)
theorem sn12_19 : (("no stand of this pot" : Str) = "stand") = False := eq_false (by decide +kernel)
theorem sn12_20 : (("no stand of this pot" : Str) = "strike") = False := eq_false (by decide +kernel)
theorem sn12_21 : (("no stand of this pot" : Str) = "taken") = False := eq_false (by decide +kernel)
theorem sn12_22 : (("no stand of this pot" : Str) = "word") = False := eq_false (by decide +kernel)
theorem sn13_0 : (("no such pot or side" : Str) = "agree") = False := eq_false (by decide +kernel)
theorem sn13_1 : (("no such pot or side" : Str) = "claims") = False := eq_false (by decide +kernel)
theorem sn13_2 : (("no such pot or side" : Str) = "day") = False := eq_false (by decide +kernel)
theorem sn13_3 : (("no such pot or side" : Str) = "deed") = False := eq_false (by decide +kernel)
theorem sn13_4 : (("no such pot or side" : Str) = "done") = False := eq_false (by decide +kernel)
theorem sn13_5 : (("no such pot or side" : Str) = "held") = False := eq_false (by decide +kernel)
theorem sn13_6 : (("no such pot or side" : Str) = "it may not lie") = False := eq_false (by decide +kernel)
theorem sn13_7 : (("no such pot or side" : Str) = "laid") = False := eq_false (by decide +kernel)
theorem sn13_8 : (("no such pot or side" : Str) = "lay") = False := eq_false (by decide +kernel)
theorem sn13_9 : (("no such pot or side" : Str) = "mixed") = False := eq_false (by decide +kernel)
theorem sn13_10 : (("no such pot or side" : Str) = "no pot") = False := eq_false (by decide +kernel)
theorem sn13_11 : (("no such pot or side" : Str) = "no stand") = False := eq_false (by decide +kernel)
theorem sn13_12 : (("no such pot or side" : Str) = "no stand of this pot") = False := eq_false (by decide +kernel)
theorem sn13_14 : (("no such pot or side" : Str) = "no word") = False := eq_false (by decide +kernel)
theorem sn13_15 : (("no such pot or side" : Str) = "nothing to strike") = False := eq_false (by decide +kernel)
theorem sn13_16 : (("no such pot or side" : Str) = "pots") = False := eq_false (by decide +kernel)
theorem sn13_17 : (("no such pot or side" : Str) = "show") = False := eq_false (by decide +kernel)
theorem sn13_18 : (("no such pot or side" : Str) = "shows") = False := eq_false (by decide +kernel)
theorem sn13_19 : (("no such pot or side" : Str) = "stand") = False := eq_false (by decide +kernel)
theorem sn13_20 : (("no such pot or side" : Str) = "strike") = False := eq_false (by decide +kernel)
theorem sn13_21 : (("no such pot or side" : Str) = "taken") = False := eq_false (by decide +kernel)
theorem sn13_22 : (("no such pot or side" : Str) = "word") = False := eq_false (by decide +kernel)
theorem sn14_0 : (("no word" : Str) = "agree") = False := eq_false (by decide +kernel)
theorem sn14_1 : (("no word" : Str) = "claims") = False := eq_false (by decide +kernel)
theorem sn14_2 : (("no word" : Str) = "day") = False := eq_false (by decide +kernel)
theorem sn14_3 : (("no word" : Str) = "deed") = False := eq_false (by decide +kernel)
theorem sn14_4 : (("no word" : Str) = "done") = False := eq_false (by decide +kernel)
theorem sn14_5 : (("no word" : Str) = "held") = False := eq_false (by decide +kernel)
theorem sn14_6 : (("no word" : Str) = "it may not lie") = False := eq_false (by decide +kernel)
theorem sn14_7 : (("no word" : Str) = "laid") = False := eq_false (by decide +kernel)
theorem sn14_8 : (("no word" : Str) = "lay") = False := eq_false (by decide +kernel)
theorem sn14_9 : (("no word" : Str) = "mixed") = False := eq_false (by decide +kernel)
theorem sn14_10 : (("no word" : Str) = "no pot") = False := eq_false (by decide +kernel)
theorem sn14_11 : (("no word" : Str) = "no stand") = False := eq_false (by decide +kernel)
theorem sn14_12 : (("no word" : Str) = "no stand of this pot") = False := eq_false (by decide +kernel)
theorem sn14_13 : (("no word" : Str) = "no such pot or side") = False := eq_false (by decide +kernel)
theorem sn14_15 : (("no word" : Str) = "nothing to strike") = False := eq_false (by decide +kernel)
theorem sn14_16 : (("no word" : Str) = "pots") = False := eq_false (by decide +kernel)
theorem sn14_17 : (("no word" : Str) = "show") = False := eq_false (by decide +kernel)
theorem sn14_18 : (("no word" : Str) = "shows") = False := eq_false (by decide +kernel)
theorem sn14_19 : (("no word" : Str) = "stand") = False := eq_false (by decide +kernel)
theorem sn14_20 : (("no word" : Str) = "strike") = False := eq_false (by decide +kernel)
theorem sn14_21 : (("no word" : Str) = "taken") = False := eq_false (by decide +kernel)
theorem sn14_22 : (("no word" : Str) = "word") = False := eq_false (by decide +kernel)
theorem sn15_0 : (("nothing to strike" : Str) = "agree") = False := eq_false (by decide +kernel)
theorem sn15_1 : (("nothing to strike" : Str) = "claims") = False := eq_false (by decide +kernel)
theorem sn15_2 : (("nothing to strike" : Str) = "day") = False := eq_false (by decide +kernel)
theorem sn15_3 : (("nothing to strike" : Str) = "deed") = False := eq_false (by decide +kernel)
theorem sn15_4 : (("nothing to strike" : Str) = "done") = False := eq_false (by decide +kernel)
theorem sn15_5 : (("nothing to strike" : Str) = "held") = False := eq_false (by decide +kernel)
theorem sn15_6 : (("nothing to strike" : Str) = "it may not lie") = False := eq_false (by decide +kernel)
theorem sn15_7 : (("nothing to strike" : Str) = "laid") = False := eq_false (by decide +kernel)
theorem sn15_8 : (("nothing to strike" : Str) = "lay") = False := eq_false (by decide +kernel)
theorem sn15_9 : (("nothing to strike" : Str) = "mixed") = False := eq_false (by decide +kernel)
theorem sn15_10 : (("nothing to strike" : Str) = "no pot") = False := eq_false (by decide +kernel)
theorem sn15_11 : (("nothing to strike" : Str) = "no stand") = False := eq_false (by decide +kernel)
theorem sn15_12 : (("nothing to strike" : Str) = "no stand of this pot") = False := eq_false (by decide +kernel)
theorem sn15_13 : (("nothing to strike" : Str) = "no such pot or side") = False := eq_false (by decide +kernel)
theorem sn15_14 : (("nothing to strike" : Str) = "no word") = False := eq_false (by decide +kernel)
theorem sn15_16 : (("nothing to strike" : Str) = "pots") = False := eq_false (by decide +kernel)
theorem sn15_17 : (("nothing to strike" : Str) = "show") = False := eq_false (by decide +kernel)
theorem sn15_18 : (("nothing to strike" : Str) = "shows") = False := eq_false (by decide +kernel)
theorem sn15_19 : (("nothing to strike" : Str) = "stand") = False := eq_false (by decide +kernel)
theorem sn15_20 : (("nothing to strike" : Str) = "strike") = False := eq_false (by decide +kernel)
theorem sn15_21 : (("nothing to strike" : Str) = "taken") = False := eq_false (by decide +kernel)
theorem sn15_22 : (("nothing to strike" : Str) = "word") = False := eq_false (by decide +kernel)
theorem sn16_0 : (("pots" : Str) = "agree") = False := eq_false (by decide +kernel)
theorem sn16_1 : (("pots" : Str) = "claims") = False := eq_false (by decide +kernel)
theorem sn16_2 : (("pots" : Str) = "day") = False := eq_false (by decide +kernel)
theorem sn16_3 : (("pots" : Str) = "deed") = False := eq_false (by decide +kernel)
theorem sn16_4 : (("pots" : Str) = "done") = False := eq_false (by decide +kernel)
theorem sn16_5 : (("pots" : Str) = "held") = False := eq_false (by decide +kernel)
theorem sn16_6 : (("pots" : Str) = "it may not lie") = False := eq_false (by decide +kernel)
theorem sn16_7 : (("pots" : Str) = "laid") = False := eq_false (by decide +kernel)
theorem sn16_8 : (("pots" : Str) = "lay") = False := eq_false (by decide +kernel)
theorem sn16_9 : (("pots" : Str) = "mixed") = False := eq_false (by decide +kernel)
theorem sn16_10 : (("pots" : Str) = "no pot") = False := eq_false (by decide +kernel)
theorem sn16_11 : (("pots" : Str) = "no stand") = False := eq_false (by decide +kernel)
theorem sn16_12 : (("pots" : Str) = "no stand of this pot") = False := eq_false (by decide +kernel)
theorem sn16_13 : (("pots" : Str) = "no such pot or side") = False := eq_false (by decide +kernel)
theorem sn16_14 : (("pots" : Str) = "no word") = False := eq_false (by decide +kernel)
theorem sn16_15 : (("pots" : Str) = "nothing to strike") = False := eq_false (by decide +kernel)
theorem sn16_17 : (("pots" : Str) = "show") = False := eq_false (by decide +kernel)
theorem sn16_18 : (("pots" : Str) = "shows") = False := eq_false (by decide +kernel)
theorem sn16_19 : (("pots" : Str) = "stand") = False := eq_false (by decide +kernel)
theorem sn16_20 : (("pots" : Str) = "strike") = False := eq_false (by decide +kernel)
theorem sn16_21 : (("pots" : Str) = "taken") = False := eq_false (by decide +kernel)
theorem sn16_22 : (("pots" : Str) = "word") = False := eq_false (by decide +kernel)
theorem sn17_0 : (("show" : Str) = "agree") = False := eq_false (by decide +kernel)
theorem sn17_1 : (("show" : Str) = "claims") = False := eq_false (by decide +kernel)
theorem sn17_2 : (("show" : Str) = "day") = False := eq_false (by decide +kernel)
theorem sn17_3 : (("show" : Str) = "deed") = False := eq_false (by decide +kernel)
theorem sn17_4 : (("show" : Str) = "done") = False := eq_false (by decide +kernel)
theorem sn17_5 : (("show" : Str) = "held") = False := eq_false (by decide +kernel)
theorem sn17_6 : (("show" : Str) = "it may not lie") = False := eq_false (by decide +kernel)
theorem sn17_7 : (("show" : Str) = "laid") = False := eq_false (by decide +kernel)
theorem sn17_8 : (("show" : Str) = "lay") = False := eq_false (by decide +kernel)
theorem sn17_9 : (("show" : Str) = "mixed") = False := eq_false (by decide +kernel)
theorem sn17_10 : (("show" : Str) = "no pot") = False := eq_false (by decide +kernel)
theorem sn17_11 : (("show" : Str) = "no stand") = False := eq_false (by decide +kernel)
theorem sn17_12 : (("show" : Str) = "no stand of this pot") = False := eq_false (by decide +kernel)
theorem sn17_13 : (("show" : Str) = "no such pot or side") = False := eq_false (by decide +kernel)
theorem sn17_14 : (("show" : Str) = "no word") = False := eq_false (by decide +kernel)
theorem sn17_15 : (("show" : Str) = "nothing to strike") = False := eq_false (by decide +kernel)
theorem sn17_16 : (("show" : Str) = "pots") = False := eq_false (by decide +kernel)
theorem sn17_18 : (("show" : Str) = "shows") = False := eq_false (by decide +kernel)
theorem sn17_19 : (("show" : Str) = "stand") = False := eq_false (by decide +kernel)
theorem sn17_20 : (("show" : Str) = "strike") = False := eq_false (by decide +kernel)
theorem sn17_21 : (("show" : Str) = "taken") = False := eq_false (by decide +kernel)
theorem sn17_22 : (("show" : Str) = "word") = False := eq_false (by decide +kernel)
theorem sn18_0 : (("shows" : Str) = "agree") = False := eq_false (by decide +kernel)
theorem sn18_1 : (("shows" : Str) = "claims") = False := eq_false (by decide +kernel)
theorem sn18_2 : (("shows" : Str) = "day") = False := eq_false (by decide +kernel)
theorem sn18_3 : (("shows" : Str) = "deed") = False := eq_false (by decide +kernel)
theorem sn18_4 : (("shows" : Str) = "done") = False := eq_false (by decide +kernel)
theorem sn18_5 : (("shows" : Str) = "held") = False := eq_false (by decide +kernel)
theorem sn18_6 : (("shows" : Str) = "it may not lie") = False := eq_false (by decide +kernel)
theorem sn18_7 : (("shows" : Str) = "laid") = False := eq_false (by decide +kernel)
theorem sn18_8 : (("shows" : Str) = "lay") = False := eq_false (by decide +kernel)
theorem sn18_9 : (("shows" : Str) = "mixed") = False := eq_false (by decide +kernel)
theorem sn18_10 : (("shows" : Str) = "no pot") = False := eq_false (by decide +kernel)
theorem sn18_11 : (("shows" : Str) = "no stand") = False := eq_false (by decide +kernel)
theorem sn18_12 : (("shows" : Str) = "no stand of this pot") = False := eq_false (by decide +kernel)
theorem sn18_13 : (("shows" : Str) = "no such pot or side") = False := eq_false (by decide +kernel)
theorem sn18_14 : (("shows" : Str) = "no word") = False := eq_false (by decide +kernel)
theorem sn18_15 : (("shows" : Str) = "nothing to strike") = False := eq_false (by decide +kernel)
theorem sn18_16 : (("shows" : Str) = "pots") = False := eq_false (by decide +kernel)
theorem sn18_17 : (("shows" : Str) = "show") = False := eq_false (by decide +kernel)
theorem sn18_19 : (("shows" : Str) = "stand") = False := eq_false (by decide +kernel)
theorem sn18_20 : (("shows" : Str) = "strike") = False := eq_false (by decide +kernel)
theorem sn18_21 : (("shows" : Str) = "taken") = False := eq_false (by decide +kernel)
theorem sn18_22 : (("shows" : Str) = "word") = False := eq_false (by decide +kernel)
theorem sn19_0 : (("stand" : Str) = "agree") = False := eq_false (by decide +kernel)
theorem sn19_1 : (("stand" : Str) = "claims") = False := eq_false (by decide +kernel)
theorem sn19_2 : (("stand" : Str) = "day") = False := eq_false (by decide +kernel)
theorem sn19_3 : (("stand" : Str) = "deed") = False := eq_false (by decide +kernel)
theorem sn19_4 : (("stand" : Str) = "done") = False := eq_false (by decide +kernel)
theorem sn19_5 : (("stand" : Str) = "held") = False := eq_false (by decide +kernel)
theorem sn19_6 : (("stand" : Str) = "it may not lie") = False := eq_false (by decide +kernel)
theorem sn19_7 : (("stand" : Str) = "laid") = False := eq_false (by decide +kernel)
theorem sn19_8 : (("stand" : Str) = "lay") = False := eq_false (by decide +kernel)
theorem sn19_9 : (("stand" : Str) = "mixed") = False := eq_false (by decide +kernel)
theorem sn19_10 : (("stand" : Str) = "no pot") = False := eq_false (by decide +kernel)
theorem sn19_11 : (("stand" : Str) = "no stand") = False := eq_false (by decide +kernel)
theorem sn19_12 : (("stand" : Str) = "no stand of this pot") = False := eq_false (by decide +kernel)
theorem sn19_13 : (("stand" : Str) = "no such pot or side") = False := eq_false (by decide +kernel)
theorem sn19_14 : (("stand" : Str) = "no word") = False := eq_false (by decide +kernel)
theorem sn19_15 : (("stand" : Str) = "nothing to strike") = False := eq_false (by decide +kernel)
theorem sn19_16 : (("stand" : Str) = "pots") = False := eq_false (by decide +kernel)
theorem sn19_17 : (("stand" : Str) = "show") = False := eq_false (by decide +kernel)
theorem sn19_18 : (("stand" : Str) = "shows") = False := eq_false (by decide +kernel)
theorem sn19_20 : (("stand" : Str) = "strike") = False := eq_false (by decide +kernel)
theorem sn19_21 : (("stand" : Str) = "taken") = False := eq_false (by decide +kernel)
theorem sn19_22 : (("stand" : Str) = "word") = False := eq_false (by decide +kernel)
theorem sn20_0 : (("strike" : Str) = "agree") = False := eq_false (by decide +kernel)
theorem sn20_1 : (("strike" : Str) = "claims") = False := eq_false (by decide +kernel)
theorem sn20_2 : (("strike" : Str) = "day") = False := eq_false (by decide +kernel)
theorem sn20_3 : (("strike" : Str) = "deed") = False := eq_false (by decide +kernel)
theorem sn20_4 : (("strike" : Str) = "done") = False := eq_false (by decide +kernel)
theorem sn20_5 : (("strike" : Str) = "held") = False := eq_false (by decide +kernel)
theorem sn20_6 : (("strike" : Str) = "it may not lie") = False := eq_false (by decide +kernel)
theorem sn20_7 : (("strike" : Str) = "laid") = False := eq_false (by decide +kernel)
theorem sn20_8 : (("strike" : Str) = "lay") = False := eq_false (by decide +kernel)
theorem sn20_9 : (("strike" : Str) = "mixed") = False := eq_false (by decide +kernel)
theorem sn20_10 : (("strike" : Str) = "no pot") = False := eq_false (by decide +kernel)
theorem sn20_11 : (("strike" : Str) = "no stand") = False := eq_false (by decide +kernel)
theorem sn20_12 : (("strike" : Str) = "no stand of this pot") = False := eq_false (by decide +kernel)
theorem sn20_13 : (("strike" : Str) = "no such pot or side") = False := eq_false (by decide +kernel)
theorem sn20_14 : (("strike" : Str) = "no word") = False := eq_false (by decide +kernel)
theorem sn20_15 : (("strike" : Str) = "nothing to strike") = False := eq_false (by decide +kernel)
theorem sn20_16 : (("strike" : Str) = "pots") = False := eq_false (by decide +kernel)
theorem sn20_17 : (("strike" : Str) = "show") = False := eq_false (by decide +kernel)
theorem sn20_18 : (("strike" : Str) = "shows") = False := eq_false (by decide +kernel)
theorem sn20_19 : (("strike" : Str) = "stand") = False := eq_false (by decide +kernel)
theorem sn20_21 : (("strike" : Str) = "taken") = False := eq_false (by decide +kernel)
theorem sn20_22 : (("strike" : Str) = "word") = False := eq_false (by decide +kernel)
theorem sn21_0 : (("taken" : Str) = "agree") = False := eq_false (by decide +kernel)
theorem sn21_1 : (("taken" : Str) = "claims") = False := eq_false (by decide +kernel)
theorem sn21_2 : (("taken" : Str) = "day") = False := eq_false (by decide +kernel)
theorem sn21_3 : (("taken" : Str) = "deed") = False := eq_false (by decide +kernel)
theorem sn21_4 : (("taken" : Str) = "done") = False := eq_false (by decide +kernel)
theorem sn21_5 : (("taken" : Str) = "held") = False := eq_false (by decide +kernel)
theorem sn21_6 : (("taken" : Str) = "it may not lie") = False := eq_false (by decide +kernel)
theorem sn21_7 : (("taken" : Str) = "laid") = False := eq_false (by decide +kernel)
theorem sn21_8 : (("taken" : Str) = "lay") = False := eq_false (by decide +kernel)
theorem sn21_9 : (("taken" : Str) = "mixed") = False := eq_false (by decide +kernel)
theorem sn21_10 : (("taken" : Str) = "no pot") = False := eq_false (by decide +kernel)
theorem sn21_11 : (("taken" : Str) = "no stand") = False := eq_false (by decide +kernel)
theorem sn21_12 : (("taken" : Str) = "no stand of this pot") = False := eq_false (by decide +kernel)
theorem sn21_13 : (("taken" : Str) = "no such pot or side") = False := eq_false (by decide +kernel)
theorem sn21_14 : (("taken" : Str) = "no word") = False := eq_false (by decide +kernel)
theorem sn21_15 : (("taken" : Str) = "nothing to strike") = False := eq_false (by decide +kernel)
theorem sn21_16 : (("taken" : Str) = "pots") = False := eq_false (by decide +kernel)
theorem sn21_17 : (("taken" : Str) = "show") = False := eq_false (by decide +kernel)
theorem sn21_18 : (("taken" : Str) = "shows") = False := eq_false (by decide +kernel)
theorem sn21_19 : (("taken" : Str) = "stand") = False := eq_false (by decide +kernel)
theorem sn21_20 : (("taken" : Str) = "strike") = False := eq_false (by decide +kernel)
theorem sn21_22 : (("taken" : Str) = "word") = False := eq_false (by decide +kernel)
theorem sn22_0 : (("word" : Str) = "agree") = False := eq_false (by decide +kernel)
theorem sn22_1 : (("word" : Str) = "claims") = False := eq_false (by decide +kernel)
theorem sn22_2 : (("word" : Str) = "day") = False := eq_false (by decide +kernel)
theorem sn22_3 : (("word" : Str) = "deed") = False := eq_false (by decide +kernel)
theorem sn22_4 : (("word" : Str) = "done") = False := eq_false (by decide +kernel)
theorem sn22_5 : (("word" : Str) = "held") = False := eq_false (by decide +kernel)
theorem sn22_6 : (("word" : Str) = "it may not lie") = False := eq_false (by decide +kernel)
theorem sn22_7 : (("word" : Str) = "laid") = False := eq_false (by decide +kernel)
theorem sn22_8 : (("word" : Str) = "lay") = False := eq_false (by decide +kernel)
theorem sn22_9 : (("word" : Str) = "mixed") = False := eq_false (by decide +kernel)
theorem sn22_10 : (("word" : Str) = "no pot") = False := eq_false (by decide +kernel)
theorem sn22_11 : (("word" : Str) = "no stand") = False := eq_false (by decide +kernel)
theorem sn22_12 : (("word" : Str) = "no stand of this pot") = False := eq_false (by decide +kernel)
theorem sn22_13 : (("word" : Str) = "no such pot or side") = False := eq_false (by decide +kernel)
theorem sn22_14 : (("word" : Str) = "no word") = False := eq_false (by decide +kernel)
theorem sn22_15 : (("word" : Str) = "nothing to strike") = False := eq_false (by decide +kernel)
theorem sn22_16 : (("word" : Str) = "pots") = False := eq_false (by decide +kernel)
theorem sn22_17 : (("word" : Str) = "show") = False := eq_false (by decide +kernel)
theorem sn22_18 : (("word" : Str) = "shows") = False := eq_false (by decide +kernel)
theorem sn22_19 : (("word" : Str) = "stand") = False := eq_false (by decide +kernel)
theorem sn22_20 : (("word" : Str) = "strike") = False := eq_false (by decide +kernel)
theorem sn22_21 : (("word" : Str) = "taken") = False := eq_false (by decide +kernel)
theorem cls_end : True := trivial

local macro_rules | `(tactic| simp_all! only [1, $xs,*]) => `(tactic| simp (maxSteps := 3000000) (implicitDefEqProofs := false) (discharger := first | omega | exact rfl | (simp only [List.length_cons, List.length_nil, List.length_map, List.length_append]; omega)) only [reduceCtorEq, Nat.reduceAdd, Int.cast_ofNat_Int, Int.reduceEq, Int.reduceLT, Int.reduceLE, not_true_eq_false, not_false_eq_true, decide_true, decide_false, Bool.not_true, Bool.not_false, bind_if, st_if, try_then, try_nx, try_rt, try_exc, try_if, hand_nx, hand_rt, hand_if, run_cons, run_nil, runQ_yes, runQ_no, fit_none, fit_some, evC, i_is, i_isnot, non_non, non_tup, non_int, dCh, sNever, evB, evSt, evE, evT, evL, evO, evQ, List.map_nil, List.map_cons, Cst.d, Sm.f, Bool.false_eq_true, if_false, if_true, seq_then, sAsg, sRet, sRetN, sIf, sDrop, sNx, sRaise, dB, dU, dC, dT, dCl, dCons, dNil, dTup, dLst, dBi, dSl, pNone, pSome, dIf, dAnd, dOr, dNot, bAnd, bOr, bNot, asB, rb_ok, rb_exc, rst_ok, rst_exc, opt_some, then_nx, then_rt, then_exc, then_bk, then_ct, then_if, out_rt, out_nx, out_exc, out_if, binF, binD, Option.getD_some, dVar, List.getElem?_cons_zero, List.getElem?_cons_succ, bindT, bindTs, List.set_cons_zero, List.set_cons_succ, List.append_nil, List.nil_append, List.cons_append, BF.op, i_add, i_sub, i_and, i_neg, i_lt, i_le, i_gt, i_ge, i_eq, i_ne, decide_eq_true_eq, Bool.not_eq_true', decide_eq_false_iff_not, len_tup, len_lst, len_scr, idx_tup, idx_lst, idx_scr, i_mul, i_mod, i_div, i_pow, i_shr, List.length_cons, List.length_nil, dM, BM.op, BM.c, fits_T, is_bl_non, is_bl_bl, is_bl_int, is_bl_str, is_bl_tup, is_bl_lst, is_bl_dct, is_int_non, is_int_bl, is_int_int, is_int_str, is_int_tup, is_int_lst, is_int_dct, is_str_non, is_str_bl, is_str_int, is_str_str, is_str_tup, is_str_lst, is_str_dct, is_tup_non, is_tup_bl, is_tup_int, is_tup_str, is_tup_tup, is_tup_lst, is_tup_dct, is_lst_non, is_lst_bl, is_lst_int, is_lst_str, is_lst_tup, is_lst_lst, is_lst_dct, is_dct_non, is_dct_bl, is_dct_int, is_dct_str, is_dct_tup, is_dct_lst, is_dct_dct, ix0, ix1, ix2, ix3, at2, at3, at4, at5, at6, at7, at8, Int.reduceToNat, Int.reducePow, Int.reduceAdd, Int.reduceSub, Int.reduceMul, dFld, sFldD, dMe, insAt_ins, Sm.me, List.lookup_cons, Nat.reduceBEq, Option.isNone_none, min2, max2, is_bl, isnot_bl, bl_eq, bl_ne, ok_if_bl, ok_if_B, rt_if_bl, add_lst, add_tup, evS, sWip, wipeE, for_seqE, forD_tup, forD_lst, forD_scr, for_r1E, forR1_int, for_r2E, forR2_int, for_enuE, forE_lst, for_zipE, forZ_lst, forL_nil, nextL_nx, nextL_ct, nextL_bk, nextL_rt, nextL_if, comp_seqE, compD_tup, compD_lst, comp_r1E, compR1_int, endC_some, sub_E, isx_E, endO_some, Option.map_some, Option.map_none, beq_self_eq_true, s_fodE, forDw_dct, calR_nx, calR_rt, c_codE, $xs,*])
local macro_rules | `(tactic| simp_all! only [2, $xs,*]) => `(tactic| simp (maxSteps := 3000000) (implicitDefEqProofs := false) (discharger := first | omega | exact rfl | (simp only [List.length_cons, List.length_nil, List.length_map, List.length_append]; omega)) only [reduceCtorEq, Nat.reduceAdd, Int.cast_ofNat_Int, Int.reduceEq, Int.reduceLT, Int.reduceLE, not_true_eq_false, not_false_eq_true, decide_true, decide_false, Bool.not_true, Bool.not_false, bind_if, st_if, try_then, try_nx, try_rt, try_exc, try_if, hand_nx, hand_rt, hand_if, run_cons, run_nil, runQ_yes, runQ_no, fit_none, fit_some, evC, i_is, i_isnot, non_non, non_tup, non_int, dCh, sNever, evB, evSt, evE, evT, evL, evO, evQ, List.map_nil, List.map_cons, Cst.d, Sm.f, Bool.false_eq_true, if_false, if_true, seq_then, sAsg, sRet, sRetN, sIf, sDrop, sNx, sRaise, dB, dU, dC, dT, dCl, dCons, dNil, dTup, dLst, dBi, dSl, pNone, pSome, dIf, dAnd, dOr, dNot, bAnd, bOr, bNot, asB, rb_ok, rb_exc, rst_ok, rst_exc, opt_some, then_nx, then_rt, then_exc, then_bk, then_ct, then_if, out_rt, out_nx, out_exc, out_if, binF, binD, Option.getD_some, dVar, List.getElem?_cons_zero, List.getElem?_cons_succ, bindT, bindTs, List.set_cons_zero, List.set_cons_succ, List.append_nil, List.nil_append, List.cons_append, BF.op, i_add, i_sub, i_and, i_neg, i_lt, i_le, i_gt, i_ge, i_eq, i_ne, decide_eq_true_eq, Bool.not_eq_true', decide_eq_false_iff_not, len_tup, len_lst, len_scr, idx_tup, idx_lst, idx_scr, i_mul, i_mod, i_div, i_pow, i_shr, List.length_cons, List.length_nil, dM, BM.op, BM.c, fits_T, is_bl_non, is_bl_bl, is_bl_int, is_bl_str, is_bl_tup, is_bl_lst, is_bl_dct, is_int_non, is_int_bl, is_int_int, is_int_str, is_int_tup, is_int_lst, is_int_dct, is_str_non, is_str_bl, is_str_int, is_str_str, is_str_tup, is_str_lst, is_str_dct, is_tup_non, is_tup_bl, is_tup_int, is_tup_str, is_tup_tup, is_tup_lst, is_tup_dct, is_lst_non, is_lst_bl, is_lst_int, is_lst_str, is_lst_tup, is_lst_lst, is_lst_dct, is_dct_non, is_dct_bl, is_dct_int, is_dct_str, is_dct_tup, is_dct_lst, is_dct_dct, ix0, ix1, ix2, ix3, at2, at3, at4, at5, at6, at7, at8, Int.reduceToNat, Int.reducePow, Int.reduceAdd, Int.reduceSub, Int.reduceMul, $xs,*])
local macro_rules | `(tactic| simp_all! only [3, $xs,*]) => `(tactic| simp (maxSteps := 3000000) (implicitDefEqProofs := false) (discharger := first | omega | exact rfl | (simp only [List.length_cons, List.length_nil, List.length_map, List.length_append]; omega)) only [reduceCtorEq, Nat.reduceAdd, Int.cast_ofNat_Int, Int.reduceEq, Int.reduceLT, Int.reduceLE, not_true_eq_false, not_false_eq_true, decide_true, decide_false, Bool.not_true, Bool.not_false, bind_if, st_if, try_then, try_nx, try_rt, try_exc, try_if, hand_nx, hand_rt, hand_if, run_cons, run_nil, runQ_yes, runQ_no, fit_none, fit_some, evC, i_is, i_isnot, non_non, non_tup, non_int, dCh, sNever, evB, evSt, evE, evT, evL, evO, evQ, List.map_nil, List.map_cons, Cst.d, Sm.f, Bool.false_eq_true, if_false, if_true, seq_then, sAsg, sRet, sRetN, sIf, sDrop, sNx, sRaise, dB, dU, dC, dT, dCl, dCons, dNil, dTup, dLst, dBi, dSl, pNone, pSome, dIf, dAnd, dOr, dNot, bAnd, bOr, bNot, asB, rb_ok, rb_exc, rst_ok, rst_exc, opt_some, then_nx, then_rt, then_exc, then_bk, then_ct, then_if, out_rt, out_nx, out_exc, out_if, binF, binD, Option.getD_some, dVar, List.getElem?_cons_zero, List.getElem?_cons_succ, bindT, bindTs, List.set_cons_zero, List.set_cons_succ, List.append_nil, List.nil_append, List.cons_append, BF.op, i_add, i_sub, i_and, i_neg, i_lt, i_le, i_gt, i_ge, i_eq, i_ne, decide_eq_true_eq, Bool.not_eq_true', decide_eq_false_iff_not, len_tup, len_lst, len_scr, idx_tup, idx_lst, idx_scr, i_mul, i_mod, i_div, i_pow, i_shr, List.length_cons, List.length_nil, dM, BM.op, BM.c, fits_T, is_bl_non, is_bl_bl, is_bl_int, is_bl_str, is_bl_tup, is_bl_lst, is_bl_dct, is_int_non, is_int_bl, is_int_int, is_int_str, is_int_tup, is_int_lst, is_int_dct, is_str_non, is_str_bl, is_str_int, is_str_str, is_str_tup, is_str_lst, is_str_dct, is_tup_non, is_tup_bl, is_tup_int, is_tup_str, is_tup_tup, is_tup_lst, is_tup_dct, is_lst_non, is_lst_bl, is_lst_int, is_lst_str, is_lst_tup, is_lst_lst, is_lst_dct, is_dct_non, is_dct_bl, is_dct_int, is_dct_str, is_dct_tup, is_dct_lst, is_dct_dct, ix0, ix1, ix2, ix3, at2, at3, at4, at5, at6, at7, at8, Int.reduceToNat, Int.reducePow, Int.reduceAdd, Int.reduceSub, Int.reduceMul, dFld, sFldD, dMe, insAt_ins, Sm.me, List.lookup_cons, Nat.reduceBEq, Option.isNone_none, min2, max2, is_bl, isnot_bl, bl_eq, bl_ne, ok_if_bl, ok_if_B, rt_if_bl, add_lst, add_tup, evS, sWip, wipeE, for_seqE, forD_tup, forD_lst, forD_scr, for_r1E, forR1_int, for_r2E, forR2_int, for_enuE, forE_lst, for_zipE, forZ_lst, forL_nil, nextL_nx, nextL_ct, nextL_bk, nextL_rt, nextL_if, comp_seqE, compD_tup, compD_lst, comp_r1E, compR1_int, endC_some, sub_E, isx_E, endO_some, Option.map_some, Option.map_none, beq_self_eq_true, s_fodE, forDw_dct, calR_nx, calR_rt, c_codE, fl1_whole, fl2_whole, fl2_layer, fl2_lying, fl2_begun, fl2_patience, fl3_whole, fl3_taker, fl8_kept, fl8_now, fl8_claims, fl8_shows, nl1_told, nl1_comes, nl1_may_strike, nl2_told, nl2_comes, nl2_may_strike, nl3_told, nl3_comes, nl3_may_strike, nl8_made_of, nl8_today, nl8_next_day, nl8_look_for, nl8_show, nl8_agreed, nl8_lay, nl8_strike, nl8_told, nl8_shown_for, nl8_due_of, nl8_coin_of, nl8_is_over, nl8_all_shown, ft1_whole, pf1_whole, fll1, ft2_whole, pf2_whole, ft2_layer, pf2_layer, ft2_lying, pf2_lying, ft2_begun, pf2_begun, ft2_patience, pf2_patience, fll2, ft3_whole, pf3_whole, ft3_taker, pf3_taker, fll3, ft8_kept, pf8_kept, ft8_now, pf8_now, ft8_claims, pf8_claims, ft8_shows, pf8_shows, fll8, $xs,*])
local macro_rules | `(tactic| simp_all! only [4, $xs,*]) => `(tactic| simp only [pln_non, pln_bl, pln_int, pln_str, pln_tupp, pln_lstt, plns_nil, plns_cons, Nat.reduceSub, Bool.and_true, Bool.true_and, Bool.and_self, Nat.reduceLT, Nat.zero_lt_succ, so0, so1, so2, so3, so4, so5, so6, so7, so8, so9, so10, so11, so12, so13, so14, so15, so16, so17, so18, so19, so20, so21, so22, $xs,*])
local macro_rules | `(tactic| simp_all! only [5, $xs,*]) => `(tactic| simp (maxSteps := 3000000) (implicitDefEqProofs := false) (discharger := first | omega | exact rfl | (simp only [List.length_cons, List.length_nil, List.length_map, List.length_append]; omega)) only [reduceCtorEq, Nat.reduceAdd, Int.cast_ofNat_Int, Int.reduceEq, Int.reduceLT, Int.reduceLE, not_true_eq_false, not_false_eq_true, decide_true, decide_false, Bool.not_true, Bool.not_false, bind_if, st_if, try_then, try_nx, try_rt, try_exc, try_if, hand_nx, hand_rt, hand_if, run_cons, run_nil, runQ_yes, runQ_no, fit_none, fit_some, evC, i_is, i_isnot, non_non, non_tup, non_int, dCh, sNever, evB, evSt, evE, evT, evL, evO, evQ, List.map_nil, List.map_cons, Cst.d, Sm.f, Bool.false_eq_true, if_false, if_true, seq_then, sAsg, sRet, sRetN, sIf, sDrop, sNx, sRaise, dB, dU, dC, dT, dCl, dCons, dNil, dTup, dLst, dBi, dSl, pNone, pSome, dIf, dAnd, dOr, dNot, bAnd, bOr, bNot, asB, rb_ok, rb_exc, rst_ok, rst_exc, opt_some, then_nx, then_rt, then_exc, then_bk, then_ct, then_if, out_rt, out_nx, out_exc, out_if, binF, binD, Option.getD_some, dVar, List.getElem?_cons_zero, List.getElem?_cons_succ, bindT, bindTs, List.set_cons_zero, List.set_cons_succ, List.append_nil, List.nil_append, List.cons_append, BF.op, i_add, i_sub, i_and, i_neg, i_lt, i_le, i_gt, i_ge, i_eq, i_ne, decide_eq_true_eq, Bool.not_eq_true', decide_eq_false_iff_not, len_tup, len_lst, len_scr, idx_tup, idx_lst, idx_scr, i_mul, i_mod, i_div, i_pow, i_shr, List.length_cons, List.length_nil, dM, BM.op, BM.c, fits_T, is_bl_non, is_bl_bl, is_bl_int, is_bl_str, is_bl_tup, is_bl_lst, is_bl_dct, is_int_non, is_int_bl, is_int_int, is_int_str, is_int_tup, is_int_lst, is_int_dct, is_str_non, is_str_bl, is_str_int, is_str_str, is_str_tup, is_str_lst, is_str_dct, is_tup_non, is_tup_bl, is_tup_int, is_tup_str, is_tup_tup, is_tup_lst, is_tup_dct, is_lst_non, is_lst_bl, is_lst_int, is_lst_str, is_lst_tup, is_lst_lst, is_lst_dct, is_dct_non, is_dct_bl, is_dct_int, is_dct_str, is_dct_tup, is_dct_lst, is_dct_dct, ix0, ix1, ix2, ix3, at2, at3, at4, at5, at6, at7, at8, Int.reduceToNat, Int.reducePow, Int.reduceAdd, Int.reduceSub, Int.reduceMul, dFld, sFldD, insAt_ins, List.lookup_cons, Nat.reduceBEq, Option.isNone_none, min2, max2, is_bl, isnot_bl, bl_eq, bl_ne, ok_if_bl, ok_if_B, rt_if_bl, add_lst, add_tup, evS, sWip, wipeE, for_seqE, forD_tup, forD_lst, forD_scr, for_r1E, forR1_int, for_r2E, forR2_int, for_enuE, forE_lst, for_zipE, forZ_lst, forL_nil, nextL_nx, nextL_ct, nextL_bk, nextL_rt, nextL_if, comp_seqE, compD_tup, compD_lst, comp_r1E, compR1_int, endC_some, sub_E, isx_E, endO_some, Option.map_some, Option.map_none, beq_self_eq_true, s_fodE, forDw_dct, calR_nx, calR_rt, c_codE, $xs,*])
local macro_rules | `(tactic| simp_all! only [6, $xs,*]) => `(tactic| simp (maxSteps := 3000000) (implicitDefEqProofs := false) (discharger := first | omega | exact rfl | (simp only [List.length_cons, List.length_nil, List.length_map, List.length_append]; omega)) only [reduceCtorEq, Nat.reduceAdd, Int.cast_ofNat_Int, Int.reduceEq, Int.reduceLT, Int.reduceLE, not_true_eq_false, not_false_eq_true, decide_true, decide_false, Bool.not_true, Bool.not_false, bind_if, st_if, try_then, try_nx, try_rt, try_exc, try_if, hand_nx, hand_rt, hand_if, run_cons, run_nil, runQ_yes, runQ_no, fit_none, fit_some, evC, i_is, i_isnot, non_non, non_tup, non_int, dCh, sNever, evB, evSt, evE, evT, evL, evO, evQ, List.map_nil, List.map_cons, Cst.d, Sm.f, Bool.false_eq_true, if_false, if_true, seq_then, sAsg, sRet, sRetN, sIf, sDrop, sNx, sRaise, dB, dU, dC, dT, dCl, dCons, dNil, dTup, dLst, dBi, dSl, pNone, pSome, dIf, dAnd, dOr, dNot, bAnd, bOr, bNot, asB, rb_ok, rb_exc, rst_ok, rst_exc, opt_some, then_nx, then_rt, then_exc, then_bk, then_ct, then_if, out_rt, out_nx, out_exc, out_if, binF, binD, Option.getD_some, dVar, List.getElem?_cons_zero, List.getElem?_cons_succ, bindT, bindTs, List.set_cons_zero, List.set_cons_succ, List.append_nil, List.nil_append, List.cons_append, BF.op, i_add, i_sub, i_and, i_neg, i_lt, i_le, i_gt, i_ge, i_eq, i_ne, decide_eq_true_eq, Bool.not_eq_true', decide_eq_false_iff_not, len_tup, len_lst, len_scr, idx_tup, idx_lst, idx_scr, i_mul, i_mod, i_div, i_pow, i_shr, List.length_cons, List.length_nil, dM, BM.op, BM.c, fits_T, is_bl_non, is_bl_bl, is_bl_int, is_bl_str, is_bl_tup, is_bl_lst, is_bl_dct, is_int_non, is_int_bl, is_int_int, is_int_str, is_int_tup, is_int_lst, is_int_dct, is_str_non, is_str_bl, is_str_int, is_str_str, is_str_tup, is_str_lst, is_str_dct, is_tup_non, is_tup_bl, is_tup_int, is_tup_str, is_tup_tup, is_tup_lst, is_tup_dct, is_lst_non, is_lst_bl, is_lst_int, is_lst_str, is_lst_tup, is_lst_lst, is_lst_dct, is_dct_non, is_dct_bl, is_dct_int, is_dct_str, is_dct_tup, is_dct_lst, is_dct_dct, ix0, ix1, ix2, ix3, at2, at3, at4, at5, at6, at7, at8, Int.reduceToNat, Int.reducePow, Int.reduceAdd, Int.reduceSub, Int.reduceMul, dFld, sFldD, dMe, insAt_ins, Sm.me, List.lookup_cons, Nat.reduceBEq, Option.isNone_none, min2, max2, is_bl, isnot_bl, bl_eq, bl_ne, ok_if_bl, ok_if_B, rt_if_bl, add_lst, add_tup, evS, sWip, wipeE, for_seqE, forD_tup, forD_lst, forD_scr, for_r1E, forR1_int, for_r2E, forR2_int, for_enuE, forE_lst, for_zipE, forZ_lst, forL_nil, nextL_nx, nextL_ct, nextL_bk, nextL_rt, nextL_if, comp_seqE, compD_tup, compD_lst, comp_r1E, compR1_int, endC_some, sub_E, isx_E, endO_some, Option.map_some, Option.map_none, beq_self_eq_true, s_fodE, forDw_dct, calR_nx, calR_rt, c_codE, fl1_whole, fl2_whole, fl2_layer, fl2_lying, fl2_begun, fl2_patience, fl3_whole, fl3_taker, fl8_kept, fl8_now, fl8_claims, fl8_shows, nl1_told, nl1_comes, nl1_may_strike, nl2_told, nl2_comes, nl2_may_strike, nl3_told, nl3_comes, nl3_may_strike, nl8_made_of, nl8_today, nl8_next_day, nl8_look_for, nl8_show, nl8_agreed, nl8_lay, nl8_strike, nl8_told, nl8_shown_for, nl8_due_of, nl8_coin_of, nl8_is_over, nl8_all_shown, ft1_whole, pf1_whole, fll1, ft2_whole, pf2_whole, ft2_layer, pf2_layer, ft2_lying, pf2_lying, ft2_begun, pf2_begun, ft2_patience, pf2_patience, fll2, ft3_whole, pf3_whole, ft3_taker, pf3_taker, fll3, ft8_kept, pf8_kept, ft8_now, pf8_now, ft8_claims, pf8_claims, ft8_shows, pf8_shows, fll8, pi1_0, pi2_0, pi2_1, pi2_2, pi2_3, pi2_4, pi3_0, pi3_1, pi8_0, pi8_1, pi8_2, pi8_3, $xs,*])
local macro_rules | `(tactic| simp_all! only [7, $xs,*]) => `(tactic| simp (maxSteps := 3000000) (implicitDefEqProofs := false) (discharger := first | omega | exact rfl | (simp only [List.length_cons, List.length_nil, List.length_map, List.length_append]; omega) | (simp only [pln_non, pln_bl, pln_int, pln_str, pln_tupp, pln_lstt, plns_nil, plns_cons, Nat.reduceSub, Bool.and_true, Bool.true_and, Bool.and_self, Nat.reduceLT, Nat.zero_lt_succ, so0, so1, so2, so3, so4, so5, so6, so7, so8, so9, so10, so11, so12, so13, so14, so15, so16, so17, so18, so19, so20, so21, so22, *]; done)) only [reduceCtorEq, Nat.reduceAdd, Int.cast_ofNat_Int, Int.reduceEq, Int.reduceLT, Int.reduceLE, not_true_eq_false, not_false_eq_true, decide_true, decide_false, Bool.not_true, Bool.not_false, bind_if, st_if, try_then, try_nx, try_rt, try_exc, try_if, hand_nx, hand_rt, hand_if, run_cons, run_nil, runQ_yes, runQ_no, fit_none, fit_some, evC, i_is, i_isnot, non_non, non_tup, non_int, dCh, sNever, evB, evSt, evE, evT, evL, evO, evQ, List.map_nil, List.map_cons, Cst.d, Sm.f, Bool.false_eq_true, if_false, if_true, seq_then, sAsg, sRet, sRetN, sIf, sDrop, sNx, sRaise, dB, dU, dC, dT, dCl, dCons, dNil, dTup, dLst, dBi, dSl, pNone, pSome, dIf, dAnd, dOr, dNot, bAnd, bOr, bNot, asB, rb_ok, rb_exc, rst_ok, rst_exc, opt_some, then_nx, then_rt, then_exc, then_bk, then_ct, then_if, out_rt, out_nx, out_exc, out_if, binF, binD, Option.getD_some, dVar, List.getElem?_cons_zero, List.getElem?_cons_succ, bindT, bindTs, List.set_cons_zero, List.set_cons_succ, List.append_nil, List.nil_append, List.cons_append, BF.op, i_add, i_sub, i_and, i_neg, i_lt, i_le, i_gt, i_ge, i_eq, i_ne, decide_eq_true_eq, Bool.not_eq_true', decide_eq_false_iff_not, len_tup, len_lst, len_scr, idx_tup, idx_lst, idx_scr, i_mul, i_mod, i_div, i_pow, i_shr, List.length_cons, List.length_nil, dM, BM.op, BM.c, fits_T, is_bl_non, is_bl_bl, is_bl_int, is_bl_str, is_bl_tup, is_bl_lst, is_bl_dct, is_int_non, is_int_bl, is_int_int, is_int_str, is_int_tup, is_int_lst, is_int_dct, is_str_non, is_str_bl, is_str_int, is_str_str, is_str_tup, is_str_lst, is_str_dct, is_tup_non, is_tup_bl, is_tup_int, is_tup_str, is_tup_tup, is_tup_lst, is_tup_dct, is_lst_non, is_lst_bl, is_lst_int, is_lst_str, is_lst_tup, is_lst_lst, is_lst_dct, is_dct_non, is_dct_bl, is_dct_int, is_dct_str, is_dct_tup, is_dct_lst, is_dct_dct, ix0, ix1, ix2, ix3, at2, at3, at4, at5, at6, at7, at8, Int.reduceToNat, Int.reducePow, Int.reduceAdd, Int.reduceSub, Int.reduceMul, dFld, sFldD, dMe, insAt_ins, Sm.me, List.lookup_cons, Nat.reduceBEq, Option.isNone_none, min2, max2, is_bl, isnot_bl, bl_eq, bl_ne, ok_if_bl, ok_if_B, rt_if_bl, add_lst, add_tup, evS, sWip, wipeE, for_seqE, forD_tup, forD_lst, forD_scr, for_r1E, forR1_int, for_r2E, forR2_int, for_enuE, forE_lst, for_zipE, forZ_lst, forL_nil, nextL_nx, nextL_ct, nextL_bk, nextL_rt, nextL_if, comp_seqE, compD_tup, compD_lst, comp_r1E, compR1_int, endC_some, sub_E, isx_E, endO_some, Option.map_some, Option.map_none, beq_self_eq_true, s_fodE, forDw_dct, calR_nx, calR_rt, c_codE, eqB_int, eqB_str, eqB_bl, eqB_tup, eqB_lst, eqB_nn, eqB_ni, eqB_in, eqB_nt, eqB_tn, eqBs_nn, eqBs_cons, eqBs_nc, eqBs_cn, eq_pln, ne_pln, Bool.false_and, Bool.and_false, Bool.not_true, Bool.not_false, sn0_1, sn0_2, sn0_3, sn0_4, sn0_5, sn0_6, sn0_7, sn0_8, sn0_9, sn0_10, sn0_11, sn0_12, sn0_13, sn0_14, sn0_15, sn0_16, sn0_17, sn0_18, sn0_19, sn0_20, sn0_21, sn0_22, sn1_0, sn1_2, sn1_3, sn1_4, sn1_5, sn1_6, sn1_7, sn1_8, sn1_9, sn1_10, sn1_11, sn1_12, sn1_13, sn1_14, sn1_15, sn1_16, sn1_17, sn1_18, sn1_19, sn1_20, sn1_21, sn1_22, sn2_0, sn2_1, sn2_3, sn2_4, sn2_5, sn2_6, sn2_7, sn2_8, sn2_9, sn2_10, sn2_11, sn2_12, sn2_13, sn2_14, sn2_15, sn2_16, sn2_17, sn2_18, sn2_19, sn2_20, sn2_21, sn2_22, sn3_0, sn3_1, sn3_2, sn3_4, sn3_5, sn3_6, sn3_7, sn3_8, sn3_9, sn3_10, sn3_11, sn3_12, sn3_13, sn3_14, sn3_15, sn3_16, sn3_17, sn3_18, sn3_19, sn3_20, sn3_21, sn3_22, sn4_0, sn4_1, sn4_2, sn4_3, sn4_5, sn4_6, sn4_7, sn4_8, sn4_9, sn4_10, sn4_11, sn4_12, sn4_13, sn4_14, sn4_15, sn4_16, sn4_17, sn4_18, sn4_19, sn4_20, sn4_21, sn4_22, sn5_0, sn5_1, sn5_2, sn5_3, sn5_4, sn5_6, sn5_7, sn5_8, sn5_9, sn5_10, sn5_11, sn5_12, sn5_13, sn5_14, sn5_15, sn5_16, sn5_17, sn5_18, sn5_19, sn5_20, sn5_21, sn5_22, sn6_0, sn6_1, sn6_2, sn6_3, sn6_4, sn6_5, sn6_7, sn6_8, sn6_9, sn6_10, sn6_11, sn6_12, sn6_13, sn6_14, sn6_15, sn6_16, sn6_17, sn6_18, sn6_19, sn6_20, sn6_21, sn6_22, sn7_0, sn7_1, sn7_2, sn7_3, sn7_4, sn7_5, sn7_6, sn7_8, sn7_9, sn7_10, sn7_11, sn7_12, sn7_13, sn7_14, sn7_15, sn7_16, sn7_17, sn7_18, sn7_19, sn7_20, sn7_21, sn7_22, sn8_0, sn8_1, sn8_2, sn8_3, sn8_4, sn8_5, sn8_6, sn8_7, sn8_9, sn8_10, sn8_11, sn8_12, sn8_13, sn8_14, sn8_15, sn8_16, sn8_17, sn8_18, sn8_19, sn8_20, sn8_21, sn8_22, sn9_0, sn9_1, sn9_2, sn9_3, sn9_4, sn9_5, sn9_6, sn9_7, sn9_8, sn9_10, sn9_11, sn9_12, sn9_13, sn9_14, sn9_15, sn9_16, sn9_17, sn9_18, sn9_19, sn9_20, sn9_21, sn9_22, sn10_0, sn10_1, sn10_2, sn10_3, sn10_4, sn10_5, sn10_6, sn10_7, sn10_8, sn10_9, sn10_11, sn10_12, sn10_13, sn10_14, sn10_15, sn10_16, sn10_17, sn10_18, sn10_19, sn10_20, sn10_21, sn10_22, sn11_0, sn11_1, sn11_2, sn11_3, sn11_4, sn11_5, sn11_6, sn11_7, sn11_8, sn11_9, sn11_10, sn11_12, sn11_13, sn11_14, sn11_15, sn11_16, sn11_17, sn11_18, sn11_19, sn11_20, sn11_21, sn11_22, sn12_0, sn12_1, sn12_2, sn12_3, sn12_4, sn12_5, sn12_6, sn12_7, sn12_8, sn12_9, sn12_10, sn12_11, sn12_13, sn12_14, sn12_15, sn12_16, sn12_17, sn12_18, sn12_19, sn12_20, sn12_21, sn12_22, sn13_0, sn13_1, sn13_2, sn13_3, sn13_4, sn13_5, sn13_6, sn13_7, sn13_8, sn13_9, sn13_10, sn13_11, sn13_12, sn13_14, sn13_15, sn13_16, sn13_17, sn13_18, sn13_19, sn13_20, sn13_21, sn13_22, sn14_0, sn14_1, sn14_2, sn14_3, sn14_4, sn14_5, sn14_6, sn14_7, sn14_8, sn14_9, sn14_10, sn14_11, sn14_12, sn14_13, sn14_15, sn14_16, sn14_17, sn14_18, sn14_19, sn14_20, sn14_21, sn14_22, sn15_0, sn15_1, sn15_2, sn15_3, sn15_4, sn15_5, sn15_6, sn15_7, sn15_8, sn15_9, sn15_10, sn15_11, sn15_12, sn15_13, sn15_14, sn15_16, sn15_17, sn15_18, sn15_19, sn15_20, sn15_21, sn15_22, sn16_0, sn16_1, sn16_2, sn16_3, sn16_4, sn16_5, sn16_6, sn16_7, sn16_8, sn16_9, sn16_10, sn16_11, sn16_12, sn16_13, sn16_14, sn16_15, sn16_17, sn16_18, sn16_19, sn16_20, sn16_21, sn16_22, sn17_0, sn17_1, sn17_2, sn17_3, sn17_4, sn17_5, sn17_6, sn17_7, sn17_8, sn17_9, sn17_10, sn17_11, sn17_12, sn17_13, sn17_14, sn17_15, sn17_16, sn17_18, sn17_19, sn17_20, sn17_21, sn17_22, sn18_0, sn18_1, sn18_2, sn18_3, sn18_4, sn18_5, sn18_6, sn18_7, sn18_8, sn18_9, sn18_10, sn18_11, sn18_12, sn18_13, sn18_14, sn18_15, sn18_16, sn18_17, sn18_19, sn18_20, sn18_21, sn18_22, sn19_0, sn19_1, sn19_2, sn19_3, sn19_4, sn19_5, sn19_6, sn19_7, sn19_8, sn19_9, sn19_10, sn19_11, sn19_12, sn19_13, sn19_14, sn19_15, sn19_16, sn19_17, sn19_18, sn19_20, sn19_21, sn19_22, sn20_0, sn20_1, sn20_2, sn20_3, sn20_4, sn20_5, sn20_6, sn20_7, sn20_8, sn20_9, sn20_10, sn20_11, sn20_12, sn20_13, sn20_14, sn20_15, sn20_16, sn20_17, sn20_18, sn20_19, sn20_21, sn20_22, sn21_0, sn21_1, sn21_2, sn21_3, sn21_4, sn21_5, sn21_6, sn21_7, sn21_8, sn21_9, sn21_10, sn21_11, sn21_12, sn21_13, sn21_14, sn21_15, sn21_16, sn21_17, sn21_18, sn21_19, sn21_20, sn21_22, sn22_0, sn22_1, sn22_2, sn22_3, sn22_4, sn22_5, sn22_6, sn22_7, sn22_8, sn22_9, sn22_10, sn22_11, sn22_12, sn22_13, sn22_14, sn22_15, sn22_16, sn22_17, sn22_18, sn22_19, sn22_20, sn22_21, $xs,*])
local macro_rules | `(tactic| simp_all! only [8, $xs,*]) => `(tactic| simp (maxSteps := 3000000) (implicitDefEqProofs := false) (discharger := first | omega | exact rfl | (simp only [List.length_cons, List.length_nil, List.length_map, List.length_append]; omega) | (simp only [pln_non, pln_bl, pln_int, pln_str, pln_tupp, pln_lstt, plns_nil, plns_cons, Nat.reduceSub, Bool.and_true, Bool.true_and, Bool.and_self, Nat.reduceLT, Nat.zero_lt_succ, so0, so1, so2, so3, so4, so5, so6, so7, so8, so9, so10, so11, so12, so13, so14, so15, so16, so17, so18, so19, so20, so21, so22, *]; done)) only [reduceCtorEq, Nat.reduceAdd, Int.cast_ofNat_Int, Int.reduceEq, Int.reduceLT, Int.reduceLE, not_true_eq_false, not_false_eq_true, decide_true, decide_false, Bool.not_true, Bool.not_false, bind_if, st_if, try_then, try_nx, try_rt, try_exc, try_if, hand_nx, hand_rt, hand_if, run_cons, run_nil, runQ_yes, runQ_no, fit_none, fit_some, evC, i_is, i_isnot, non_non, non_tup, non_int, dCh, sNever, evB, evSt, evE, evT, evL, evO, evQ, List.map_nil, List.map_cons, Cst.d, Sm.f, Bool.false_eq_true, if_false, if_true, seq_then, sAsg, sRet, sRetN, sIf, sDrop, sNx, sRaise, dB, dU, dC, dT, dCl, dCons, dNil, dTup, dLst, dBi, dSl, pNone, pSome, dIf, dAnd, dOr, dNot, bAnd, bOr, bNot, asB, rb_ok, rb_exc, rst_ok, rst_exc, opt_some, then_nx, then_rt, then_exc, then_bk, then_ct, then_if, out_rt, out_nx, out_exc, out_if, binF, binD, Option.getD_some, dVar, List.getElem?_cons_zero, List.getElem?_cons_succ, bindT, bindTs, List.set_cons_zero, List.set_cons_succ, List.append_nil, List.nil_append, List.cons_append, BF.op, i_add, i_sub, i_and, i_neg, i_lt, i_le, i_gt, i_ge, i_eq, i_ne, decide_eq_true_eq, Bool.not_eq_true', decide_eq_false_iff_not, len_tup, len_lst, len_scr, idx_tup, idx_lst, idx_scr, i_mul, i_mod, i_div, i_pow, i_shr, List.length_cons, List.length_nil, dM, BM.op, BM.c, fits_T, is_bl_non, is_bl_bl, is_bl_int, is_bl_str, is_bl_tup, is_bl_lst, is_bl_dct, is_int_non, is_int_bl, is_int_int, is_int_str, is_int_tup, is_int_lst, is_int_dct, is_str_non, is_str_bl, is_str_int, is_str_str, is_str_tup, is_str_lst, is_str_dct, is_tup_non, is_tup_bl, is_tup_int, is_tup_str, is_tup_tup, is_tup_lst, is_tup_dct, is_lst_non, is_lst_bl, is_lst_int, is_lst_str, is_lst_tup, is_lst_lst, is_lst_dct, is_dct_non, is_dct_bl, is_dct_int, is_dct_str, is_dct_tup, is_dct_lst, is_dct_dct, ix0, ix1, ix2, ix3, at2, at3, at4, at5, at6, at7, at8, Int.reduceToNat, Int.reducePow, Int.reduceAdd, Int.reduceSub, Int.reduceMul, dFld, sFldD, insAt_ins, List.lookup_cons, Nat.reduceBEq, Option.isNone_none, min2, max2, is_bl, isnot_bl, bl_eq, bl_ne, ok_if_bl, ok_if_B, rt_if_bl, add_lst, add_tup, evS, sWip, wipeE, for_seqE, forD_tup, forD_lst, forD_scr, for_r1E, forR1_int, for_r2E, forR2_int, for_enuE, forE_lst, for_zipE, forZ_lst, forL_nil, nextL_nx, nextL_ct, nextL_bk, nextL_rt, nextL_if, comp_seqE, compD_tup, compD_lst, comp_r1E, compR1_int, endC_some, sub_E, isx_E, endO_some, Option.map_some, Option.map_none, beq_self_eq_true, s_fodE, forDw_dct, calR_nx, calR_rt, c_codE, eqB_int, eqB_str, eqB_bl, eqB_tup, eqB_lst, eqB_nn, eqB_ni, eqB_in, eqB_nt, eqB_tn, eqBs_nn, eqBs_cons, eqBs_nc, eqBs_cn, eq_pln, ne_pln, Bool.false_and, Bool.and_false, Bool.not_true, Bool.not_false, sn0_1, sn0_2, sn0_3, sn0_4, sn0_5, sn0_6, sn0_7, sn0_8, sn0_9, sn0_10, sn0_11, sn0_12, sn0_13, sn0_14, sn0_15, sn0_16, sn0_17, sn0_18, sn0_19, sn0_20, sn0_21, sn0_22, sn1_0, sn1_2, sn1_3, sn1_4, sn1_5, sn1_6, sn1_7, sn1_8, sn1_9, sn1_10, sn1_11, sn1_12, sn1_13, sn1_14, sn1_15, sn1_16, sn1_17, sn1_18, sn1_19, sn1_20, sn1_21, sn1_22, sn2_0, sn2_1, sn2_3, sn2_4, sn2_5, sn2_6, sn2_7, sn2_8, sn2_9, sn2_10, sn2_11, sn2_12, sn2_13, sn2_14, sn2_15, sn2_16, sn2_17, sn2_18, sn2_19, sn2_20, sn2_21, sn2_22, sn3_0, sn3_1, sn3_2, sn3_4, sn3_5, sn3_6, sn3_7, sn3_8, sn3_9, sn3_10, sn3_11, sn3_12, sn3_13, sn3_14, sn3_15, sn3_16, sn3_17, sn3_18, sn3_19, sn3_20, sn3_21, sn3_22, sn4_0, sn4_1, sn4_2, sn4_3, sn4_5, sn4_6, sn4_7, sn4_8, sn4_9, sn4_10, sn4_11, sn4_12, sn4_13, sn4_14, sn4_15, sn4_16, sn4_17, sn4_18, sn4_19, sn4_20, sn4_21, sn4_22, sn5_0, sn5_1, sn5_2, sn5_3, sn5_4, sn5_6, sn5_7, sn5_8, sn5_9, sn5_10, sn5_11, sn5_12, sn5_13, sn5_14, sn5_15, sn5_16, sn5_17, sn5_18, sn5_19, sn5_20, sn5_21, sn5_22, sn6_0, sn6_1, sn6_2, sn6_3, sn6_4, sn6_5, sn6_7, sn6_8, sn6_9, sn6_10, sn6_11, sn6_12, sn6_13, sn6_14, sn6_15, sn6_16, sn6_17, sn6_18, sn6_19, sn6_20, sn6_21, sn6_22, sn7_0, sn7_1, sn7_2, sn7_3, sn7_4, sn7_5, sn7_6, sn7_8, sn7_9, sn7_10, sn7_11, sn7_12, sn7_13, sn7_14, sn7_15, sn7_16, sn7_17, sn7_18, sn7_19, sn7_20, sn7_21, sn7_22, sn8_0, sn8_1, sn8_2, sn8_3, sn8_4, sn8_5, sn8_6, sn8_7, sn8_9, sn8_10, sn8_11, sn8_12, sn8_13, sn8_14, sn8_15, sn8_16, sn8_17, sn8_18, sn8_19, sn8_20, sn8_21, sn8_22, sn9_0, sn9_1, sn9_2, sn9_3, sn9_4, sn9_5, sn9_6, sn9_7, sn9_8, sn9_10, sn9_11, sn9_12, sn9_13, sn9_14, sn9_15, sn9_16, sn9_17, sn9_18, sn9_19, sn9_20, sn9_21, sn9_22, sn10_0, sn10_1, sn10_2, sn10_3, sn10_4, sn10_5, sn10_6, sn10_7, sn10_8, sn10_9, sn10_11, sn10_12, sn10_13, sn10_14, sn10_15, sn10_16, sn10_17, sn10_18, sn10_19, sn10_20, sn10_21, sn10_22, sn11_0, sn11_1, sn11_2, sn11_3, sn11_4, sn11_5, sn11_6, sn11_7, sn11_8, sn11_9, sn11_10, sn11_12, sn11_13, sn11_14, sn11_15, sn11_16, sn11_17, sn11_18, sn11_19, sn11_20, sn11_21, sn11_22, sn12_0, sn12_1, sn12_2, sn12_3, sn12_4, sn12_5, sn12_6, sn12_7, sn12_8, sn12_9, sn12_10, sn12_11, sn12_13, sn12_14, sn12_15, sn12_16, sn12_17, sn12_18, sn12_19, sn12_20, sn12_21, sn12_22, sn13_0, sn13_1, sn13_2, sn13_3, sn13_4, sn13_5, sn13_6, sn13_7, sn13_8, sn13_9, sn13_10, sn13_11, sn13_12, sn13_14, sn13_15, sn13_16, sn13_17, sn13_18, sn13_19, sn13_20, sn13_21, sn13_22, sn14_0, sn14_1, sn14_2, sn14_3, sn14_4, sn14_5, sn14_6, sn14_7, sn14_8, sn14_9, sn14_10, sn14_11, sn14_12, sn14_13, sn14_15, sn14_16, sn14_17, sn14_18, sn14_19, sn14_20, sn14_21, sn14_22, sn15_0, sn15_1, sn15_2, sn15_3, sn15_4, sn15_5, sn15_6, sn15_7, sn15_8, sn15_9, sn15_10, sn15_11, sn15_12, sn15_13, sn15_14, sn15_16, sn15_17, sn15_18, sn15_19, sn15_20, sn15_21, sn15_22, sn16_0, sn16_1, sn16_2, sn16_3, sn16_4, sn16_5, sn16_6, sn16_7, sn16_8, sn16_9, sn16_10, sn16_11, sn16_12, sn16_13, sn16_14, sn16_15, sn16_17, sn16_18, sn16_19, sn16_20, sn16_21, sn16_22, sn17_0, sn17_1, sn17_2, sn17_3, sn17_4, sn17_5, sn17_6, sn17_7, sn17_8, sn17_9, sn17_10, sn17_11, sn17_12, sn17_13, sn17_14, sn17_15, sn17_16, sn17_18, sn17_19, sn17_20, sn17_21, sn17_22, sn18_0, sn18_1, sn18_2, sn18_3, sn18_4, sn18_5, sn18_6, sn18_7, sn18_8, sn18_9, sn18_10, sn18_11, sn18_12, sn18_13, sn18_14, sn18_15, sn18_16, sn18_17, sn18_19, sn18_20, sn18_21, sn18_22, sn19_0, sn19_1, sn19_2, sn19_3, sn19_4, sn19_5, sn19_6, sn19_7, sn19_8, sn19_9, sn19_10, sn19_11, sn19_12, sn19_13, sn19_14, sn19_15, sn19_16, sn19_17, sn19_18, sn19_20, sn19_21, sn19_22, sn20_0, sn20_1, sn20_2, sn20_3, sn20_4, sn20_5, sn20_6, sn20_7, sn20_8, sn20_9, sn20_10, sn20_11, sn20_12, sn20_13, sn20_14, sn20_15, sn20_16, sn20_17, sn20_18, sn20_19, sn20_21, sn20_22, sn21_0, sn21_1, sn21_2, sn21_3, sn21_4, sn21_5, sn21_6, sn21_7, sn21_8, sn21_9, sn21_10, sn21_11, sn21_12, sn21_13, sn21_14, sn21_15, sn21_16, sn21_17, sn21_18, sn21_19, sn21_20, sn21_22, sn22_0, sn22_1, sn22_2, sn22_3, sn22_4, sn22_5, sn22_6, sn22_7, sn22_8, sn22_9, sn22_10, sn22_11, sn22_12, sn22_13, sn22_14, sn22_15, sn22_16, sn22_17, sn22_18, sn22_19, sn22_20, sn22_21, $xs,*])
def cellAt (ns : List Int) (j : Int) : Int := if j < ns.length then pick ns j else 0
theorem e_at (k : Nat) (ns : List Int) (j : Int) (h : Hh) (hj : 0 ≤ j) : S (k + 1) 39 [.scr ns, .int j] h = .ok (.int (cellAt ns j)) h := by
  rw [q39]
  simp_all! only [1, b39, List.length_map]
  unfold cellAt
  split
  · rename_i c
    rw [atI_pick hj c]
    rfl
  · rfl
def mix1 (c j : Int) : Int := (c % 2147483647 + 7919 * j + 1) * 48271 % 2147483647
def mix2 (n : Int) : Int := n * (n / 1009 + 69621) % 2147483647
def mixed (c j : Int) : Int := if c % 2 = 0 then Builtin.bitAnd (c / 2 / 2 ^ (41 * j).toNat) 2199023255551 else mix2 (mix1 c j) * (mix2 (mix1 c j) / 4099 + 16807 + j) % 2147483629
theorem e_mixed (k : Nat) (c j : Int) (h : Hh) (hj : 0 ≤ j) : S (k + 1) 40 [.int c, .int j] h = .ok (.int (mixed c j)) h := by
  rw [q40]
  simp_all! only [1, b40]
  unfold mixed
  split <;> rfl
/-! ties -/
structure Ti where
  p : Int
  a : Int
  w : Int
  d : Int
def Ti.D (t : Ti) : D := .tup [.int t.p, .int t.a, .int t.w, .int t.d]
def Ti.ok (t : Ti) : Prop := (t.p = 0 ∨ t.p = 1) ∧ (1 ≤ t.a ∧ t.a ≤ 1000000000000) ∧ (0 ≤ t.w ∧ t.w ≤ 59) ∧ (0 ≤ t.d ∧ t.d ≤ 1000000)
theorem Ti.pln (t : Ti) : pln 1 t.D = true := rfl
theorem plns_ties (ts : List Ti) : plns 1 (ts.map Ti.D) = true := by
  rw [plns_all]
  intro d hd
  obtain ⟨t, _, rfl⟩ := List.mem_map.mp hd
  rfl
/-- a stand -/
def stD (n : Int) (s : Int × Int) (ts : List Ti) : D := .tup [.int n, .tup [.int s.1, .int s.2], .tup (ts.map Ti.D)]
def tiesOk (ts : List Ti) : Prop := ts.length ≤ 6 ∧ (∀ t ∈ ts, t.ok) ∧ (ts.map Ti.w).Nodup
theorem e_inb {n : Nat} (k : Nat) (d : D) (m : Int) (h : Hh) (c : pln n d = true) : S (k + 1) 15 [d, .int m] h = .ok (.bl (inB m d)) h := by
  rw [q15]
  cases d with
  | int i =>
    simp_all! only [2, b15, is_int_int, is_bl_int, Bool.not_false, inB]
    by_cases c1 : 0 ≤ i
    · simp only [c1, decide_true, if_true, Bool.true_and] <;> rfl
    · simp only [c1, decide_false, if_false, Bool.false_and, Bool.false_eq_true] <;> rfl
  | bl b => simp_all! only [2, b15, is_int_bl, is_bl_bl, Bool.not_true, inB]
  | non => simp_all! only [2, b15, is_int_non, inB]
  | str x => simp_all! only [2, b15, is_int_str, inB]
  | tup l => simp_all! only [2, b15, is_int_tup, inB]
  | lst l => simp_all! only [2, b15, is_int_lst, inB]
  | dct l => unfold pln at c; cases c
  | ins _ _ => unfold pln at c; cases c
  | ref _ => unfold pln at c; cases c
  | scr _ => unfold pln at c; cases c
theorem e_istie {n : Nat} (k : Nat) (d : D) (h : Hh) (c : pln n d = true) : S (k + 2) 16 [d] h = .ok (.bl (tieB d)) h := by
  rw [q16]
  cases d with
  | int i => simp_all! only [2, b16, is_tup_int, tieB, Bool.not_false]
  | bl b => simp_all! only [2, b16, is_tup_bl, tieB, Bool.not_false]
  | non => simp_all! only [2, b16, is_tup_non, tieB, Bool.not_false]
  | str x => simp_all! only [2, b16, is_tup_str, tieB, Bool.not_false]
  | lst l => simp_all! only [2, b16, is_tup_lst, tieB, Bool.not_false]
  | dct l => unfold pln at c; cases c
  | ins _ _ => unfold pln at c; cases c
  | ref _ => unfold pln at c; cases c
  | scr _ => unfold pln at c; cases c
  | tup l =>
    cases n with
    | zero => unfold pln at c; cases c
    | succ n =>
      rw [pln_tup] at c
      have ne : ¬ l.length = 4 → S (k + 2) 16 [.tup l] h = .ok (.bl false) h := fun hl => by
        have hl2 : ¬ (l.length : Int) = 4 := by omega
        rw [q16]
        simp_all! only [2, b16, is_tup_tup, Bool.not_true, hl2] <;> rfl
      rw [← q16]
      rcases l with _ | ⟨p, _ | ⟨a, _ | ⟨w, _ | ⟨y, _ | ⟨z, l⟩⟩⟩⟩⟩
      · exact ne (by simp)
      · exact ne (by simp)
      · exact ne (by simp)
      · exact ne (by simp)
      · simp only [plns, Bool.and_eq_true] at c
        obtain ⟨c1, c2, c3, c4, _⟩ := c
        rw [q16]
        have i1 := fun k h => e_inb k p 1 h c1
        have i2 := fun k h => e_inb k a 1000000000000 h c2
        have i3 := fun k h => e_inb k w 59 h c3
        have i4 := fun k h => e_inb k y 1000000 h c4
        by_cases z1 : inB 1 p = true
        · by_cases z2 : inB 1000000000000 a = true
          · obtain ⟨i, rfl, i5, i6⟩ := inB_int z2
            by_cases z3 : i < 1
            · have e0 : i = 0 := by omega
              subst e0
              simp_all! only [2, b16, is_tup_tup, Bool.not_true, i1, i2, i3, i4, z1, z2, z3]
              show _ = R.ok (D.bl (inB 1 p && (inB 1000000000000 (.int 0) && (false && (inB 59 w && inB 1000000 y))))) h
              rw [z1, z2]; rfl
            · have e0 : inB 0 (.int i) = false := by
                simp only [inB, Bool.and_eq_false_iff, decide_eq_false_iff_not]
                omega
              simp_all! only [2, b16, is_tup_tup, Bool.not_true, i1, i2, i3, i4, z1, z2, z3, tieB, e0, Bool.true_and, Bool.not_false]
              cases inB 59 w <;> rfl
          · have z2' : inB 1000000000000 a = false := by simpa using z2
            simp_all! only [2, b16, is_tup_tup, Bool.not_true, i1, i2, i3, i4, z1, z2', tieB] <;> rfl
        · have z1' : inB 1 p = false := by simpa using z1
          simp_all! only [2, b16, is_tup_tup, Bool.not_true, i1, i2, i3, i4, z1', tieB] <;> rfl
      · rw [ne (by simp)]
        rfl
theorem e_shares {n : Nat} (k : Nat) (d : D) (h : Hh) (c : pln n d = true) : S (k + 2) 17 [d] h = .ok (.bl (sharesB d)) h := by
  rw [q17]
  cases d with
  | int i => simp_all! only [2, b17, is_tup_int, sharesB]
  | bl b => simp_all! only [2, b17, is_tup_bl, sharesB]
  | non => simp_all! only [2, b17, is_tup_non, sharesB]
  | str x => simp_all! only [2, b17, is_tup_str, sharesB]
  | lst l => simp_all! only [2, b17, is_tup_lst, sharesB]
  | dct l => unfold pln at c; cases c
  | ins _ _ => unfold pln at c; cases c
  | ref _ => unfold pln at c; cases c
  | scr _ => unfold pln at c; cases c
  | tup l =>
    cases n with
    | zero => unfold pln at c; cases c
    | succ n =>
      rw [pln_tup] at c
      have ne : ¬ l.length = 2 → S (k + 2) 17 [.tup l] h = .ok (.bl false) h := fun hl => by
        have hl2 : ¬ (l.length : Int) = 2 := by omega
        rw [q17]
        simp_all! only [2, b17, is_tup_tup, hl2] <;> rfl
      rw [← q17]
      rcases l with _ | ⟨a, _ | ⟨b, _ | ⟨z, l⟩⟩⟩
      · exact ne (by simp)
      · exact ne (by simp)
      · simp only [plns, Bool.and_eq_true] at c
        obtain ⟨c1, c2, _⟩ := c
        have i1 := fun h => e_inb k a 2000000000000 h c1
        have i2 := fun h => e_inb k b 2000000000000 h c2
        have ec : dComp (iSeq (dVar 0)) (.nm 1) bYes (evE (M (k + 1)) none x17_0) [1] [some (.tup [a, b]), none] h = .ok (.lst ([a, b].map fun d => .bl (inB 2000000000000 d))) h :=
          comp_one (d := .tup [a, b]) (l := [a, b]) (α := Int) rfl rfl (by simp) fun d hd => by
            rcases List.mem_cons.mp hd with rfl | hd
            · simp_all! only [2, x17_0, wipeE, i1]
            · obtain rfl := List.mem_singleton.mp hd
              simp_all! only [2, x17_0, wipeE, i2]
        rw [q17]
        simp_all! only [2, b17, is_tup_tup, ec, evS, all_map]
        show R.ok (D.bl ((inB 2000000000000 a && (inB 2000000000000 b && true)))) h = _
        rw [Bool.and_true]; rfl
      · rw [ne (by simp)]
        rfl
theorem e_areties {n : Nat} (k : Nat) (d : D) (h : Hh) (c : pln n d = true) : S (k + 3) 18 [d] h = .ok (.bl (tiesB d)) h := by
  rw [q18]
  cases d with
  | int i => simp_all! only [2, b18, is_tup_int, tiesB]
  | bl b => simp_all! only [2, b18, is_tup_bl, tiesB]
  | non => simp_all! only [2, b18, is_tup_non, tiesB]
  | str x => simp_all! only [2, b18, is_tup_str, tiesB]
  | lst l => simp_all! only [2, b18, is_tup_lst, tiesB]
  | dct l => unfold pln at c; cases c
  | ins _ _ => unfold pln at c; cases c
  | ref _ => unfold pln at c; cases c
  | scr _ => unfold pln at c; cases c
  | tup l =>
    cases n with
    | zero => unfold pln at c; cases c
    | succ n =>
      rw [pln_tup] at c
      by_cases hl : l.length ≤ 6
      · have hl2 : ¬ (6 : Int) < l.length := by omega
        have e1 : dComp (iSeq (dVar 0)) (.nm 2) bYes (evE (M (k + 2)) none x18_2) [2] [some (.tup l), none, none, none] h = .ok (.lst (l.map fun d => .bl (tieB d))) h :=
          comp_one (d := .tup l) (l := l) (α := Int) rfl rfl (by omega) fun d hd => by
            have i1 := e_istie k d h (plns_all.mp c d hd)
            simp_all! only [2, x18_2, wipeE, i1]
        by_cases ha : l.all tieB = true
        · have e2 : dComp (iSeq (dVar 0)) (.nm 2) bYes (evE (M (k + 2)) none x18_1) [2] [some (.tup l), none, none, none] h = .ok (.lst (l.map fun d => .int (wordI d))) h :=
            comp_one (d := .tup l) (l := l) (α := Int) rfl rfl (by omega) fun d hd => by
              obtain ⟨p, a, w, y, rfl, _⟩ := tieB_at (List.all_eq_true.mp ha d hd)
              simp_all! only [2, x18_1, wipeE]
              rfl
          have em : (l.map fun d => D.int (wordI d)) = (l.map wordI).map D.int := by rw [List.map_map]; rfl
          rw [em] at e2
          have e3 : dComp (iSeq (dVar 1)) (.nm 3) bYes (evE (M (k + 2)) none x18_0) [3] [some (.tup l), some (.lst ((l.map wordI).map D.int)), none, none] h = .ok (.lst ((l.map wordI).map fun w => .bl (decide ((l.map wordI).count w = 1)))) h :=
            comp_map (d := .lst ((l.map wordI).map D.int)) (l := l.map wordI) (φ := D.int) rfl rfl (by rw [List.length_map]; omega) fun w hw => by
              have ec : ∀ h, cLst h (.lst ((l.map wordI).map D.int)) = true := fun h => rfl
              have en : (((l.map wordI).count w : Nat) : Int) = 1 ↔ (l.map wordI).count w = 1 := by omega
              simp_all! only [2, x18_0, wipeE, count_lst, ec]
              rw [decide_eq_decide.mpr en]
          simp_all! only [2, b18, is_tup_tup, hl2, e1, e2, e3, evS, all_map, ha]
          rw [show tiesB (.tup l) = (decide (l.length ≤ 6) && (l.all tieB && (l.map wordI).all fun w => decide ((l.map wordI).count w = 1))) from rfl]
          rw [decide_eq_true hl, ha]; rfl
        · have ha' : l.all tieB = false := by simpa using ha
          simp_all! only [2, b18, is_tup_tup, hl2, e1, evS, all_map, ha']
          rw [show tiesB (.tup l) = (decide (l.length ≤ 6) && (l.all tieB && (l.map wordI).all fun w => decide ((l.map wordI).count w = 1))) from rfl]
          rw [ha']
          cases decide (l.length ≤ 6) <;> rfl
      · have hl2 : (6 : Int) < l.length := by omega
        simp_all! only [2, b18, is_tup_tup, hl2]
        rw [show tiesB (.tup l) = (decide (l.length ≤ 6) && (l.all tieB && (l.map wordI).all fun w => decide ((l.map wordI).count w = 1))) from rfl]
        rw [decide_eq_false hl]; rfl
theorem e_isstand {n : Nat} (k : Nat) (d : D) (h : Hh) (c : pln n d = true) : S (k + 4) 19 [d] h = .ok (.bl (standB d)) h := by
  rw [q19]
  cases d with
  | int i => simp_all! only [2, b19, is_tup_int, standB]
  | bl b => simp_all! only [2, b19, is_tup_bl, standB]
  | non => simp_all! only [2, b19, is_tup_non, standB]
  | str x => simp_all! only [2, b19, is_tup_str, standB]
  | lst l => simp_all! only [2, b19, is_tup_lst, standB]
  | dct l => unfold pln at c; cases c
  | ins _ _ => unfold pln at c; cases c
  | ref _ => unfold pln at c; cases c
  | scr _ => unfold pln at c; cases c
  | tup l =>
    cases n with
    | zero => unfold pln at c; cases c
    | succ n =>
      rw [pln_tup] at c
      have ne : ¬ l.length = 3 → S (k + 4) 19 [.tup l] h = .ok (.bl false) h := fun hl => by
        have hl2 : ¬ (l.length : Int) = 3 := by omega
        rw [q19]
        simp_all! only [2, b19, is_tup_tup, hl2] <;> rfl
      rw [← q19]
      rcases l with _ | ⟨a, _ | ⟨s, _ | ⟨t, _ | ⟨z, l⟩⟩⟩⟩
      · exact ne (by simp)
      · exact ne (by simp)
      · exact ne (by simp)
      · simp only [plns, Bool.and_eq_true] at c
        obtain ⟨c1, c2, c3, _⟩ := c
        have i1 := fun h => e_inb (k + 2) a 1000000 h c1
        have i2 := fun h => e_shares (k + 1) s h c2
        have i3 := fun h => e_areties k t h c3
        rw [q19]
        simp_all! only [2, b19, is_tup_tup, i1, i2, i3, standB]
        cases inB 1000000 a <;> cases sharesB s <;> rfl
      · rw [ne (by simp)]
        rfl
/-- stand(..): made, or refused -/
theorem e_stand3 {n : Nat} (k : Nat) (a s t : D) (h : Hh) (c : plns n [a, s, t] = true) (ht : isNon t = false) : S (k + 5) 20 [a, s, t] h = if standB (.tup [a, s, t]) = true then .ok (.tup [a, s, t]) h else .exc 5 [] h := by
  have i1 := fun h => e_isstand (n := n + 1) k (.tup [a, s, t]) h c
  rw [q20]
  simp_all! only [2, b20, i1, ht]
  cases standB (.tup [a, s, t]) <;> rfl
theorem e_stand2 {n : Nat} (k : Nat) (a s : D) (h : Hh) (c : plns n [a, s, .tup []] = true) : S (k + 5) 20 [a, s, .non] h = if standB (.tup [a, s, .tup []]) = true then .ok (.tup [a, s, .tup []]) h else .exc 5 [] h := by
  have i1 := fun h => e_isstand (n := n + 1) k (.tup [a, s, .tup []]) h c
  rw [q20]
  simp_all! only [2, b20, i1]
  cases standB (.tup [a, s, .tup []]) <;> rfl
theorem e_first (k : Nat) (l r : Int) (hl : 0 ≤ l ∧ l ≤ 2000000000000) (hr : 0 ≤ r ∧ r ≤ 2000000000000) (h : Hh) : S (k + 6) 21 [.int l, .int r] h = .ok (.tup [.int 0, .tup [.int l, .int r], .tup []]) h := by
  have z := fun h => e_stand2 (n := 3) k (.int 0) (.tup [.int l, .int r]) h rfl
  have zs : standB (.tup [.int 0, .tup [.int l, .int r], .tup []]) = true := by
    show (inB 1000000 (.int 0) && ((inB 2000000000000 (.int l) && inB 2000000000000 (.int r)) && tiesB (.tup []))) = true
    have e1 : inB 2000000000000 (.int l) = true := by simp only [inB, Bool.and_eq_true, decide_eq_true_eq]; exact hl
    have e2 : inB 2000000000000 (.int r) = true := by simp only [inB, Bool.and_eq_true, decide_eq_true_eq]; exact hr
    rw [e1, e2]; rfl
  simp only [zs, if_true] at z
  rw [q21]
  simp_all! only [2, b21, z]
instance : DecidablePred Ti.ok := fun t => by unfold Ti.ok; infer_instance
instance : DecidablePred tiesOk := fun t => by unfold tiesOk; infer_instance
theorem tieB_D (t : Ti) : tieB t.D = decide t.ok := by
  rw [show tieB t.D = (inB 1 (.int t.p) && (inB 1000000000000 (.int t.a) && (!inB 0 (.int t.a) && (inB 59 (.int t.w) && inB 1000000 (.int t.d))))) from rfl]
  rw [Bool.eq_iff_iff]
  simp only [inB, Bool.and_eq_true, Bool.not_eq_true', decide_eq_true_eq, Bool.and_eq_false_iff, decide_eq_false_iff_not]
  unfold Ti.ok
  omega
theorem tiesB_D (ts : List Ti) : tiesB (.tup (ts.map Ti.D)) = decide (tiesOk ts) := by
  rw [show tiesB (.tup (ts.map Ti.D)) = (decide ((ts.map Ti.D).length ≤ 6) && ((ts.map Ti.D).all tieB && ((ts.map Ti.D).map wordI).all fun w => decide (((ts.map Ti.D).map wordI).count w = 1))) from rfl]
  have e1 : (ts.map Ti.D).map wordI = ts.map Ti.w := by rw [List.map_map]; rfl
  rw [e1, Bool.eq_iff_iff]
  simp only [Bool.and_eq_true, decide_eq_true_eq, List.all_eq_true, List.length_map, List.mem_map, forall_exists_index, and_imp, forall_apply_eq_imp_iff₂, tieB_D]
  unfold tiesOk
  refine and_congr Iff.rfl (and_congr Iff.rfl ?_)
  rw [List.nodup_iff_count]
  constructor
  · intro h a
    by_cases c : a ∈ ts.map Ti.w
    · obtain ⟨t, ht, rfl⟩ := List.mem_map.mp c
      have := h t ht
      omega
    · rw [List.count_eq_zero_of_not_mem c]; omega
  · intro h t ht
    have h1 := h t.w
    have h2 : 0 < (ts.map Ti.w).count t.w := List.count_pos_iff.mpr (List.mem_map.mpr ⟨t, ht, rfl⟩)
    omega
def standOk (n : Int) (s : Int × Int) (ts : List Ti) : Prop := (0 ≤ n ∧ n ≤ 1000000) ∧ ((0 ≤ s.1 ∧ s.1 ≤ 2000000000000) ∧ (0 ≤ s.2 ∧ s.2 ≤ 2000000000000)) ∧ tiesOk ts
instance (n : Int) (s : Int × Int) (ts : List Ti) : Decidable (standOk n s ts) := by unfold standOk; infer_instance
theorem standB_D (n : Int) (s : Int × Int) (ts : List Ti) : standB (stD n s ts) = decide (standOk n s ts) := by
  rw [show standB (stD n s ts) = (inB 1000000 (.int n) && ((inB 2000000000000 (.int s.1) && inB 2000000000000 (.int s.2)) && tiesB (.tup (ts.map Ti.D)))) from rfl, tiesB_D, Bool.eq_iff_iff]
  simp only [inB, Bool.and_eq_true, decide_eq_true_eq]
  rfl
theorem pln_st (n : Int) (s : Int × Int) (ts : List Ti) (m : Nat) : pln (m + 3) (stD n s ts) = true := by
  show (true && ((true && (true && true)) && (plns (m + 1) (ts.map Ti.D) && true))) = true
  rw [plns_mono (by omega) (plns_ties ts)]; rfl
/-! stands, accounts as data -/
structure Sd where
  n : Int
  s : Int × Int
  ts : List Ti
def Sd.D (x : Sd) : D := stD x.n x.s x.ts
def amt (ts : List Ti) : Int := (ts.map Ti.a).sum
theorem amt_append (ts us : List Ti) : amt (ts ++ us) = amt ts + amt us := by unfold amt; simp
theorem amt_nn : ∀ {ts : List Ti}, (∀ t ∈ ts, t.ok) → 0 ≤ amt ts
  | [], _ => Int.le_refl 0
  | t :: ts, h => by
    have h1 := (h t List.mem_cons_self).2.1.1
    have h2 := amt_nn (ts := ts) fun t ht => h t (List.mem_cons_of_mem _ ht)
    unfold amt at h2 ⊢
    rw [List.map_cons, List.sum_cons]
    omega
def Sd.sum (x : Sd) : Int := x.s.1 + x.s.2 + amt x.ts
def Sd.ok (x : Sd) : Prop := standOk x.n x.s x.ts
instance (x : Sd) : Decidable x.ok := by unfold Sd.ok; infer_instance
theorem Sd.pln (x : Sd) (m : Nat) (h : 3 ≤ m) : pln m x.D = true := pln_mono h (pln_st x.n x.s x.ts 0)
theorem noRef_pln {n : Nat} {d : D} (h : pln n d = true) : noRef d = true := noRef_still (pln_still h)
theorem Sd.nr (x : Sd) : noRef x.D = true := noRef_pln (x.pln 3 (by omega))
theorem Sd.i0 (x : Sd) (h : Hh) : opIdx h x.D (.int 0) = some (.int x.n) := rfl
theorem Sd.i1 (x : Sd) (h : Hh) : opIdx h x.D (.int 1) = some (.tup [.int x.s.1, .int x.s.2]) := rfl
theorem Sd.i2 (x : Sd) (h : Hh) : opIdx h x.D (.int 2) = some (.tup (x.ts.map Ti.D)) := rfl
theorem sd_mk (n : Int) (s : Int × Int) (ts : List Ti) : (.tup [.int n, .tup [.int s.1, .int s.2], .tup (ts.map Ti.D)] : D) = (Sd.mk n s ts).D := rfl
theorem e_isstandD (k : Nat) (x : Sd) (h : Hh) : S (k + 4) 19 [x.D] h = .ok (.bl (decide x.ok)) h := by
  rw [e_isstand k x.D h (x.pln 3 (by omega))]
  show R.ok (D.bl (standB (stD x.n x.s x.ts))) h = _
  rw [standB_D]; rfl
theorem e_deals (k : Nat) (x : Sd) (hl : x.ts.length ≤ 100) (h : Hh) : S (k + 1) 22 [x.D] h = .ok (.int x.sum) h := by
  have e1 := x.i1
  have e2 := x.i2
  have c := compL_ints (g := .nm 1) (t := bYes) (f := evE (M k) none x22_0) (e := [some x.D, none]) (h := h) (φ := Ti.D) (ψ := fun t => .int t.a) (l := x.ts) (fun t _ => ⟨_, rfl, rfl, by simp_all! only [1, x22_0, Ti.D]⟩)
  have s1 : ∀ h, bSum h [.tup [.int x.s.1, .int x.s.2]] = some (.int (x.s.1 + x.s.2)) := fun h => by
    have z := sum_tupI (h := h) (l := [x.s.1, x.s.2])
    rw [show ([D.int x.s.1, .int x.s.2] : List D) = [x.s.1, x.s.2].map .int from rfl, z]
    simp
  have s2 : ∀ h, bSum h [.lst (x.ts.map fun t => .int t.a)] = some (.int (amt x.ts)) := fun h => by
    have z := sum_lst (h := h) (l := x.ts.map Ti.a)
    rw [List.map_map] at z
    exact z
  rw [q22]
  have hl2 : (x.ts.map Ti.D).length ≤ 16777216 := by rw [List.length_map]; omega
  generalize x.ts.map Ti.D = tl at *
  generalize (x.ts.map fun t => D.int t.a) = al at *
  unfold Sd.sum
  generalize x.D = xd at *
  simp_all! only [1, b22, e1, e2, c, s1, s2, evQ]
/-! a small stand: it deals out a whole -/
def Ti.sm (W : Int) (t : Ti) : Prop := (t.p = 0 ∨ t.p = 1) ∧ (1 ≤ t.a ∧ t.a ≤ W) ∧ (0 ≤ t.w ∧ t.w ≤ 11) ∧ (0 ≤ t.d ∧ t.d ≤ 29)
/-- what a small stand is -/
structure SmOk (W n : Int) (s : Int × Int) (ts : List Ti) : Prop where
  n0 : 0 ≤ n ∧ n ≤ 6
  s1 : 0 ≤ s.1
  s2 : 0 ≤ s.2
  all : s.1 + s.2 + amt ts = W
  len : ts.length ≤ 6
  ok : ∀ t ∈ ts, t.sm W
  uni : (ts.map Ti.w).Nodup
structure SmI (W : Int) (i : Nat) (left : Int) (ts : List Ti) (ws : List Int) : Prop where
  l0 : 0 ≤ left
  all : left + amt ts = W
  len : ts.length ≤ i
  ok : ∀ t ∈ ts, t.sm W
  uni : (ts.map Ti.w).Nodup
  ws : ws = ts.map Ti.w
theorem amt_app1 (ts : List Ti) (t : Ti) : amt (ts ++ [t]) = amt ts + t.a := by rw [amt_append]; unfold amt; simp
theorem amt_nnS {W : Int} : ∀ {ts : List Ti}, (∀ t ∈ ts, t.sm W) → 0 ≤ amt ts
  | [], _ => Int.le_refl 0
  | t :: ts, h => by
    have h1 := (h t List.mem_cons_self).2.1.1
    have h2 := amt_nnS (ts := ts) fun t ht => h t (List.mem_cons_of_mem _ ht)
    unfold amt at h2 ⊢
    rw [List.map_cons, List.sum_cons]
    omega
theorem e_small (c W : Int) (hW : 0 ≤ W ∧ W ≤ 2000000000000) (k : Nat) : ∃ n s ts, (∃ h', S (k + 2) 41 [.int c, .int W] [] = .ok (stD n s ts) h') ∧ SmOk W n s ts := by
  obtain ⟨e', h', q, left, ts, ws, rfl, rfl, I⟩ := forL_rng (g := .nm 5) (b := evB (M (k + 1)) none b41_0) (lo := 0) (n := (c % 7).toNat) (I := fun i e h => ∃ (left : Int) (ts : List Ti) (ws : List Int), e = [some (.int c), some (.int W), some (.int left), some (.tup (ts.map Ti.D)), some (.ref 0), none, none, none, none, none] ∧ h = [.lst (ws.map .int)] ∧ SmI W i left ts ws) (fun i e h hi ⟨left, ts, ws, he, hh, I⟩ => by
    subst he
    subst hh
    have en : ∀ x : Int, cmpD .NotIn [.lst (ws.map .int)] (.int x) (.ref 0) = some (.bl (!decide (x ∈ ws))) := fun x => by
      rw [nin_ref (l := ws.map .int) rfl rfl (plns_ints _ _), any_int]
    have hw7 : ws.length ≤ 6 := by rw [I.ws, List.length_map]; have := I.len; omega
    have ea : ∀ x : Int, mAppend [.lst (ws.map .int)] (.ref 0) [.int x] = some (.non, [.lst ((ws ++ [x]).map .int)]) := fun x => by
      rw [append_ref (l := ws.map .int) rfl (by rw [List.length_map]; omega)]
      simp
    have ec : cLst [.lst (ws.map .int)] (.ref 0) = true := cLst_ref (l := ws.map .int) rfl
    have et : ∀ (h : Hh) (t : Ti), opAdd h (.tup (ts.map Ti.D)) (.tup [.tup [.int t.p, .int t.a, .int t.w, .int t.d]]) = some (.tup ((ts ++ [t]).map Ti.D)) := fun h t => by
      rw [add_tup (by rw [List.length_map]; have := I.len; simp only [List.length_cons, List.length_nil]; omega), List.map_append]
      rfl
    generalize hm : mixed (c / 7) i = m
    have pp : 0 < pick [9, 1 + W] (m % 7 / 6) ∧ pick [9, 1 + W] (m % 7 / 6) ≤ 2000000000001 := pick_all (P := fun x => 0 < x ∧ x ≤ 2000000000001) (by simp; omega) (by omega) (by simp only [List.length_cons, List.length_nil]; omega)
    have et2 := fun h x => et h ⟨m / 840 % 2, x, m / 70 % 12, m / 1680 % 30⟩
    refine ⟨_, rfl, ?_⟩
    simp_all! only [1, b41_0, e_mixed, Int.zero_add, hm, en, ea, ec, et2]
    split
    · rename_i hp
      split
      · rename_i hn
        refine ⟨_, _, rfl, _, ts ++ [⟨_, _, _, _⟩], ws ++ [_], rfl, rfl, ?_⟩
        have hm2 := Int.emod_nonneg (m / 7) (show pick [9, 1 + W] (m % 7 / 6) ≠ 0 by omega)
        have am := I.all
        have a0 := amt_nnS I.ok
        have l0 := I.l0
        refine ⟨?_, ?_, ?_, ?_, ?_, ?_⟩
        · omega
        · rw [amt_app1]; dsimp only; omega
        · rw [List.length_append]; have := I.len; simp; omega
        · intro t ht
          rcases List.mem_append.mp ht with z | z
          · exact I.ok t z
          · rw [List.mem_singleton] at z
            subst z
            unfold Ti.sm
            dsimp only
            omega
        · rw [List.map_append]
          refine List.nodup_append.mpr ⟨I.uni, by simp, fun a ha b hb => ?_⟩
          simp only [List.map_cons, List.map_nil, List.mem_singleton] at hb
          subst hb
          rw [← I.ws] at ha
          have hn2 : m / 70 % 12 ∉ ws := by simpa using hn
          exact fun z => hn2 (z ▸ ha)
        · rw [List.map_append, I.ws]; rfl
      · exact ⟨_, _, rfl, _, ts, ws, rfl, rfl, ⟨I.l0, I.all, by have := I.len; omega, I.ok, I.uni, I.ws⟩⟩
    · exact ⟨_, _, rfl, _, ts, ws, rfl, rfl, ⟨I.l0, I.all, by have := I.len; omega, I.ok, I.uni, I.ws⟩⟩) (e := [some (.int c), some (.int W), some (.int W), some (.tup []), some (.ref 0), none, none, none, none, none]) (h := [.lst []])
    ⟨W, [], [], rfl, rfl, ⟨hW.1, by unfold amt; simp, by simp, fun t ht => (by cases ht), by simp, rfl⟩⟩
  have l0 := I.l0
  have am := I.all
  have a0 := amt_nnS I.ok
  have hl : (0 : Int) < left + 1 := by omega
  refine ⟨c / 7 % 7, (mixed (c / 7) 9 % (left + 1), left - mixed (c / 7) 9 % (left + 1)), ts, ⟨[.lst (ws.map .int)], ?_⟩, ?_⟩
  · rw [q41]
    simp_all! only [1, b41, dNew, q, e_mixed]
    rfl
  · have h1 := Int.emod_nonneg (mixed (c / 7) 9) (show left + 1 ≠ 0 by omega)
    have h2 := Int.emod_lt_of_pos (mixed (c / 7) 9) hl
    exact ⟨by omega, h1, by dsimp only; omega, by dsimp only; omega, by have := I.len; omega, I.ok, I.uni⟩
theorem SmOk.ok' {W n : Int} {s : Int × Int} {ts : List Ti} (I : SmOk W n s ts) (hm : W ≤ 1000000000000) : (Sd.mk n s ts).ok ∧ (Sd.mk n s ts).sum = W := by
  have h := I.all
  have a := amt_nnS I.ok
  have h1 := I.s1
  have h2 := I.s2
  have h3 := I.n0
  refine ⟨⟨⟨h3.1, by show n ≤ 1000000; omega⟩, ⟨⟨h1, by show s.1 ≤ 2000000000000; omega⟩, h2, by show s.2 ≤ 2000000000000; omega⟩, I.len, fun t ht => ?_, I.uni⟩, I.all⟩
  obtain ⟨t1, t2, t3, t4⟩ := I.ok t ht
  unfold Ti.ok
  omega
/-! words shown -/
def shK (p : Int × Int) : Key × D := (.inl p.1, .int p.2)
def shD (m : List (Int × Int)) : D := .dct (m.map shK)
def getM (m : List (Int × Int)) (w : Int) : Option Int := (m.find? fun p => decide (p.1 = w)).map (·.2)
def putM (m : List (Int × Int)) (w d : Int) : List (Int × Int) := if (m.any fun p => decide (p.1 = w)) = true then m.map (fun p => if p.1 = w then (p.1, d) else p) else m ++ [(w, d)]
theorem val_sh (w : Int) : ∀ m : List (Int × Int), valD (m.map shK) (.inl w) = (getM m w).map .int
  | [] => rfl
  | p :: m => by
    have ih := val_sh w m
    unfold valD getM at ih ⊢
    rw [List.map_cons, List.find?_cons, List.find?_cons]
    have e : decide ((shK p).1 = Sum.inl w) = decide (p.1 = w) := by
      unfold shK
      simp
    rw [e]
    cases decide (p.1 = w) with
    | true => rfl
    | false => exact ih
theorem put_sh (w d : Int) (m : List (Int × Int)) : putD (m.map shK) (.inl w) (.int d) = (putM m w d).map shK := by
  have e : ∀ p : Int × Int, decide ((shK p).1 = Sum.inl w) = decide (p.1 = w) := fun p => by unfold shK; simp
  unfold putD putM
  have e2 : ((m.map shK).any fun kv => decide (kv.1 = (Sum.inl w : Key))) = m.any fun p => decide (p.1 = w) := by
    rw [List.any_map]
    congr 1
    funext p
    exact e p
  rw [e2]
  by_cases c : (m.any fun p => decide (p.1 = w)) = true
  · rw [if_pos c, if_pos c, List.map_map, List.map_map]
    refine List.map_congr_left fun p _ => ?_
    show (if (shK p).1 = Sum.inl w then ((shK p).1, D.int d) else shK p) = shK (if p.1 = w then (p.1, d) else p)
    by_cases z : p.1 = w
    · rw [if_pos z, if_pos (by unfold shK; rw [z])]; rfl
    · rw [if_neg z, if_neg (by unfold shK; simpa using z)]
  · rw [if_neg c, if_neg c, List.map_append]; rfl
theorem put_len (m : List (Int × Int)) (w d : Int) : (putM m w d).length ≤ m.length + 1 := by
  unfold putM
  split <;> simp
def Uniq (m : List (Int × Int)) : Prop := (m.map (·.1)).Nodup
theorem put_uniq {m : List (Int × Int)} (u : Uniq m) (w d : Int) : Uniq (putM m w d) := by
  unfold Uniq putM at *
  split
  · have e : (m.map fun p => if p.1 = w then (p.1, d) else p).map (·.1) = m.map (·.1) := by
      rw [List.map_map]
      refine List.map_congr_left fun p _ => ?_
      show (if p.1 = w then (p.1, d) else p).1 = p.1
      split <;> rfl
    rw [e]; exact u
  · rename_i c
    rw [List.map_append]
    refine List.nodup_append.mpr ⟨u, by simp, fun a ha b hb => ?_⟩
    simp only [List.map_cons, List.map_nil, List.mem_singleton] at hb
    subst hb
    intro z
    subst z
    obtain ⟨p, hp, rfl⟩ := List.mem_map.mp ha
    exact c (List.any_eq_true.mpr ⟨p, hp, by simp⟩)
theorem get_uniq : ∀ {m : List (Int × Int)}, Uniq m → ∀ p ∈ m, getM m p.1 = some p.2
  | [], _, p, h => by cases h
  | q :: m, u, p, h => by
    unfold Uniq at u
    rw [List.map_cons, List.nodup_cons] at u
    unfold getM
    rw [List.find?_cons]
    by_cases c : q.1 = p.1
    · rw [decide_eq_true c]
      rcases List.mem_cons.mp h with e | h
      · rw [e]; rfl
      · exact absurd (List.mem_map.mpr ⟨p, h, c.symm⟩) u.1
    · rw [decide_eq_false c]
      rcases List.mem_cons.mp h with e | h
      · exact absurd (by rw [e]) c
      · exact get_uniq (m := m) u.2 p h
theorem eq_sh (h : Hh) {m : List (Int × Int)} (u : Uniq m) : cmpD .Eq h (shD m) (shD m) = some (.bl true) := by
  refine eq_dct rfl rfl rfl ?_
  unfold eqKD
  simp only [decide_true, Bool.true_and, List.all_eq_true]
  intro p hp
  obtain ⟨q, hq, rfl⟩ := List.mem_map.mp hp
  have e : valD (m.map shK) (shK q).1 = (getM m q.1).map .int := val_sh q.1 m
  rw [e, get_uniq u q hq]
  show decide (q.2 = q.2) = true
  simp
theorem in_sh (h : Hh) (m : List (Int × Int)) (w : Int) : cmpD .In h (.int w) (shD m) = some (.bl (getM m w).isSome) := by
  show (inD h (.int w) (shD m)).map D.bl = _
  have e : inD h (.int w) (shD m) = some (valD (m.map shK) (.inl w)).isSome := rfl
  rw [e, val_sh]
  cases getM m w <;> rfl
theorem idx_sh (h : Hh) (m : List (Int × Int)) (w : Int) : opIdx h (shD m) (.int w) = (getM m w).map .int := by
  have e : opIdx h (shD m) (.int w) = valD (m.map shK) (.inl w) := rfl
  rw [e, val_sh]
theorem noRef_sh (m : List (Int × Int)) : noRef (shD m) = true := noRef_dct fun p hp => by
  obtain ⟨q, _, rfl⟩ := List.mem_map.mp hp
  rfl
theorem dict_sh (h : Hh) (m : List (Int × Int)) : bDict h [shD m] = some (shD m) := rfl
/-! pots -/
structure Pt where
  l : Int
  r : Int
  a : Int
  b : Int
  w : Int
def Pt.D (p : Pt) : D := .tup [.int p.l, .int p.r, .int p.a, .int p.b, .int p.w]
def Pt.sum (p : Pt) : Int := p.a + p.b
theorem Pt.nr (p : Pt) : noRef p.D = true := rfl
/-! the book -/
inductive Cl where
  | held | laid (side : Int) (x : Sd) (day : Int) | taken (side : Int)
structure Ps where
  p : Pt
  c : Cl
  m : List (Int × Int)
def Cl.D (p : Pt) : Cl → Sb.D
  | .held => .ins 1 (FL1 (.int p.sum))
  | .laid sd x day => .ins 2 (FL2 (.int p.sum) (.int sd) x.D (.int day) (.int p.w))
  | .taken sd => .ins 3 (FL3 (.int p.sum) (.int sd))
def Cl.told : Cl → Sb.D
  | .held => .tup [.str "held"]
  | .laid sd x day => .tup [.str "laid", .int sd, x.D, .int day]
  | .taken sd => .tup [.str "taken", .int sd]
def Ps.D (x : Ps) : D := x.c.D x.p
theorem Cl.nr (p : Pt) (c : Cl) : noRef (c.D p) = true := by
  cases c with
  | held =>
    refine noRef_ins fun q hq => ?_
    simp only [FL1, List.mem_cons, List.not_mem_nil, or_false] at hq
    subst hq; rfl
  | laid sd x day =>
    refine noRef_ins fun q hq => ?_
    simp only [FL2, List.mem_cons, List.not_mem_nil, or_false] at hq
    rcases hq with rfl | rfl | rfl | rfl | rfl <;> first | rfl | exact x.nr
  | taken sd =>
    refine noRef_ins fun q hq => ?_
    simp only [FL3, List.mem_cons, List.not_mem_nil, or_false] at hq
    rcases hq with rfl | rfl <;> rfl
/-- a book, frozen or of the small heap -/
structure BV (h : Hh) (d : D) (now : Int) (ps : List Ps) : Prop where
  ins : ∃ cD sD, insAt h d = some (8, FL8 (.lst (ps.map fun x => x.p.D)) (.int now) cD sD) ∧ (∀ i, opIdx h cD (.int i) = atI (ps.map Ps.D) i) ∧ ∀ (i : Nat) (x : Ps), ps[i]? = some x → ∃ y, opIdx h sD (.int i) = some y ∧ asK h y = some (x.m.map shK) ∧ frzD (frzN 8 h) y = some (shD x.m) ∧ bDict h [y] = some (shD x.m)
  len : ps.length ≤ 3
section
variable {h : Hh} {d : D} {now : Int} {ps : List Ps}
theorem e_look (k : Nat) (V : BV h d now ps) (i sd : Int) : S (k + 2) 28 [d, .int i, .int sd] h = if (0 ≤ i ∧ i < ps.length) ∧ (0 ≤ sd ∧ sd ≤ 1) then .ok .non h else .exc 6 [] h := by
  obtain ⟨cD, sD, hi, _, _⟩ := V.ins
  have fk : fldD T.f "kept" h d = some (.lst (ps.map fun x => x.p.D)) := fldD_of hi (by decide +kernel) rfl
  have ln : bLen h [.lst (ps.map fun x => x.p.D)] = some (.int ps.length) := by rw [len_lst, List.length_map]
  have b1 := e_inb (n := 0) k (.int i) (ps.length - 1) h rfl
  have b2 := e_inb (n := 0) k (.int sd) 1 h rfl
  have e1 : inB (ps.length - 1) (.int i) = decide (0 ≤ i ∧ i < ps.length) := by
    rw [Bool.eq_iff_iff]; simp only [inB, Bool.and_eq_true, decide_eq_true_eq]; omega
  have e2 : inB 1 (.int sd) = decide (0 ≤ sd ∧ sd ≤ 1) := by
    rw [Bool.eq_iff_iff]; simp only [inB, Bool.and_eq_true, decide_eq_true_eq]
  rw [e1] at b1
  rw [e2] at b2
  generalize (.lst (ps.map fun x => x.p.D) : D) = K at *
  rw [q28]
  by_cases c1 : 0 ≤ i ∧ i < ps.length
  · rw [decide_eq_true c1] at b1
    by_cases c2 : 0 ≤ sd ∧ sd ≤ 1
    · rw [decide_eq_true c2] at b2
      rw [if_pos ⟨c1, c2⟩]
      simp_all! only [1, b28, fk, ln, b1, b2]
    · rw [decide_eq_false c2] at b2
      rw [if_neg fun z => c2 z.2]
      simp_all! only [1, b28, fk, ln, b1, b2]
  · rw [decide_eq_false c1] at b1
    rw [if_neg fun z => c1 z.1]
    simp_all! only [1, b28, fk, ln, b1]
theorem look_ok (k : Nat) (V : BV h d now ps) {i : Nat} {x : Ps} (hx : ps[i]? = some x) {sd : Int} (hs : 0 ≤ sd ∧ sd ≤ 1) : S (k + 2) 28 [d, .int i, .int sd] h = .ok .non h := by
  have hl := (List.getElem?_eq_some_iff.mp hx).1
  rw [e_look k V, if_pos ⟨⟨by omega, by omega⟩, hs⟩]
theorem look_no (k : Nat) (V : BV h d now ps) {i sd : Int} (hx : ¬ ((0 ≤ i ∧ i < ps.length) ∧ (0 ≤ sd ∧ sd ≤ 1))) : S (k + 2) 28 [d, .int i, .int sd] h = .exc 6 [] h := by
  rw [e_look k V, if_neg hx]
theorem at_map {α : Type} {f : α → D} {l : List α} {i : Nat} {x : α} (hx : l[i]? = some x) : atI (l.map f) (i : Int) = some (f x) := by
  have hl := (List.getElem?_eq_some_iff.mp hx).1
  rw [atI_nat (by omega) (by rw [List.length_map]; omega), List.getElem?_map, Int.toNat_natCast, hx]; rfl
theorem e_told (k : Nat) (V : BV h d now ps) {i : Nat} {x : Ps} (hx : ps[i]? = some x) : S (k + 3) 33 [d, .int i] h = .ok x.c.told h := by
  obtain ⟨cD, sD, hi, hc, _⟩ := V.ins
  have fk : fldD T.f "claims" h d = some cD := fldD_of hi (by decide +kernel) rfl
  have lo := look_ok k V hx (sd := 0) (by omega)
  have c1 := hc i
  rw [at_map hx] at c1
  obtain ⟨p, c, m⟩ := x
  have t1 := fun (a : D) (h : Hh) => q5 (k + 1) (a0 := a) (h := h)
  have t2 := fun (a : D) (h : Hh) => q8 (k + 1) (a0 := a) (h := h)
  have t3 := fun (a : D) (h : Hh) => q12 (k + 1) (a0 := a) (h := h)
  rw [q33]
  cases c with
  | held =>
    simp only [Ps.D, Cl.D] at c1
    simp_all! only [3, b33, b5, hi, fk, lo, c1, t1, Cl.told]
  | laid sd y day =>
    simp only [Ps.D, Cl.D] at c1
    simp_all! only [3, b33, b8, hi, fk, lo, c1, t2, Cl.told]
  | taken sd =>
    simp only [Ps.D, Cl.D] at c1
    simp_all! only [3, b33, b12, hi, fk, lo, c1, t3, Cl.told]
theorem told_no (k : Nat) (V : BV h d now ps) {i : Int} (hx : ¬ (0 ≤ i ∧ i < ps.length)) : S (k + 3) 33 [d, .int i] h = .exc 6 [] h := by
  obtain ⟨cD, sD, hi, hc, _⟩ := V.ins
  have lo := look_no k V (i := i) (sd := 0) (fun z => hx z.1)
  rw [q33]
  simp_all! only [3, b33, hi, lo]
end
section
variable {h : Hh} {d : D} {now : Int} {ps : List Ps}
theorem e_today (k : Nat) (V : BV h d now ps) : S (k + 1) 26 [d] h = .ok (.int now) h := by
  obtain ⟨cD, sD, hi, _, _⟩ := V.ins
  have fk : fldD T.f "now" h d = some (.int now) := fldD_of hi (by decide +kernel) rfl
  rw [q26]
  simp_all! only [1, b26, fk]
end
/-! the book in the small heap -/
def bRefs (o n : Nat) : List D := (List.range n).map fun j => .ref (o + 2 + j)
def bHd (o : Nat) (now : Int) (ps : List Ps) : O := .ins 8 (FL8 (.lst (ps.map fun x => x.p.D)) (.int now) (.ref (o + 1)) (.lst (bRefs o ps.length)))
def hB (u : Hh) (now : Int) (ps : List Ps) (t : Hh) : Hh := u ++ (bHd u.length now ps :: .lst (ps.map Ps.D) :: (ps.map (fun x => .dct (x.m.map shK)) ++ t))
section
variable {u t : Hh} {now : Int} {ps : List Ps}
theorem hB0 : (hB u now ps t)[u.length]? = some (bHd u.length now ps) := by
  unfold hB
  rw [List.getElem?_append_right (Nat.le_refl _), Nat.sub_self]; rfl
theorem hB1 : (hB u now ps t)[u.length + 1]? = some (.lst (ps.map Ps.D)) := by
  unfold hB
  rw [List.getElem?_append_right (by omega), show u.length + 1 - u.length = 1 by omega]; rfl
theorem hB2 {i : Nat} {x : Ps} (hx : ps[i]? = some x) : (hB u now ps t)[u.length + 2 + i]? = some (.dct (x.m.map shK)) := by
  have hl := (List.getElem?_eq_some_iff.mp hx).1
  unfold hB
  rw [List.getElem?_append_right (by omega), show u.length + 2 + i - u.length = i + 2 by omega, List.getElem?_cons_succ, List.getElem?_cons_succ, List.getElem?_append_left (by rw [List.length_map]; exact hl), List.getElem?_map, hx]; rfl
theorem hB3 {i : Nat} (hi : ps.length ≤ i) : (hB u now ps t)[u.length + 2 + i]? = t[i - ps.length]? := by
  unfold hB
  rw [List.getElem?_append_right (by omega), show u.length + 2 + i - u.length = i + 2 by omega, List.getElem?_cons_succ, List.getElem?_cons_succ, List.getElem?_append_right (by rw [List.length_map]; exact hi), List.length_map]
theorem hB_set0 (now' : Int) : (hB u now ps t).set u.length (bHd u.length now' ps) = hB u now' ps t := by
  unfold hB
  rw [List.set_append_right _ _ (Nat.le_refl _), Nat.sub_self]; rfl
theorem hB_set1 {i : Nat} {x y : Ps} (hx : ps[i]? = some x) (hp : y.p = x.p) (hm : y.m = x.m) : (hB u now ps t).set (u.length + 1) (.lst ((ps.map Ps.D).set i y.D)) = hB u now (ps.set i y) t := by
  have e1 : (ps.set i y).map (fun x => x.p.D) = ps.map fun x => x.p.D := by
    rw [List.map_set]
    apply List.ext_getElem?
    intro j
    rw [List.getElem?_set]
    split
    · rename_i c; subst c
      rw [List.getElem?_map, hx, List.length_map, if_pos (List.getElem?_eq_some_iff.mp hx).1, hp]; rfl
    · rfl
  have e2 : (ps.set i y).map (fun x => O.dct (x.m.map shK)) = ps.map fun x => .dct (x.m.map shK) := by
    rw [List.map_set]
    apply List.ext_getElem?
    intro j
    rw [List.getElem?_set]
    split
    · rename_i c; subst c
      rw [List.getElem?_map, hx, List.length_map, if_pos (List.getElem?_eq_some_iff.mp hx).1, hm]; rfl
    · rfl
  have e3 : bHd u.length now (ps.set i y) = bHd u.length now ps := by
    unfold bHd
    rw [e1, List.length_set]
  unfold hB
  rw [List.set_append_right _ _ (by omega), show u.length + 1 - u.length = 1 by omega, e2, e3, List.map_set]; rfl
theorem hB_set2 {i : Nat} {x : Ps} (hx : ps[i]? = some x) (m : List (Int × Int)) : (hB u now ps t).set (u.length + 2 + i) (.dct (m.map shK)) = hB u now (ps.set i { x with m := m }) t := by
  have hl := (List.getElem?_eq_some_iff.mp hx).1
  have e1 : (ps.set i { x with m := m }).map (fun x => x.p.D) = ps.map fun x => x.p.D := by
    rw [List.map_set]
    apply List.ext_getElem?
    intro j
    rw [List.getElem?_set]
    split
    · rename_i c; subst c
      rw [List.getElem?_map, hx, List.length_map, if_pos hl]; rfl
    · rfl
  have e2 : (ps.set i { x with m := m }).map Ps.D = ps.map Ps.D := by
    rw [List.map_set]
    apply List.ext_getElem?
    intro j
    rw [List.getElem?_set]
    split
    · rename_i c; subst c
      rw [List.getElem?_map, hx, List.length_map, if_pos hl]; rfl
    · rfl
  have e3 : bHd u.length now (ps.set i { x with m := m }) = bHd u.length now ps := by
    unfold bHd
    rw [e1, List.length_set]
  unfold hB
  rw [List.set_append_right _ _ (by omega), show u.length + 2 + i - u.length = i + 2 by omega, e2, e3, List.map_set, List.set_cons_succ, List.set_cons_succ, List.set_append_left _ _ (by rw [List.length_map]; exact hl)]
theorem bRefs_at {o n i : Nat} (hi : i < n) : atI (bRefs o n) (i : Int) = some (.ref (o + 2 + i)) := by
  unfold bRefs
  rw [at_map (x := i) (by rw [List.getElem?_range hi])]
theorem bv_heap (hl : ps.length ≤ 3) : BV (hB u now ps t) (.ref u.length) now ps where
  ins := by
    refine ⟨_, _, insAt_ref hB0, fun i => idx_ref hB1 i, fun i x hx => ⟨_, by rw [idx_lst]; exact bRefs_at (List.getElem?_eq_some_iff.mp hx).1, asK_refK (hB2 hx), ?_, ?_⟩⟩
    · refine frzN_dct (hB2 hx) (frzDk_no fun p hp => ?_)
      obtain ⟨q, _, rfl⟩ := List.mem_map.mp hp
      rfl
    · have e := hB2 (u := u) (now := now) (t := t) hx
      show (asK _ (.ref (u.length + 2 + i))).map D.dct = _
      rw [asK_refK e]; rfl
  len := hl
/-- frozen -/
def FB (now : Int) (ps : List Ps) : D := .ins 8 (FL8 (.lst (ps.map fun x => x.p.D)) (.int now) (.lst (ps.map Ps.D)) (.lst (ps.map fun x => shD x.m)))
theorem bv_frz (hl : ps.length ≤ 3) (h : Hh) : BV h (FB now ps) now ps where
  ins := ⟨_, _, rfl, fun i => idx_lst _ _ _, fun i x hx => ⟨shD x.m, by rw [idx_lst]; exact at_map (f := fun x : Ps => shD x.m) hx, rfl, noRef_id (noRef_sh x.m), rfl⟩⟩
  len := hl
theorem noRefs_lst {α : Type} {φ : α → D} (h : ∀ a, noRef (φ a) = true) (g : Nat → Option D) (l : List α) : frzD g (.lst (l.map φ)) = some (.lst (l.map φ)) :=
  frz_lst (frzDs_no fun p hp => by obtain ⟨a, _, rfl⟩ := List.mem_map.mp hp; exact h a)
theorem book_frz (n : Nat) : frzN (n + 3) (hB u now ps t) u.length = some (FB now ps) := by
  refine frzN_ins hB0 ?_
  refine frzDf_cons (noRefs_lst (fun x : Ps => x.p.nr) _ ps) (frzDf_cons rfl (frzDf_cons ?_ (frzDf_cons ?_ rfl)))
  · exact frzN_lst hB1 (frzDs_no fun p hp => by obtain ⟨a, _, rfl⟩ := List.mem_map.mp hp; exact a.c.nr a.p)
  · refine frz_lst ?_
    have e : (ps.map fun x => shD x.m) = (List.range ps.length).map fun i => match ps[i]? with | some x => shD x.m | none => .non := by
      apply List.ext_getElem?
      intro i
      rw [List.getElem?_map, List.getElem?_map]
      by_cases c : i < ps.length
      · rw [List.getElem?_range c, List.getElem?_eq_getElem c]
        simp only [Option.map_some, List.getElem?_eq_getElem c]
      · rw [List.getElem?_eq_none (by omega), List.getElem?_eq_none (by rw [List.length_range]; omega)]; rfl
    rw [e]
    unfold bRefs
    refine frzDs_map fun i hi => ?_
    have hl : i < ps.length := List.mem_range.mp hi
    rw [List.getElem?_eq_getElem hl]
    refine frzN_dct (hB2 (List.getElem?_eq_getElem hl)) (frzDk_no fun p hp => ?_)
    obtain ⟨q, _, rfl⟩ := List.mem_map.mp hp
    rfl
end
/-! deeds in the book -/
section
variable {u t : Hh} {now : Int} {ps : List Ps}
theorem e_next (k : Nat) : S (k + 1) 27 [.ref u.length] (hB u now ps t) = .ok .non (hB u (now + 1) ps t) := by
  have hi := insAt_ref (hB0 (u := u) (now := now) (ps := ps) (t := t))
  have fn : fldD T.f "now" (hB u now ps t) (.ref u.length) = some (.int now) := fldD_of hi (by decide +kernel) rfl
  have h0 := hB0 (u := u) (now := now) (ps := ps) (t := t)
  have s0 := hB_set0 (u := u) (now := now) (ps := ps) (t := t) (now + 1)
  unfold bHd at h0 s0
  rw [q27]
  generalize (.lst (ps.map fun x => x.p.D) : D) = K at *
  generalize (.lst (bRefs u.length ps.length) : D) = R at *
  generalize hB u now ps t = hh at *
  simp_all! only [3, b27, fn, h0, s0, and_self, Nat.reduceLT]
def seM (m : List (Int × Int)) (w now : Int) : List (Int × Int) := match getM m w with
  | some _ => m
  | none => m ++ [(w, now)]
theorem putM_new {m : List (Int × Int)} {w d : Int} (h : getM m w = none) : putM m w d = m ++ [(w, d)] := by
  unfold putM
  rw [if_neg]
  intro c
  obtain ⟨p, hp, e⟩ := List.any_eq_true.mp c
  unfold getM at h
  rw [Option.map_eq_none_iff, List.find?_eq_none] at h
  exact h p hp e
theorem e_show (k : Nat) (hl : ps.length ≤ 3) {i : Nat} {x : Ps} (hx : ps[i]? = some x) (hm : x.m.length ≤ 1000) {w : Int} (hw : 0 ≤ w ∧ w ≤ 59) : S (k + 3) 29 [.ref u.length, .int i, .int w] (hB u now ps t) = .ok .non (hB u now (ps.set i { x with m := seM x.m w now }) t) := by
  have V := bv_heap (u := u) (t := t) (now := now) hl
  have hi := insAt_ref (hB0 (u := u) (now := now) (ps := ps) (t := t))
  have fs : fldD T.f "shows" (hB u now ps t) (.ref u.length) = some (.lst (bRefs u.length ps.length)) := fldD_of hi (by decide +kernel) rfl
  have fn : fldD T.f "now" (hB u now ps t) (.ref u.length) = some (.int now) := fldD_of hi (by decide +kernel) rfl
  have lo := look_ok (k := k) V hx (sd := 0) (by omega)
  have b1 := e_inb (n := 0) (k + 1) (.int w) 59 (hB u now ps t) rfl
  rw [show inB 59 (.int w) = true from by simp only [inB, Bool.and_eq_true, decide_eq_true_eq]; exact hw] at b1
  have ix : opIdx (hB u now ps t) (.lst (bRefs u.length ps.length)) (.int i) = some (.ref (u.length + 2 + i)) := by rw [idx_lst]; exact bRefs_at (List.getElem?_eq_some_iff.mp hx).1
  have h2 := hB2 (u := u) (now := now) (t := t) hx
  have ak := asK_refK h2
  have se : seD (.ref (u.length + 2 + i)) (.int w) (.int now) (hB u now ps t) = .ok (.int ((getM x.m w).getD now)) (hB u now (ps.set i { x with m := seM x.m w now }) t) := by
    unfold seD
    simp only [keyD, h2]
    rw [if_pos (by rw [List.length_map]; omega), val_sh]
    unfold seM
    cases q : getM x.m w with
    | some v =>
      simp only [Option.map_some, Option.getD_some]
      rw [show ps.set i x = ps from by apply List.ext_getElem?; intro j; rw [List.getElem?_set]; split <;> rename_i c <;> first | (subst c; rw [hx, if_pos (List.getElem?_eq_some_iff.mp hx).1]) | rfl]
    | none =>
      simp only [Option.map_none, Option.getD_none]
      rw [put_sh, hB_set2 hx, putM_new q]
  rw [q29]
  unfold bHd at hi
  generalize (.lst (ps.map fun x => x.p.D) : D) = K at *
  generalize (.lst (bRefs u.length ps.length) : D) = R at *
  generalize hB u now ps t = hh at *
  simp_all! only [3, b29, hi, fs, fn, lo, b1, ix, sed_E, ak, se, Option.isSome_some]
theorem show_no (k : Nat) (hl : ps.length ≤ 3) {i w : Int} (hx : ¬ (0 ≤ i ∧ i < ps.length) ∨ ¬ (0 ≤ w ∧ w ≤ 59)) : S (k + 3) 29 [.ref u.length, .int i, .int w] (hB u now ps t) = .exc 6 [] (hB u now ps t) := by
  have V := bv_heap (u := u) (t := t) (now := now) hl
  have hi := insAt_ref (hB0 (u := u) (now := now) (ps := ps) (t := t))
  have lo := e_look (k := k) V i 0
  have b1 := e_inb (n := 0) (k + 1) (.int w) 59 (hB u now ps t) rfl
  unfold bHd at hi
  rw [q29]
  generalize (.lst (ps.map fun x => x.p.D) : D) = K at *
  generalize (.lst (bRefs u.length ps.length) : D) = R at *
  generalize hB u now ps t = hh at *
  by_cases c : 0 ≤ i ∧ i < ps.length
  · rw [if_pos ⟨c, by omega⟩] at lo
    rw [show inB 59 (.int w) = false from by rw [← Bool.not_eq_true]; simp only [inB, Bool.and_eq_true, decide_eq_true_eq]; exact hx.resolve_left fun z => z c] at b1
    simp_all! only [3, b29, hi, lo, b1]
  · rw [if_neg fun z => c z.1] at lo
    simp_all! only [3, b29, hi, lo]
end
/-! a stand is laid, a pot is taken -/
def PtOk (p : Pt) : Prop := (0 ≤ p.a ∧ p.a ≤ 1000000000000) ∧ (0 ≤ p.b ∧ p.b ≤ 1000000000000)
def frD (p : Pt) : D := .tup [.int 0, .tup [.int p.a, .int p.b], .tup []]
def agT (i sd : Int) (y : D) : D := .tup [.str "agree", .int i, .int sd, y]
def agB (p : Pt) (i sd : Int) (y : D) (agr : D) : Bool := if eqB y (frD p) = true then true else eqB agr (agT i (1 - sd) y)
def Cl.isHeld : Cl → Bool
  | .held => true
  | _ => false
theorem whole_fld (x : Ps) (h : Hh) : fldD T.f "whole" h x.D = some (.int x.p.sum) := by
  obtain ⟨p, c, m⟩ := x
  cases c <;> rfl
theorem told_ne (c : Cl) (h : Hh) : cmpD .NotEq h c.told (.tup [.str "held"]) = some (.bl (!c.isHeld)) := by
  cases c with
  | held => rw [ne_pln (by unfold Cl.told; simp only [pln_non, pln_bl, pln_int, pln_str, pln_tupp, pln_lstt, plns_nil, plns_cons, Nat.reduceSub, Bool.and_true, Bool.true_and, Bool.and_self, Nat.reduceLT, Nat.zero_lt_succ, so0, so1, so2, so3, so4, so5, so6, so7, so8, so9, so10, so11, so12, so13, so14, so15, so16, so17, so18, so19, so20, so21, so22]) (by simp only [pln_non, pln_bl, pln_int, pln_str, pln_tupp, pln_lstt, plns_nil, plns_cons, Nat.reduceSub, Bool.and_true, Bool.true_and, Bool.and_self, Nat.reduceLT, Nat.zero_lt_succ, so0, so1, so2, so3, so4, so5, so6, so7, so8, so9, so10, so11, so12, so13, so14, so15, so16, so17, so18, so19, so20, so21, so22])]; simp [Cl.told, eqB, eqBs, Cl.isHeld]
  | laid sd y day => rw [ne_pln (by unfold Cl.told; simp_all! only [4, y.pln _ (show 3 ≤ 63 by omega)]) (by simp only [pln_non, pln_bl, pln_int, pln_str, pln_tupp, pln_lstt, plns_nil, plns_cons, Nat.reduceSub, Bool.and_true, Bool.true_and, Bool.and_self, Nat.reduceLT, Nat.zero_lt_succ, so0, so1, so2, so3, so4, so5, so6, so7, so8, so9, so10, so11, so12, so13, so14, so15, so16, so17, so18, so19, so20, so21, so22])]; simp [Cl.told, eqB, eqBs, Cl.isHeld]
  | taken sd => rw [ne_pln (by unfold Cl.told; simp only [pln_non, pln_bl, pln_int, pln_str, pln_tupp, pln_lstt, plns_nil, plns_cons, Nat.reduceSub, Bool.and_true, Bool.true_and, Bool.and_self, Nat.reduceLT, Nat.zero_lt_succ, so0, so1, so2, so3, so4, so5, so6, so7, so8, so9, so10, so11, so12, so13, so14, so15, so16, so17, so18, so19, so20, so21, so22]) (by simp only [pln_non, pln_bl, pln_int, pln_str, pln_tupp, pln_lstt, plns_nil, plns_cons, Nat.reduceSub, Bool.and_true, Bool.true_and, Bool.and_self, Nat.reduceLT, Nat.zero_lt_succ, so0, so1, so2, so3, so4, so5, so6, so7, so8, so9, so10, so11, so12, so13, so14, so15, so16, so17, so18, so19, so20, so21, so22])]; simp [Cl.told, eqB, eqBs, Cl.isHeld]
section
variable {h : Hh} {d : D} {now : Int} {ps : List Ps}
theorem e_agreed (k : Nat) (V : BV h d now ps) {i : Nat} {x : Ps} (hx : ps[i]? = some x) (po : PtOk x.p) {sd : Int} {y agr : D} (py : pln 8 y = true) (pa : pln 10 agr = true) : S (k + 7) 30 [d, .int i, .int sd, y, agr] h = .ok (.bl (agB x.p i sd y agr)) h := by
  obtain ⟨cD, sD, hi, _, _⟩ := V.ins
  have fk : fldD T.f "kept" h d = some (.lst (ps.map fun x => x.p.D)) := fldD_of hi (by decide +kernel) rfl
  have ix : opIdx h (.lst (ps.map fun x => x.p.D)) (.int i) = some x.p.D := by rw [idx_lst]; exact at_map (f := fun x : Ps => x.p.D) hx
  have fi := e_first k x.p.a x.p.b ⟨po.1.1, by have := po.1.2; omega⟩ ⟨po.2.1, by have := po.2.2; omega⟩ h
  have e1 : cmpD .Eq h y (.tup [.int 0, .tup [.int x.p.a, .int x.p.b], .tup []]) = some (.bl (eqB y (frD x.p))) := eq_pln (pln_mono (by omega) py) (by simp only [pln_non, pln_bl, pln_int, pln_str, pln_tupp, pln_lstt, plns_nil, plns_cons, Nat.reduceSub, Bool.and_true, Bool.true_and, Bool.and_self, Nat.reduceLT, Nat.zero_lt_succ, so0, so1, so2, so3, so4, so5, so6, so7, so8, so9, so10, so11, so12, so13, so14, so15, so16, so17, so18, so19, so20, so21, so22])
  have e2 : cmpD .Eq h agr (.tup [.str "agree", .int i, .int (1 - sd), y]) = some (.bl (eqB agr (agT i (1 - sd) y))) := eq_pln (pln_mono (by omega) pa) (by simp_all! only [4, pln_mono (show 8 ≤ 63 by omega) py])
  rw [q30]
  generalize (.lst (ps.map fun x => x.p.D) : D) = K at *
  unfold agB
  by_cases c : eqB y (frD x.p) = true
  · rw [c] at e1
    rw [if_pos c]
    simp_all! only [3, b30, hi, fk, ix, fi, e1, e2, Pt.D]
  · rw [if_neg c]
    have c' : eqB y (frD x.p) = false := by simpa using c
    rw [c'] at e1
    simp_all! only [3, b30, hi, fk, ix, fi, e1, e2, Pt.D]
end
section
variable {u t : Hh} {now : Int} {ps : List Ps}
theorem lay_out (k : Nat) (hl : ps.length ≤ 3) {i sd : Int} {y agr : D} (hx : ¬ ((0 ≤ i ∧ i < ps.length) ∧ (0 ≤ sd ∧ sd ≤ 1))) : S (k + 8) 31 [.ref u.length, .int i, .int sd, y, agr] (hB u now ps t) = .exc 6 [] (hB u now ps t) := by
  have V := bv_heap (u := u) (t := t) (now := now) hl
  have hi := insAt_ref (hB0 (u := u) (now := now) (ps := ps) (t := t))
  have lo := look_no (k := k + 5) V hx
  unfold bHd at hi
  rw [q31]
  generalize (.lst (ps.map fun x => x.p.D) : D) = K at *
  generalize (.lst (bRefs u.length ps.length) : D) = R at *
  generalize hB u now ps t = hh at *
  simp_all! only [3, b31, hi, lo]
theorem lay_none (k : Nat) (hl : ps.length ≤ 3) {i : Nat} {x : Ps} (hx : ps[i]? = some x) {sd : Int} (hs : 0 ≤ sd ∧ sd ≤ 1) {y agr : D} (py : pln 8 y = true) (hy : standB y = false) : S (k + 8) 31 [.ref u.length, .int i, .int sd, y, agr] (hB u now ps t) = .exc 5 [] (hB u now ps t) := by
  have V := bv_heap (u := u) (t := t) (now := now) hl
  have hi := insAt_ref (hB0 (u := u) (now := now) (ps := ps) (t := t))
  have lo := look_ok (k := k + 5) V hx hs
  have is := e_isstand (k + 3) y (hB u now ps t) py
  rw [hy] at is
  unfold bHd at hi
  rw [q31]
  generalize (.lst (ps.map fun x => x.p.D) : D) = K at *
  generalize (.lst (bRefs u.length ps.length) : D) = R at *
  generalize hB u now ps t = hh at *
  simp_all! only [3, b31, hi, lo, is]
theorem lay_coin (k : Nat) (hl : ps.length ≤ 3) {i : Nat} {x : Ps} (hx : ps[i]? = some x) {sd : Int} (hs : 0 ≤ sd ∧ sd ≤ 1) {y : Sd} {agr : D} (yo : y.ok) (ys : ¬ y.sum = x.p.sum) : S (k + 8) 31 [.ref u.length, .int i, .int sd, y.D, agr] (hB u now ps t) = .exc 5 [] (hB u now ps t) := by
  have V := bv_heap (u := u) (t := t) (now := now) hl
  have hi := insAt_ref (hB0 (u := u) (now := now) (ps := ps) (t := t))
  have fc : fldD T.f "claims" (hB u now ps t) (.ref u.length) = some (.ref (u.length + 1)) := fldD_of hi (by decide +kernel) rfl
  have ic : opIdx (hB u now ps t) (.ref (u.length + 1)) (.int i) = some x.D := by rw [idx_ref hB1]; exact at_map (f := Ps.D) hx
  have fw := whole_fld x (hB u now ps t)
  have lo := look_ok (k := k + 5) V hx hs
  have is := e_isstandD (k + 3) y (hB u now ps t)
  rw [decide_eq_true yo] at is
  have de := e_deals (k + 6) y (by have := yo.2.2.1; omega) (hB u now ps t)
  unfold bHd at hi
  rw [q31]
  generalize (.lst (ps.map fun x => x.p.D) : D) = K at *
  generalize (.lst (bRefs u.length ps.length) : D) = R at *
  generalize hB u now ps t = hh at *
  generalize y.D = yD at *
  generalize x.D = xD at *
  simp_all! only [3, b31, hi, lo, is, de, fc, ic, fw, ys]
theorem e_lay (k : Nat) (hl : ps.length ≤ 3) {i : Nat} {x : Ps} (hx : ps[i]? = some x) (po : PtOk x.p) {sd : Int} (hs : 0 ≤ sd ∧ sd ≤ 1) {y : Sd} {agr : D} (pa : pln 10 agr = true) (yo : y.ok) (ys : y.sum = x.p.sum) :
    S (k + 8) 31 [.ref u.length, .int i, .int sd, y.D, agr] (hB u now ps t) = if x.c.isHeld = true ∧ agB x.p i sd y.D agr = true then .ok .non (hB u now (ps.set i { x with c := .laid sd y now }) t) else .exc 6 [] (hB u now ps t) := by
  have V := bv_heap (u := u) (t := t) (now := now) hl
  have hi := insAt_ref (hB0 (u := u) (now := now) (ps := ps) (t := t))
  have fc : fldD T.f "claims" (hB u now ps t) (.ref u.length) = some (.ref (u.length + 1)) := fldD_of hi (by decide +kernel) rfl
  have fk : fldD T.f "kept" (hB u now ps t) (.ref u.length) = some (.lst (ps.map fun x => x.p.D)) := fldD_of hi (by decide +kernel) rfl
  have fn : fldD T.f "now" (hB u now ps t) (.ref u.length) = some (.int now) := fldD_of hi (by decide +kernel) rfl
  have ic : opIdx (hB u now ps t) (.ref (u.length + 1)) (.int i) = some x.D := by rw [idx_ref hB1]; exact at_map (f := Ps.D) hx
  have ik : opIdx (hB u now ps t) (.lst (ps.map fun x => x.p.D)) (.int i) = some x.p.D := by rw [idx_lst]; exact at_map (f := fun x : Ps => x.p.D) hx
  have ip : ∀ h, opIdx h x.p.D (.int 4) = some (.int x.p.w) := fun h => rfl
  have fw := whole_fld x (hB u now ps t)
  have lo := look_ok (k := k + 5) V hx hs
  have is := e_isstandD (k + 3) y (hB u now ps t)
  rw [decide_eq_true yo] at is
  have de := e_deals (k + 6) y (by have := yo.2.2.1; omega) (hB u now ps t)
  have tl := e_told (k + 4) V hx
  have ne := told_ne x.c (hB u now ps t)
  have ag := e_agreed k V hx po (sd := sd) (y.pln 8 (by omega)) pa
  have mk := fun h => mk2 (k + 6) (h := h) (p0 := .int x.p.sum) (p1 := .int sd) (p2 := y.D) (p3 := .int now) (p4 := .int x.p.w) (fun p hp => by
    simp only [List.mem_cons, List.not_mem_nil, or_false] at hp
    rcases hp with rfl | rfl | rfl | rfl | rfl <;> first | rfl | exact y.nr)
  have hlt := (List.getElem?_eq_some_iff.mp hx).1
  have st := sto_lst (e := [some (.ref u.length), some (.int i), some (.int sd), some y.D, some agr]) (y := .ins 2 (FL2 (.int x.p.sum) (.int sd) y.D (.int now) (.int x.p.w))) (n := (i : Int)) (hB1 (u := u) (now := now) (ps := ps) (t := t)) (by rw [List.length_map]; omega)
  have se := hB_set1 (u := u) (now := now) (t := t) hx (y := { x with c := .laid sd y now }) rfl rfl
  rw [show (Ps.D { x with c := .laid sd y now }) = .ins 2 (FL2 (.int x.p.sum) (.int sd) y.D (.int now) (.int x.p.w)) from rfl] at se
  rw [Int.toNat_natCast, se] at st
  unfold bHd at hi
  rw [q31]
  generalize (.lst (ps.map fun x => x.p.D) : D) = K at *
  generalize (.lst (bRefs u.length ps.length) : D) = R at *
  generalize hB u now (ps.set i { x with c := .laid sd y now }) t = hh2 at *
  generalize hB u now ps t = hh at *
  generalize y.D = yD at *
  generalize x.D = xD at *
  by_cases c1 : x.c.isHeld = true
  · rw [c1] at ne
    by_cases c2 : agB x.p i sd yD agr = true
    · rw [c2] at ag
      rw [if_pos ⟨c1, c2⟩]
      generalize x.c.told = tD at *
      generalize x.p.D = pD at *
      simp_all! only [3, b31, hi, lo, is, de, fc, ic, fw, ys, tl, ne, ag, mk, st, fk, fn, ik, ip]
    · rw [if_neg fun z => c2 z.2]
      have c2' : agB x.p i sd yD agr = false := by simpa using c2
      rw [c2'] at ag
      generalize x.c.told = tD at *
      simp_all! only [3, b31, hi, lo, is, de, fc, ic, fw, ys, tl, ne, ag]
  · rw [if_neg fun z => c1 z.1]
    have c1' : x.c.isHeld = false := by simpa using c1
    rw [c1'] at ne
    generalize x.c.told = tD at *
    simp_all! only [3, b31, hi, lo, is, de, fc, ic, fw, ys, tl, ne, Bool.not_false]
/-! strikes -/
def skT (i sd n : Int) : D := .tup [.str "strike", .int i, .int sd, .int n]
def mayB (x : Ps) (i sd now : Int) (th : D) : Bool := match x.c with
  | .laid l y day => if ¬ sd = l ∧ now < day + x.p.w then eqB th (skT i l y.n) else false
  | _ => false
theorem strike_out (k : Nat) (hl : ps.length ≤ 3) {i sd : Int} {th : D} (hx : ¬ ((0 ≤ i ∧ i < ps.length) ∧ (0 ≤ sd ∧ sd ≤ 1))) : S (k + 3) 32 [.ref u.length, .int i, .int sd, th] (hB u now ps t) = .exc 6 [] (hB u now ps t) := by
  have V := bv_heap (u := u) (t := t) (now := now) hl
  have hi := insAt_ref (hB0 (u := u) (now := now) (ps := ps) (t := t))
  have lo := look_no (k := k) V hx
  unfold bHd at hi
  rw [q32]
  generalize (.lst (ps.map fun x => x.p.D) : D) = K at *
  generalize (.lst (bRefs u.length ps.length) : D) = R at *
  generalize hB u now ps t = hh at *
  simp_all! only [3, b32, hi, lo]
theorem e_strike (k : Nat) (hl : ps.length ≤ 3) {i : Nat} {x : Ps} (hx : ps[i]? = some x) {sd : Int} (hs : 0 ≤ sd ∧ sd ≤ 1) {th : D} (ht : pln 10 th = true) :
    S (k + 3) 32 [.ref u.length, .int i, .int sd, th] (hB u now ps t) = if mayB x i sd now th = true then .ok .non (hB u now (ps.set i { x with c := .taken sd }) t) else .exc 6 [] (hB u now ps t) := by
  have V := bv_heap (u := u) (t := t) (now := now) hl
  have hi := insAt_ref (hB0 (u := u) (now := now) (ps := ps) (t := t))
  have fc : fldD T.f "claims" (hB u now ps t) (.ref u.length) = some (.ref (u.length + 1)) := fldD_of hi (by decide +kernel) rfl
  have fn : fldD T.f "now" (hB u now ps t) (.ref u.length) = some (.int now) := fldD_of hi (by decide +kernel) rfl
  have ic : opIdx (hB u now ps t) (.ref (u.length + 1)) (.int i) = some x.D := by rw [idx_ref hB1]; exact at_map (f := Ps.D) hx
  have fw := whole_fld x (hB u now ps t)
  have lo := look_ok (k := k) V hx hs
  have mk := fun h => mk3 (k + 1) (h := h) (p0 := .int x.p.sum) (p1 := .int sd) (fun p hp => by
    simp only [List.mem_cons, List.not_mem_nil, or_false] at hp
    rcases hp with rfl | rfl <;> rfl)
  have hlt := (List.getElem?_eq_some_iff.mp hx).1
  have st := sto_lst (e := [some (.ref u.length), some (.int i), some (.int sd), some th]) (y := .ins 3 (FL3 (.int x.p.sum) (.int sd))) (n := (i : Int)) (hB1 (u := u) (now := now) (ps := ps) (t := t)) (by rw [List.length_map]; omega)
  have se := hB_set1 (u := u) (now := now) (t := t) hx (y := { x with c := .taken sd }) rfl rfl
  rw [show (Ps.D { x with c := .taken sd }) = .ins 3 (FL3 (.int x.p.sum) (.int sd)) from rfl] at se
  rw [Int.toNat_natCast, se] at st
  have ms : ∃ f, meS x.D ((M (k + 2)).me false [(0, 3, []), (1, 3, []), (2, 10, []), (3, 3, [])]) "may_strike" (hB u now ps t) = some (f, []) ∧ f [x.D, .int i, .int sd, .int now, th] (hB u now ps t) = .ok (.bl (mayB x i sd now th)) (hB u now ps t) := by
    obtain ⟨p, c, m⟩ := x
    cases c with
    | held =>
      refine ⟨S (k + 2) 3, rfl, ?_⟩
      rw [q3]
      simp_all! only [1, b3, mayB]
    | taken s =>
      refine ⟨S (k + 2) 3, rfl, ?_⟩
      rw [q3]
      simp_all! only [1, b3, mayB]
    | laid l y day =>
      refine ⟨S (k + 2) 10, rfl, ?_⟩
      have e0 := y.i0
      have e1 : ∀ h, cmpD .Eq h th (.tup [.str "strike", .int i, .int l, .int y.n]) = some (.bl (eqB th (skT i l y.n))) := fun h => eq_pln (pln_mono (by omega) ht) (by simp only [pln_non, pln_bl, pln_int, pln_str, pln_tupp, pln_lstt, plns_nil, plns_cons, Nat.reduceSub, Bool.and_true, Bool.true_and, Bool.and_self, Nat.reduceLT, Nat.zero_lt_succ, so0, so1, so2, so3, so4, so5, so6, so7, so8, so9, so10, so11, so12, so13, so14, so15, so16, so17, so18, so19, so20, so21, so22])
      show S (k + 2) 10 [.ins 2 (FL2 (.int p.sum) (.int l) y.D (.int day) (.int p.w)), .int i, .int sd, .int now, th] _ = _
      rw [q10]
      unfold mayB
      dsimp only
      generalize y.D = yD at *
      generalize hB u now ps t = hh at *
      by_cases c1 : sd = l
      · simp_all! only [3, b10, c1, false_and]
      · by_cases c2 : day + p.w ≤ now
        · have c3 : ¬ now < day + p.w := by omega
          rw [if_neg fun z => c3 z.2]
          simp_all! only [3, b10, c1, c2]
        · have c3 : now < day + p.w := by omega
          rw [if_pos ⟨c1, c3⟩]
          simp_all! only [3, b10, c1, c2, e0, e1]
  obtain ⟨f, ms1, ms2⟩ := ms
  have ml : meS (.ref u.length) ((M (k + 2)).me false [(8, 28, [])]) "look_for" (hB u now ps t) = some (S (k + 2) 28, []) := meS_of hi rfl rfl
  unfold bHd at hi
  rw [q32]
  generalize (.lst (ps.map fun x => x.p.D) : D) = K at *
  generalize (.lst (bRefs u.length ps.length) : D) = R at *
  generalize hB u now (ps.set i { x with c := .taken sd }) t = hh2 at *
  generalize hB u now ps t = hh at *
  generalize x.D = xD at *
  by_cases c1 : mayB x i sd now th = true
  · rw [if_pos c1]
    rw [c1] at ms2
    simp_all! only [5, b32, me_E, meD_some, ml, lo, fc, fn, ic, fw, ms1, ms2, mk, st]
  · rw [if_neg c1]
    have c1' : mayB x i sd now th = false := by simpa using c1
    rw [c1'] at ms2
    simp_all! only [5, b32, me_E, meD_some, ml, lo, fc, fn, ic, fw, ms1, ms2]
end
/-! a book is made -/
def potB : D → Bool
  | .tup [l, r, a, b, w] => inB 3 l && (inB 3 r && (!eqB l r && (inB 1000000000000 a && (inB 1000000000000 b && (inB 100 w && !inB 0 w)))))
  | _ => false
structure PtR (p : Pt) : Prop where
  l : 0 ≤ p.l ∧ p.l ≤ 3
  r : 0 ≤ p.r ∧ p.r ≤ 3
  ne : ¬ p.l = p.r
  a : 0 ≤ p.a ∧ p.a ≤ 1000000000000
  b : 0 ≤ p.b ∧ p.b ≤ 1000000000000
  w : 1 ≤ p.w ∧ p.w ≤ 100
theorem potB_of {p : Pt} (h : PtR p) : potB p.D = true := by
  have h1 := h.l
  have h2 := h.r
  have h3 := h.ne
  have h4 := h.a
  have h5 := h.b
  have h6 := h.w
  show (inB 3 (.int p.l) && (inB 3 (.int p.r) && (!decide (p.l = p.r) && (inB 1000000000000 (.int p.a) && (inB 1000000000000 (.int p.b) && (inB 100 (.int p.w) && !inB 0 (.int p.w))))))) = true
  simp only [inB, Bool.and_eq_true, Bool.not_eq_true', decide_eq_true_eq, decide_eq_false_iff_not, Bool.and_eq_false_iff]
  omega
theorem e_ispot {n : Nat} (k : Nat) (d : D) (h : Hh) (c : pln n d = true) (hn : n ≤ 20) : S (k + 2) 23 [d] h = .ok (.bl (potB d)) h := by
  rw [q23]
  cases d with
  | int i => simp_all! only [2, b23, is_tup_int, potB, Bool.not_false]
  | bl b => simp_all! only [2, b23, is_tup_bl, potB, Bool.not_false]
  | non => simp_all! only [2, b23, is_tup_non, potB, Bool.not_false]
  | str x => simp_all! only [2, b23, is_tup_str, potB, Bool.not_false]
  | lst l => simp_all! only [2, b23, is_tup_lst, potB, Bool.not_false]
  | dct l => unfold pln at c; cases c
  | ins _ _ => unfold pln at c; cases c
  | ref _ => unfold pln at c; cases c
  | scr _ => unfold pln at c; cases c
  | tup l =>
    cases n with
    | zero => unfold pln at c; cases c
    | succ n =>
      rw [pln_tup] at c
      have ne : ¬ l.length = 5 → S (k + 2) 23 [.tup l] h = .ok (.bl false) h := fun hl => by
        have hl2 : ¬ (l.length : Int) = 5 := by omega
        rw [q23]
        simp_all! only [2, b23, is_tup_tup, Bool.not_true, hl2] <;> rfl
      rw [← q23]
      rcases l with _ | ⟨l, _ | ⟨r, _ | ⟨a, _ | ⟨b, _ | ⟨w, _ | ⟨z, tl⟩⟩⟩⟩⟩⟩
      · exact ne (by simp)
      · exact ne (by simp)
      · exact ne (by simp)
      · exact ne (by simp)
      · exact ne (by simp)
      · simp only [plns, Bool.and_eq_true] at c
        obtain ⟨c1, c2, c3, c4, c5, _⟩ := c
        rw [q23]
        have i1 := fun k h => e_inb k l 3 h c1
        have i2 := fun k h => e_inb k r 3 h c2
        have i3 := fun k h => e_inb k a 1000000000000 h c3
        have i4 := fun k h => e_inb k b 1000000000000 h c4
        have i5 := fun k h => e_inb k w 100 h c5
        have eq : ∀ h, cmpD .Eq h l r = some (.bl (eqB l r)) := fun h => eq_pln (pln_mono (by omega) c1) (pln_mono (by omega) c2)
        have un : potB (.tup [l, r, a, b, w]) = (inB 3 l && (inB 3 r && (!eqB l r && (inB 1000000000000 a && (inB 1000000000000 b && (inB 100 w && !inB 0 w)))))) := rfl
        rw [un]
        have wz : inB 100 w = true → ∀ h, ∃ b, cmpD .Gt h w (.int 0) = some (.bl b) ∧ b = !inB 0 w := fun z h => by
          obtain ⟨i, rfl, i5, i6⟩ := inB_int z
          refine ⟨_, rfl, ?_⟩
          rw [Bool.eq_iff_iff]
          simp only [inB, Bool.not_eq_true', decide_eq_true_eq, Bool.and_eq_false_iff, decide_eq_false_iff_not]
          omega
        cases z1 : inB 3 l with
        | false => simp_all! only [2, b23, is_tup_tup, Bool.not_true, i1, z1, Bool.false_and] <;> rfl
        | true =>
        cases z2 : inB 3 r with
        | false => simp_all! only [2, b23, is_tup_tup, Bool.not_true, i1, i2, z1, z2, Bool.false_and, Bool.true_and] <;> rfl
        | true =>
        cases z3 : eqB l r with
        | true => simp_all! only [2, b23, is_tup_tup, Bool.not_true, i1, i2, z1, z2, eq, z3, Bool.false_and, Bool.true_and] <;> rfl
        | false =>
        cases z4 : inB 1000000000000 a with
        | false => simp_all! only [2, b23, is_tup_tup, Bool.not_true, i1, i2, i3, z1, z2, eq, z3, z4, Bool.false_and, Bool.true_and, Bool.not_false] <;> rfl
        | true =>
        cases z5 : inB 1000000000000 b with
        | false => simp_all! only [2, b23, is_tup_tup, Bool.not_true, i1, i2, i3, i4, z1, z2, eq, z3, z4, z5, Bool.false_and, Bool.true_and, Bool.not_false] <;> rfl
        | true =>
        cases z6 : inB 100 w with
        | false => simp_all! only [2, b23, is_tup_tup, Bool.not_true, i1, i2, i3, i4, i5, z1, z2, eq, z3, z4, z5, z6, Bool.false_and, Bool.true_and, Bool.not_false] <;> rfl
        | true =>
          obtain ⟨bb, w1, w2⟩ := wz z6 h
          subst w2
          simp_all! only [2, b23, is_tup_tup, Bool.not_true, i1, i2, i3, i4, i5, z1, z2, eq, z3, z4, z5, z6, w1, Bool.true_and, Bool.not_false] <;> rfl
      · rw [ne (by simp)]
        rfl
/-! a list, frozen or of the small heap -/
def IsL (h : Hh) (K : Sb.D) (l : List Sb.D) : Prop := K = .lst l ∨ ∃ j, K = .ref j ∧ h[j]? = some (.lst l)
section
variable {h : Hh} {K : Sb.D} {l : List Sb.D}
theorem IsL.app (I : IsL h K l) (t : Hh) : IsL (h ++ t) K l := by
  rcases I with e | ⟨j, e, q⟩
  · exact .inl e
  · exact .inr ⟨j, e, by rw [List.getElem?_append_left (List.getElem?_eq_some_iff.mp q).1]; exact q⟩
theorem IsL.asL (I : IsL h K l) : Sb.asL h K = some l := by
  rcases I with rfl | ⟨j, rfl, q⟩
  · rfl
  · exact asL_ref q
theorem IsL.asQ (I : IsL h K l) : Sb.asQ h K = some l := by
  rcases I with rfl | ⟨j, rfl, q⟩
  · rfl
  · exact asL_ref q
theorem IsL.seq (I : IsL h K l) (i : Nat) : seqAt K h i = some l[i]? := by
  unfold seqAt
  rw [I.asQ]
theorem IsL.lenQ (I : IsL h K l) : Sb.lenQ h K = l.length := by
  unfold Sb.lenQ
  rw [I.asQ]
theorem IsL.len (I : IsL h K l) : bLen h [K] = some (.int l.length) := by
  rcases I with rfl | ⟨j, rfl, q⟩
  · exact len_lst ..
  · exact len_ref q
theorem IsL.idx (I : IsL h K l) (n : Int) : opIdx h K (.int n) = atI l n := by
  rcases I with rfl | ⟨j, rfl, q⟩
  · exact idx_lst ..
  · exact idx_ref q n
theorem IsL.list (I : IsL h K l) : bList h [K] = some (.lst l) := by
  rcases I with rfl | ⟨j, rfl, q⟩
  · exact lst_lst ..
  · exact list_ref q
theorem IsL.forE (I : IsL h K l) (g : Tg) (b : FS) (e : En) : Sb.forE K g b e h = forS (enuAt K) g b l.length 0 e h := by
  unfold Sb.forE sFor iEnu
  rw [show dC K e h = .ok K h from rfl, rb_ok]
  simp only [I.asL]
  rfl
theorem IsL.compN (I : IsL h K l) (hl : l.length ≤ 16777216) (g : Tg) (t : F Bool) (f : F Sb.D) (vs : List Nat) (e : En) : compDN K g t f vs e h = endN (compS (seqAt K) g t f l.length 0 (wipeE e vs) h) := by
  unfold compDN dCompN iSeq
  rw [show dC K e h = .ok K h from rfl, rb_ok, if_pos (by rw [I.asQ]; rfl), rb_ok]
  simp only
  rw [I.lenQ, if_pos (show fits l.length = true from decide_eq_true hl)]
  cases compS (seqAt K) g t f l.length 0 (wipeE e vs) h with
  | none => rfl
  | some z => rfl
theorem IsL.comp (I : IsL h K l) (hl : l.length ≤ 16777216) (g : Tg) (t : F Bool) (f : F Sb.D) (vs : List Nat) (e : En) : compD K g t f vs e h = endC (compS (seqAt K) g t f l.length 0 (wipeE e vs) h) := by
  unfold compD dComp iSeq
  rw [show dC K e h = .ok K h from rfl, rb_ok, if_pos (by rw [I.asQ]; rfl), rb_ok]
  simp only
  rw [I.lenQ, if_pos (show fits l.length = true from decide_eq_true hl)]
  cases compS (seqAt K) g t f l.length 0 (wipeE e vs) h with
  | none => rfl
  | some z => rfl
end
theorem compS_keep {a : Hh → Nat → Option (Option Sb.D)} {α : Type} {l : List α} {φ ψ : α → Sb.D} {g : Tg} {f : F Sb.D} {e : En} {h : Hh} (ha : ∀ i, a h i = some (l.map φ)[i]?) (st : ∀ x ∈ l, ∃ e1, bindT g (φ x) e = some e1 ∧ f e1 h = .ok (ψ x) h) :
    ∀ (m n : Nat), n + m = l.length → compS a g bYes f m n e h = some ((l.drop n).map ψ, h)
  | m, n, hm => by
    have sq := ha n
    rw [List.getElem?_map] at sq
    cases m with
    | zero =>
      rw [List.getElem?_eq_none (by omega)] at sq
      unfold compS
      rw [sq, List.drop_eq_nil_of_le (by omega)]
      rfl
    | succ m =>
      have hl : n < l.length := by omega
      rw [List.getElem?_eq_getElem hl] at sq
      obtain ⟨e1, b, d⟩ := st l[n] (List.getElem_mem hl)
      have ih := compS_keep ha st m (n + 1) (by omega)
      unfold compS
      rw [sq, List.drop_eq_getElem_cons hl]
      simp only [Option.map_some, b, bYes, if_true, d]
      rw [ih]; rfl
theorem compS_dnw {a : Hh → Nat → Option (Option Sb.D)} {l : List Sb.D} {j : Nat} {e : En} {h : Hh} (ha : ∀ t i, a (h ++ t) i = some l[i]?) :
    ∀ (m n : Nat) (t : Hh), n + m = l.length → compS a (.nm j) bYes dDnw m n e (h ++ t) = some ((List.range m).map (fun i => Sb.D.ref ((h ++ t).length + i)), (h ++ t) ++ List.replicate m (.dct []))
  | 0, n, t, hm => by
    have sq := ha t n
    rw [List.getElem?_eq_none (by omega)] at sq
    unfold compS
    rw [sq]
    simp
  | m + 1, n, t, hm => by
    have sq := ha t n
    have hl : n < l.length := by omega
    rw [List.getElem?_eq_getElem hl] at sq
    have ih := compS_dnw (e := e) (j := j) ha m (n + 1) (t ++ [.dct []]) (by omega)
    rw [← List.append_assoc] at ih
    unfold compS
    rw [sq]
    show (match compS a (.nm j) bYes dDnw m (n + 1) e ((h ++ t) ++ [.dct []]) with | some (r, h3) => some (Sb.D.ref (h ++ t).length :: r, h3) | none => none) = _
    rw [ih]
    generalize h ++ t = H
    simp only [List.length_append, List.length_cons, List.length_nil, List.range_succ_eq_map, List.map_cons, List.map_map, Nat.zero_add, Nat.add_zero]
    refine congrArg some (Prod.ext ?_ ?_)
    · show _ :: _ = _ :: _
      congr 1
      refine List.map_congr_left fun i _ => ?_
      show Sb.D.ref (H.length + 1 + i) = Sb.D.ref (H.length + (i + 1))
      congr 1; omega
    · show (H ++ [O.dct []]) ++ List.replicate m (.dct []) = H ++ List.replicate (m + 1) (.dct [])
      rw [List.append_assoc, List.replicate_succ]; rfl
theorem forS_nil {a : Hh → Nat → Option (Option D)} {g : Tg} {b : FS} {m n : Nat} {e : En} {h : Hh} (q : a h n = some none) : forS a g b m n e h = .nx e h := by
  unfold forS
  cases m <;> rw [q]
theorem forS_cons {a : Hh → Nat → Option (Option D)} {g : Tg} {b : FS} {m n : Nat} {e e1 e2 : En} {h h2 : Hh} {d : D} (q : a h n = some (some d)) (bt : bindT g d e = some e1) (bo : b e1 h = .nx e2 h2) : forS a g b (m + 1) n e h = forS a g b m (n + 1) e2 h2 := by
  rw [forS.eq_def]
  simp only [q, bt, bo]
theorem forS_indA {a : Hh → Nat → Option (Option D)} {l : List D} {g : Tg} {b : FS} {I : Nat → En → Hh → Prop} (hI : ∀ n e h, I n e h → a h n = some l[n]?) (st : ∀ n d e h, l[n]? = some d → I n e h → ∃ e1, bindT g d e = some e1 ∧ ∃ e2 h2, b e1 h = .nx e2 h2 ∧ I (n + 1) e2 h2) :
    ∀ (m n : Nat) {e : En} {h : Hh}, n + m = l.length → I n e h → ∃ e' h', forS a g b m n e h = .nx e' h' ∧ I l.length e' h'
  | 0, n, e, h, hn, h0 => by
    have z := hI n e h h0
    rw [List.getElem?_eq_none (by omega)] at z
    exact ⟨e, h, forS_nil z, by rw [← hn]; exact h0⟩
  | m + 1, n, e, h, hn, h0 => by
    have hx : l[n]? = some l[n] := List.getElem?_eq_getElem (by omega)
    have z := hI n e h h0
    rw [hx] at z
    obtain ⟨e1, bt, e2, h2, bo, h1⟩ := st n _ e h hx h0
    obtain ⟨e', h', r, h9⟩ := forS_indA hI st m (n + 1) (by omega) h1
    exact ⟨e', h', (forS_cons z bt bo).trans r, h9⟩
def new0 (pts : List Pt) : List Ps := pts.map fun p => ⟨p, .held, []⟩
theorem e_mkBookR (k : Nat) {pts : List Pt} (hp : ∀ p ∈ pts, PtR p) (hl : pts.length ≤ 3) {h : Hh} {K : D} (I : IsL h K (pts.map Pt.D)) : mkC 8 (S (k + 3) 24) [] [K] h = .ok (.ref h.length) (hB h 0 (new0 pts) []) := by
  have gA : ∀ (o : O) (t : Hh), (h ++ o :: t)[h.length]? = some o := fun o t => by rw [List.getElem?_append_right (Nat.le_refl _), Nat.sub_self]; rfl
  have sA : ∀ (o o' : O) (t : Hh), (h ++ o :: t).set h.length o' = h ++ o' :: t := fun o o' t => by rw [List.set_append_right _ _ (Nat.le_refl _), Nat.sub_self]; rfl
  have lA : ∀ (o : O), (h ++ [o]).length = h.length + 1 := fun o => by simp
  have hi : ∀ (fs : List (Str × D)) (t : Hh), insAt (h ++ O.ins 8 fs :: t) (.ref h.length) = some (8, fs) := fun fs t => insAt_ref (gA _ _)
  have lp : ∀ t, forE K (.tp [.nm 2, .nm 3]) (evB (M (k + 2)) none b24_2) [some (.ref h.length), some K, none, none] (h ++ t) = .nx [some (.ref h.length), some K, none, none] (h ++ t) := fun t => by
    rw [(I.app t).forE]
    have ha : ∀ n, enuAt K (h ++ t) n = some (enuL (pts.map Pt.D))[n]? := fun n => by
      unfold enuAt enuL
      rw [(I.app t).asL, List.getElem?_mapIdx]
    obtain ⟨e', h', q, rfl, rfl⟩ := forS_indA (a := enuAt K) (g := .tp [.nm 2, .nm 3]) (b := evB (M (k + 2)) none b24_2) (l := enuL (pts.map Pt.D)) (I := fun i e h' => e = [some (.ref h.length), some K, none, none] ∧ h' = h ++ t) (fun n e h' ⟨_, hh'⟩ => by rw [hh']; exact ha n) (fun i d e h' hd ⟨he, hh'⟩ => by
      subst he
      subst hh'
      unfold enuL at hd
      rw [List.getElem?_mapIdx, List.getElem?_map] at hd
      have hi : i < pts.length := by
        by_cases c : i < pts.length
        · exact c
        · rw [List.getElem?_eq_none (by omega)] at hd; cases hd
      rw [List.getElem?_eq_getElem hi] at hd
      obtain rfl := Option.some.inj hd
      have ip := fun h => e_ispot (n := 1) k pts[i].D h rfl (by omega)
      rw [potB_of (hp _ (List.getElem_mem hi))] at ip
      generalize pts[i].D = pD at *
      refine ⟨_, rfl, _, _, ?_, rfl, rfl⟩
      have hi3 : ¬ (3 : Int) ≤ (i : Int) := by omega
      simp_all! only [1, b24_2, ip, hi3]) (pts.map Pt.D).length 0 (e := [some (.ref h.length), some K, none, none]) (h := h ++ t) (by unfold enuL; rw [List.length_mapIdx, Nat.zero_add]) ⟨rfl, rfl⟩
    exact q
  have ln : (pts.map Pt.D).length ≤ 16777216 := by rw [List.length_map]; omega
  have cm : ∀ t, compDN K (.nm 3) bYes (evE (M (k + 2)) none x24_1) [3] [some (.ref h.length), some K, none, none] (h ++ t) = .ok (.ref (h ++ t).length) (h ++ t ++ [.lst (pts.map fun p => Cl.held.D p)]) := fun t => by
    rw [(I.app t).compN ln]
    have mk := fun (w : Int) (h : Hh) => mk1 (k + 1) (p0 := .int w) (h := h) (fun p hp => by rw [List.mem_singleton] at hp; subst hp; rfl)
    have z := compS_keep (a := seqAt K) (g := .nm 3) (f := evE (M (k + 2)) none x24_1) (e := [some (.ref h.length), some K, none, none]) (h := h ++ t) (φ := Pt.D) (ψ := fun p => Cl.held.D p) (l := pts) (fun i => (I.app t).seq i) (fun p hp => ⟨_, rfl, by
      simp_all! only [1, x24_1, mk, Pt.D, Cl.D, Pt.sum]⟩) pts.length 0 (Nat.zero_add _)
    rw [show wipeE [some (.ref h.length), some K, none, none] [3] = [some (.ref h.length), some K, none, none] from rfl, List.length_map, z, List.drop_zero]
    rfl
  have c0 : ∀ t, compD K (.nm 3) bYes dDnw [3] [some (.ref h.length), some K, none, none] (h ++ t) = .ok (.lst ((List.range pts.length).map fun i => .ref ((h ++ t).length + i))) (h ++ t ++ List.replicate pts.length (.dct [])) := fun t => by
    rw [(I.app t).comp ln]
    have z := compS_dnw (a := seqAt K) (l := pts.map Pt.D) (j := 3) (e := [some (.ref h.length), some K, none, none]) (h := h) (fun t i => (I.app t).seq i) (pts.map Pt.D).length 0 t (Nat.zero_add _)
    rw [show wipeE [some (.ref h.length), some K, none, none] [3] = [some (.ref h.length), some K, none, none] from rfl, z, List.length_map]
    rfl
  have bl : ∀ t, bList (h ++ t) [K] = some (.lst (pts.map Pt.D)) := fun t => (I.app t).list
  have res : hB h 0 (new0 pts) [] = h ++ [O.ins 8 (FL8 (.lst (pts.map Pt.D)) (.int 0) (.ref (h.length + 1)) (.lst ((List.range pts.length).map fun i => .ref (h.length + 2 + i)))), .lst (pts.map fun p => Cl.held.D p)] ++ List.replicate pts.length (.dct []) := by
    unfold hB new0 bHd bRefs
    simp only [List.map_map, List.length_map, List.append_nil, List.cons_append, List.nil_append, List.append_assoc]
    congr 4
    rw [List.eq_replicate_iff]
    refine ⟨by simp, fun b hb => ?_⟩
    obtain ⟨p, _, rfl⟩ := List.mem_map.mp hb
    rfl
  rw [res]
  unfold mkC
  simp only [List.cons_append, List.nil_append, List.append_nil]
  rw [q24]
  generalize pts.map Pt.D = pl at *
  generalize (pts.map fun p => Cl.held.D p) = cl at *
  simp_all! only [6, b24, gA, sA, lp, hi, bl, evQ, cm, c0, comp_seqN, x24_0, lA, and_self, Nat.reduceLT, List.append_assoc, FL8, List.length_append, Nat.reduceAdd]
theorem hB_app {u t s : Hh} {now : Int} {ps : List Ps} : hB u now ps t ++ s = hB u now ps (t ++ s) := by
  unfold hB
  simp only [List.append_assoc, List.cons_append]
def n60 : List Int := (List.range 60).map fun i : Nat => (i : Int)
theorem n60_nd : n60.Nodup := List.Pairwise.map (fun i : Nat => (i : Int)) (fun a b (h : a ≠ b) => by omega) List.nodup_range
/-! what a look reads of the book -/
section
variable {u t : Hh} {now : Int} {bs : List Ps}
theorem e_shforN (k : Nat) (hl : bs.length ≤ 3) {i : Nat} {x : Ps} (hx : bs[i]? = some x) : S (k + 3) 34 [.ref u.length, .int i] (hB u now bs t) = .ok (.ref (hB u now bs t).length) (hB u now bs (t ++ [.dct (x.m.map shK)])) := by
  have V := bv_heap (u := u) (t := t) (now := now) hl
  have hi := insAt_ref (hB0 (u := u) (now := now) (ps := bs) (t := t))
  have fs : fldD T.f "shows" (hB u now bs t) (.ref u.length) = some (.lst (bRefs u.length bs.length)) := fldD_of hi (by decide +kernel) rfl
  have lo := look_ok (k := k) V hx (sd := 0) (by omega)
  have ix : opIdx (hB u now bs t) (.lst (bRefs u.length bs.length)) (.int i) = some (.ref (u.length + 2 + i)) := by rw [idx_lst]; exact bRefs_at (List.getElem?_eq_some_iff.mp hx).1
  have nd := nDict_ref (hB2 (u := u) (now := now) (t := t) hx)
  rw [hB_app] at nd
  rw [q34]
  unfold bHd at hi
  generalize (.lst (bs.map fun x => x.p.D) : D) = K at *
  generalize (.lst (bRefs u.length bs.length) : D) = R at *
  generalize hB u now bs t = hh at *
  simp_all! only [3, b34, hi, fs, lo, ix, dBn, BN.op, nd]
def shownB (bs : List Ps) (w : Int) : Bool := bs.any fun x => (getM x.m w).isSome
def allSh (bs : List Ps) : List Int := n60.filter (shownB bs)
theorem in_shk {h : Hh} {j : Nat} {m : List (Int × Int)} (e : h[j]? = some (.dct (m.map shK))) (w : Int) : cmpD .In h (.int w) (.ref j) = some (.bl (getM m w).isSome) := by
  show (inD h (.int w) (.ref j)).map D.bl = _
  unfold inD
  simp only [asK_refK e, keyD, val_sh]
  cases getM m w <;> rfl
theorem bls_bl : ∀ l : List Bool, blsD (l.map D.bl) = some l
  | [] => rfl
  | b :: l => by
    show (blsD (l.map D.bl)).map (b :: ·) = _
    rw [bls_bl l]; rfl
theorem any_bl (h : Hh) (l : List Bool) : bAny h [.lst (l.map .bl)] = some (.bl (l.any id)) := by
  show ((asL h (.lst (l.map D.bl))).bind blsD).map (fun ns => D.bl (ns.any id)) = _
  show (blsD (l.map D.bl)).map (fun ns => D.bl (ns.any id)) = _
  rw [bls_bl]; rfl
theorem range_map {α : Type} {l : List α} {f : Nat → D} {g : α → D} (e : ∀ (j : Nat) (x : α), l[j]? = some x → f j = g x) : (List.range l.length).map f = l.map g := by
  apply List.ext_getElem?
  intro j
  rw [List.getElem?_map, List.getElem?_map]
  by_cases c : j < l.length
  · have hx : l[j]? = some l[j] := List.getElem?_eq_getElem c
    rw [List.getElem?_range c, hx, Option.map_some, Option.map_some, e j _ hx]
  · rw [List.getElem?_eq_none (by rw [List.length_range]; omega), List.getElem?_eq_none (by omega)]; rfl
theorem e_allshN (k : Nat) (hl : bs.length ≤ 3) : S (k + 1) 38 [.ref u.length] (hB u now bs t) = .ok (.ref (hB u now bs t).length) (hB u now bs t ++ [.lst ((allSh bs).map .int)]) := by
  have hi := insAt_ref (hB0 (u := u) (now := now) (ps := bs) (t := t))
  have fs : fldD T.f "shows" (hB u now bs t) (.ref u.length) = some (.lst (bRefs u.length bs.length)) := fldD_of hi (by decide +kernel) rfl
  have ci : ∀ (w : Int) (x0 x2 : Option D), compL (.nm 2) bYes (evE (M k) none x38_0) (bRefs u.length bs.length) [x0, some (.int w), x2] (hB u now bs t) = some ((bs.map fun x => (getM x.m w).isSome).map D.bl, hB u now bs t) := fun w x0 x2 => by
    have z := compL_ints (g := .nm 2) (t := bYes) (f := evE (M k) none x38_0) (e := [x0, some (.int w), x2]) (h := hB u now bs t) (φ := fun j : Nat => D.ref (u.length + 2 + j)) (ψ := fun j : Nat => D.bl (match bs[j]? with | some x => (getM x.m w).isSome | none => false)) (l := List.range bs.length) (fun j hj => by
      have hj2 := List.mem_range.mp hj
      have hx : bs[j]? = some bs[j] := List.getElem?_eq_getElem hj2
      refine ⟨_, rfl, rfl, ?_⟩
      have ii := in_shk (hB2 (u := u) (now := now) (t := t) hx) w
      rw [hx]
      dsimp only
      generalize hB u now bs t = hh at *
      simp_all! only [1, x38_0, ii])
    rw [show bRefs u.length bs.length = (List.range bs.length).map fun j : Nat => D.ref (u.length + 2 + j) from rfl, z]
    congr 2
    rw [List.map_map]
    exact range_map fun j x hx => by rw [hx]; rfl
  have lb : (bRefs u.length bs.length).length ≤ 3 := by unfold bRefs; rw [List.length_map, List.length_range]; exact hl
  have an := fun (w : Int) (h : Hh) => any_bl h (bs.map fun x => (getM x.m w).isSome)
  have co : ∀ (x1 x2 : Option D), compL (.nm 1) (evQ (M k) none (.so (.val (.bif .any (.cons (.com x38_0 (.nm 2) (.seq (.fld (.var 0) "shows")) .no [("shown", 2)]) .nil))))) (evE (M k) none x38_1) (rngL 0 60) [some (.ref u.length), x1, x2] (hB u now bs t) = some ((allSh bs).map D.int, hB u now bs t) := fun x1 x2 => by
    have er : rngL 0 60 = n60.map D.int := by rfl
    rw [er]
    refine compL_filter (φ := D.int) (ψ := D.int) (p := shownB bs) (fun w hw => ⟨_, rfl, ?_, ?_⟩)
    · have c1 := ci w
      have a1 := an w
      have sb : (bs.map fun x => (getM x.m w).isSome).any id = shownB bs w := by unfold shownB; rw [List.any_map]; rfl
      rw [sb] at a1
      generalize (bs.map fun x => (getM x.m w).isSome).map D.bl = bl at *
      generalize bRefs u.length bs.length = br at *
      generalize hB u now bs t = hh at *
      simp_all! only [3, hi, fs, c1, a1, asB]
    · generalize hB u now bs t = hh at *
      simp_all! only [1, x38_1]
  simp only [evQ, evT, evE, evL, evO, evS, dFld, Cst.d, Sm.f, List.map_cons, List.map_nil, binF, binD, Option.getD_some, Bool.false_eq_true, if_false, BF.op] at co
  rw [q38]
  generalize hB u now bs t = hh at *
  simp_all! only [1, b38, co, comp_r1N, compR1N_int, endN_some]
end
/-! the model that the law keeps -/
theorem hB_len (u : Hh) (now : Int) (bs : List Ps) (t : Hh) : (hB u now bs t).length = u.length + 2 + bs.length + t.length := by
  unfold hB
  rw [List.length_append, List.length_cons, List.length_cons, List.length_append, List.length_map]
  omega
theorem hB_at {u X : Hh} {now : Int} {ps : List Ps} (j : Nat) : (hB u now ps X)[u.length + 2 + ps.length + j]? = X[j]? := by
  have z := hB3 (u := u) (now := now) (ps := ps) (t := X) (i := ps.length + j) (by omega)
  rw [show u.length + 2 + (ps.length + j) = u.length + 2 + ps.length + j by omega] at z
  rw [z]; congr 1; omega
theorem hB_setX {u X : Hh} {now : Int} {ps : List Ps} (j : Nat) (o : Sb.O) : (hB u now ps X).set (u.length + 2 + ps.length + j) o = hB u now ps (X.set j o) := by
  have hl : (hB u now ps []).length = u.length + 2 + ps.length := by rw [hB_len]; rfl
  rw [show hB u now ps X = hB u now ps [] ++ X by rw [hB_app]; rfl, List.set_append_right _ _ (by omega), hl, show u.length + 2 + ps.length + j - (u.length + 2 + ps.length) = j by omega, hB_app]; rfl
def MD (b : Nat) (K : Sb.D) (now : Int) (n : Nat) : List (Key × Sb.D) := [(.inr "pots", K), (.inr "day", .int now), (.inr "claims", .ref (b + 1)), (.inr "shows", .ref (b + 2 + n))]
def mRefs (b n : Nat) : List Sb.D := (List.range n).map fun j => .ref (b + 2 + j)
def mT (b : Nat) (K : Sb.D) (now : Int) (ps : List Ps) (t : Hh) : Hh := .dct (MD b K now ps.length) :: .lst (ps.map fun x => x.c.told) :: (ps.map (fun x => .dct (x.m.map shK)) ++ (.lst (mRefs b ps.length) :: t))
section
variable {b : Nat} {K : Sb.D} {now : Int} {ps : List Ps} {t : Hh}
theorem mT2 {i : Nat} {x : Ps} (hx : ps[i]? = some x) : (mT b K now ps t)[2 + i]? = some (.dct (x.m.map shK)) := by
  have hl := (List.getElem?_eq_some_iff.mp hx).1
  unfold mT
  rw [show 2 + i = i + 1 + 1 by omega, List.getElem?_cons_succ, List.getElem?_cons_succ, List.getElem?_append_left (by rw [List.length_map]; exact hl), List.getElem?_map, hx]; rfl
theorem mT3 : (mT b K now ps t)[2 + ps.length]? = some (.lst (mRefs b ps.length)) := by
  unfold mT
  rw [show 2 + ps.length = ps.length + 1 + 1 by omega, List.getElem?_cons_succ, List.getElem?_cons_succ, List.getElem?_append_right (by rw [List.length_map]; omega), List.length_map, Nat.sub_self]; rfl
theorem mT_app (s : Hh) : mT b K now ps t ++ s = mT b K now ps (t ++ s) := by
  unfold mT
  simp only [List.append_assoc, List.cons_append]
theorem mT_len : (mT b K now ps t).length = 3 + ps.length + t.length := by
  unfold mT
  simp only [List.length_cons, List.length_append, List.length_map]
  omega
theorem mT_set2 {i : Nat} {x : Ps} (hx : ps[i]? = some x) (m : List (Int × Int)) : (mT b K now ps t).set (2 + i) (.dct (m.map shK)) = mT b K now (ps.set i { x with m := m }) t := by
  have hl := (List.getElem?_eq_some_iff.mp hx).1
  have e2 : (ps.set i { x with m := m }).map (fun x => x.c.told) = ps.map fun x => x.c.told := by
    rw [List.map_set]
    apply List.ext_getElem?
    intro j
    rw [List.getElem?_set]
    split
    · rename_i c; subst c
      rw [List.getElem?_map, hx, List.length_map, if_pos hl]; rfl
    · rfl
  unfold mT
  rw [show 2 + i = i + 1 + 1 by omega, e2, List.length_set, List.map_set, List.set_cons_succ, List.set_cons_succ, List.set_append_left _ _ (by rw [List.length_map]; exact hl)]
theorem mT_set1 {i : Nat} {x y : Ps} (hx : ps[i]? = some x) (hm : y.m = x.m) : (mT b K now ps t).set 1 (.lst ((ps.map fun x => x.c.told).set i y.c.told)) = mT b K now (ps.set i y) t := by
  have hl := (List.getElem?_eq_some_iff.mp hx).1
  have e2 : (ps.set i y).map (fun x => O.dct (x.m.map shK)) = ps.map fun x => .dct (x.m.map shK) := by
    rw [List.map_set]
    apply List.ext_getElem?
    intro j
    rw [List.getElem?_set]
    split
    · rename_i c; subst c
      rw [List.getElem?_map, hx, List.length_map, if_pos hl, hm]; rfl
    · rfl
  unfold mT
  rw [e2, List.length_set, List.map_set]; rfl
theorem mT_set0 (d : Int) : (mT b K now ps t).set 0 (.dct (MD b K d ps.length)) = mT b K d ps t := rfl
end
/-- what is read of the model -/
structure MV (h : Hh) (b : Nat) (K : Sb.D) (pts : List Pt) (now : Int) (ps : List Ps) : Prop where
  pots : opIdx h (.ref b) (.str "pots") = some K
  day : opIdx h (.ref b) (.str "day") = some (.int now)
  claims : opIdx h (.ref b) (.str "claims") = some (.ref (b + 1))
  shows : opIdx h (.ref b) (.str "shows") = some (.ref (b + 2 + ps.length))
  len : bLen h [K] = some (.int ps.length)
  pot : ∀ {i : Nat} {x : Ps}, ps[i]? = some x → opIdx h K (.int i) = some x.p.D
  claim : ∀ {i : Nat} {x : Ps}, ps[i]? = some x → opIdx h (.ref (b + 1)) (.int i) = some x.c.told
  shw : ∀ {i : Nat} {x : Ps}, ps[i]? = some x → opIdx h (.ref (b + 2 + ps.length)) (.int i) = some (.ref (b + 2 + i))
  at0 : h[b]? = some (.dct (MD b K now ps.length))
  at1 : h[b + 1]? = some (.lst (ps.map fun x => x.c.told))
  at2 : ∀ {i : Nat} {x : Ps}, ps[i]? = some x → h[b + 2 + i]? = some (.dct (x.m.map shK))
theorem mv_of {u t : Hh} {nb now : Int} {bs ps : List Ps} {K : Sb.D} (hK : IsL u K (ps.map fun x => x.p.D)) (hl : bs.length = ps.length) : MV (hB u nb bs (mT (u.length + 2 + bs.length) K now ps t)) (u.length + 2 + bs.length) K (ps.map Ps.p) now ps := by
  have a0 : (hB u nb bs (mT (u.length + 2 + bs.length) K now ps t))[u.length + 2 + bs.length]? = some (.dct (MD (u.length + 2 + bs.length) K now ps.length)) := hB_at 0
  have a1 : (hB u nb bs (mT (u.length + 2 + bs.length) K now ps t))[u.length + 2 + bs.length + 1]? = some (.lst (ps.map fun x => x.c.told)) := hB_at 1
  have a2 : ∀ {i : Nat} {x : Ps}, ps[i]? = some x → (hB u nb bs (mT (u.length + 2 + bs.length) K now ps t))[u.length + 2 + bs.length + 2 + i]? = some (.dct (x.m.map shK)) := fun {i x} hx => by
    have z := hB_at (u := u) (now := nb) (ps := bs) (X := mT (u.length + 2 + bs.length) K now ps t) (2 + i)
    rw [mT2 hx] at z
    rw [Nat.add_assoc (u.length + 2 + bs.length) 2 i]; exact z
  have a3 : (hB u nb bs (mT (u.length + 2 + bs.length) K now ps t))[u.length + 2 + bs.length + 2 + ps.length]? = some (.lst (mRefs (u.length + 2 + bs.length) ps.length)) := by
    have z := hB_at (u := u) (now := nb) (ps := bs) (X := mT (u.length + 2 + bs.length) K now ps t) (2 + ps.length)
    rw [mT3] at z
    rw [Nat.add_assoc (u.length + 2 + bs.length) 2 ps.length]; exact z
  have ix : ∀ s : Str, opIdx (hB u nb bs (mT (u.length + 2 + bs.length) K now ps t)) (.ref (u.length + 2 + bs.length)) (.str s) = valD (MD (u.length + 2 + bs.length) K now ps.length) (.inr s) := fun s => by
    unfold opIdx
    simp only [asK_refK a0]
    rfl
  have hK2 : IsL (hB u nb bs (mT (u.length + 2 + bs.length) K now ps t)) K (ps.map fun x => x.p.D) := by
    unfold hB
    exact hK.app _
  exact ⟨(ix _).trans rfl, (ix _).trans rfl, (ix _).trans rfl, (ix _).trans rfl, by rw [hK2.len, List.length_map], fun {i x} hx => by rw [hK2.idx]; exact at_map (f := fun x : Ps => x.p.D) hx, fun {i x} hx => by rw [idx_ref a1]; exact at_map (f := fun x : Ps => x.c.told) hx, fun {i x} hx => by
    rw [idx_ref a3]
    unfold mRefs
    rw [at_map (x := i) (by rw [List.getElem?_range (List.getElem?_eq_some_iff.mp hx).1])], a0, a1, a2⟩
/-! a stand that is handed in -/
inductive On where
  | sd (y : Sd) | bad (d : Sb.D)
def On.D : On → Sb.D
  | .sd y => y.D
  | .bad d => d
def On.wf : On → Prop
  | .sd y => y.ok
  | .bad d => pln 8 d = true ∧ standB d = false ∧ ∀ k h W, S (k + 1) 45 [d, .int W] h = .ok (.bl false) h
def On.good (W : Int) : On → Bool
  | .sd y => decide (y.sum = W)
  | .bad _ => false
theorem On.pln {o : On} (w : o.wf) : Sb.pln 8 o.D = true := by
  cases o with
  | sd y => exact y.pln 8 (by omega)
  | bad d => exact w.1
theorem e_lisst (k : Nat) {o : On} (w : o.wf) (W : Int) (h : Hh) : S (k + 1) 45 [o.D, .int W] h = .ok (.bl (o.good W)) h := by
  cases o with
  | bad d => exact w.2.2 k h W
  | sd x =>
    have w' : x.ok := w
    have s0 := w'.2.1
    have hl := w'.2.2.1
    have e1 := x.i1
    have e2 := x.i2
    have c := compL_ints (g := .nm 2) (t := bYes) (f := evE (M k) none x45_0) (e := [some x.D, some (.int W), none]) (h := h) (φ := Ti.D) (ψ := fun t => .int t.a) (l := x.ts) (fun t _ => ⟨_, rfl, rfl, by simp_all! only [1, x45_0, Ti.D]⟩)
    have s1 : ∀ h, bSum h [.tup [.int x.s.1, .int x.s.2]] = some (.int (x.s.1 + x.s.2)) := fun h => by
      have z := sum_tupI (h := h) (l := [x.s.1, x.s.2])
      rw [show ([Sb.D.int x.s.1, .int x.s.2] : List Sb.D) = [x.s.1, x.s.2].map .int from rfl, z]
      simp
    have s2 : ∀ h, bSum h [.lst (x.ts.map fun t => .int t.a)] = some (.int (amt x.ts)) := fun h => by
      have z := sum_lst (h := h) (l := x.ts.map Ti.a)
      rw [List.map_map] at z
      exact z
    have mn : ∀ h, bMin h [.tup [.int x.s.1, .int x.s.2]] = some (.int (if x.s.2 < x.s.1 then x.s.2 else x.s.1)) := fun h => rfl
    have tp : ∀ h, isiD .tup h x.D = some (.bl true) := fun h => rfl
    have ln : ∀ h, bLen h [x.D] = some (.int 3) := fun h => rfl
    have m0 : ¬ (if x.s.2 < x.s.1 then x.s.2 else x.s.1) < 0 := by omega
    rw [q45]
    have hl2 : (x.ts.map Ti.D).length ≤ 16777216 := by rw [List.length_map]; omega
    show _ = R.ok (Sb.D.bl (decide (x.sum = W))) h
    show outB (evB (M k) none b45 [some x.D, some (.int W), none] h) = _
    generalize x.ts.map Ti.D = tl at *
    generalize (x.ts.map fun t => Sb.D.int t.a) = al at *
    unfold Sd.sum
    generalize x.D = xd at *
    simp_all! only [1, b45, e1, e2, c, s1, s2, evQ, mn, tp, ln, m0]
/-! the deeds that the law draws -/
inductive Dd where
  | day | shw (i w : Int) | stk (i sd : Int) (th : Sb.D) | lay (i sd : Int) (o : On) (agr : Sb.D)
def Dd.D : Dd → Sb.D
  | .day => .tup [.str "day"]
  | .shw i w => .tup [.str "show", .int i, .int w]
  | .stk i sd th => .tup [.str "strike", .int i, .int sd, th]
  | .lay i sd o agr => .tup [.str "lay", .int i, .int sd, o.D, agr]
def Dd.wf : Dd → Prop
  | .day => True
  | .shw _ _ => True
  | .stk _ _ th => pln 10 th = true
  | .lay _ _ o agr => o.wf ∧ pln 10 agr = true
theorem prod_rng {a b m : Int} (ha : 0 ≤ a ∧ a ≤ m) (hb : 0 ≤ b ∧ b ≤ 1) : 0 ≤ a * b ∧ a * b ≤ m := by
  have : b = 0 ∨ b = 1 := by omega
  rcases this with rfl | rfl
  · rw [Int.mul_zero]; omega
  · rw [Int.mul_one]; omega
theorem pk_int {l : List Int} {i : Int} (h : 0 ≤ i ∧ i < l.length) : ∃ x, atI (l.map Sb.D.int) i = some (.int x) := ⟨_, atI_pick h.1 h.2⟩
theorem pk_all {l : List Sb.D} {P : Sb.D → Prop} {i : Int} (h : 0 ≤ i ∧ i < l.length) (a : ∀ x ∈ l, P x) : ∃ x, atI l i = some x ∧ P x := by
  obtain ⟨x, hx, e⟩ := atI_mem h
  exact ⟨x, e, a x hx⟩
structure PtT (p : Pt) : Prop where
  l : p.l = 0 ∨ p.l = 1
  r : p.r = 2 ∨ p.r = 3
  a : 0 ≤ p.a ∧ p.a ≤ 40
  b : 0 ≤ p.b ∧ p.b ≤ 20
  w : 1 ≤ p.w ∧ p.w ≤ 6
section
variable {h : Hh} {b : Nat} {K : Sb.D} {pts : List Pt} {now : Int} {ps : List Ps}
theorem e_laid (k : Nat) (V : MV h b K pts now ps) (l1 : 1 ≤ ps.length) (l3 : ps.length ≤ 3) (po : ∀ x ∈ ps, PtT x.p) (c : Int) : ∃ d : Dd, S (k + 8) 42 [.ref b, .int c] h = .ok d.D h ∧ d.wf := by
  have i0 := Int.emod_nonneg (c / 5) (show (ps.length : Int) ≠ 0 by omega)
  have i1 := Int.emod_lt_of_pos (c / 5) (show (0 : Int) < ps.length by omega)
  obtain ⟨i, hi⟩ : ∃ i : Nat, c / 5 % (ps.length : Int) = i := ⟨(c / 5 % (ps.length : Int)).toNat, by omega⟩
  have il : i < ps.length := by omega
  have hx : ps[i]? = some ps[i] := List.getElem?_eq_getElem il
  have PT := po ps[i] (List.getElem_mem il)
  have pt := V.pot hx
  generalize ps[i] = x at *
  have pa := PT.a
  have pb := PT.b
  have p2 : ∀ h, opIdx h x.p.D (.int 2) = some (.int x.p.a) := fun h => rfl
  have p3 : ∀ h, opIdx h x.p.D (.int 3) = some (.int x.p.b) := fun h => rfl
  obtain ⟨n, s, ts, ⟨h', q0⟩, I⟩ := e_small (c / 30) (x.p.a + x.p.b) (by omega) (k + 5)
  have z1 : ∀ h, pureC (S (k + 7) 41) [.int (c / 30), .int (x.p.a + x.p.b)] h = .ok (Sd.mk n s ts).D h := fun h => pure_pln (n := 1) (m := 4) rfl q0 (pln_st n s ts 1)
  obtain ⟨n2, s2, ts2, ⟨h2', q2⟩, I2⟩ := e_small (c / 30) (x.p.a + x.p.b + 1) (by omega) (k + 5)
  have z2 : ∀ h, pureC (S (k + 7) 41) [.int (c / 30), .int (x.p.a + x.p.b + 1)] h = .ok (Sd.mk n2 s2 ts2).D h := fun h => pure_pln (n := 1) (m := 4) rfl q2 (pln_st n2 s2 ts2 1)
  have yo := (I.ok' (by omega)).1
  have yo2 := (I2.ok' (by omega)).1
  generalize (Sd.mk n s ts) = y at *
  generalize (Sd.mk n2 s2 ts2) = y2 at *
  clear I I2 q0 q2
  have fo : (Sd.mk 0 (x.p.a, x.p.b) []).ok := ⟨⟨Int.le_refl 0, by show (0 : Int) ≤ 1000000; omega⟩, ⟨⟨by dsimp only; omega, by dsimp only; omega⟩, by dsimp only; omega, by dsimp only; omega⟩, by simp, by simp, by simp⟩
  obtain ⟨d1, o1, w1⟩ := pk_all (l := [.tup [.int 0, .tup [.int x.p.a, .int x.p.b], .tup []], y.D, y.D, y2.D]) (i := c / 30 % 4) (P := fun d => ∃ o : On, d = o.D ∧ o.wf) (by simp only [List.length_cons, List.length_nil]; omega) (fun d hd => by
    simp only [List.mem_cons, List.not_mem_nil, or_false] at hd
    rcases hd with rfl | rfl | rfl | rfl
    · exact ⟨.sd ⟨0, (x.p.a, x.p.b), []⟩, rfl, fo⟩
    · exact ⟨.sd y, rfl, yo⟩
    · exact ⟨.sd y, rfl, yo⟩
    · exact ⟨.sd y2, rfl, yo2⟩)
  obtain ⟨d2, o2, w2⟩ := pk_all (l := [.non, .tup [.int 1, .tup [.int (x.p.a + x.p.b), .int 0]], .tup [.int 1, .tup [.int (x.p.a + x.p.b), .int (-1)], .tup [.tup [.int 0, .int 1, .int 1, .int 1]]], .lst [.int 0, .tup [.int x.p.a, .int x.p.b], .tup []]]) (i := c / 510 % 4) (P := fun d => ∃ o : On, d = o.D ∧ o.wf) (by simp only [List.length_cons, List.length_nil]; omega) (fun d hd => by
    simp only [List.mem_cons, List.not_mem_nil, or_false] at hd
    rcases hd with rfl | rfl | rfl | rfl
    · refine ⟨.bad _, rfl, rfl, rfl, fun k h W => ?_⟩
      rw [q45]
      simp_all! only [1, b45, is_tup_non, Bool.not_false]
    · refine ⟨.bad _, rfl, rfl, rfl, fun k h W => ?_⟩
      rw [q45]
      simp_all! only [1, b45, is_tup_tup, Bool.not_true]
    · refine ⟨.bad _, rfl, rfl, ?_, fun k h W => ?_⟩
      · show (inB 1000000 (.int 1) && ((inB 2000000000000 (.int (x.p.a + x.p.b)) && inB 2000000000000 (.int (-1))) && _)) = false
        rw [show inB 2000000000000 (.int (-1)) = false from by decide, Bool.and_false, Bool.false_and, Bool.and_false]
      · have mn : ∀ h, bMin h [.tup [.int (x.p.a + x.p.b), .int (-1)]] = some (.int (-1)) := fun h => by
          show some (Sb.D.int (if (-1 : Int) < x.p.a + x.p.b then -1 else x.p.a + x.p.b)) = _
          rw [if_pos (by omega)]
        rw [q45]
        simp_all! only [1, b45, is_tup_tup, Bool.not_true, mn]
    · refine ⟨.bad _, rfl, rfl, rfl, fun k h W => ?_⟩
      rw [q45]
      simp_all! only [1, b45, is_tup_lst, Bool.not_false])
  obtain ⟨o1', rfl, w1⟩ := w1
  obtain ⟨o2', rfl, w2⟩ := w2
  -- the stand, whichever
  obtain ⟨o, ho, wo⟩ : ∃ o : On, (if c / 30 % 17 = 3 then o2' else o1') = o ∧ o.wf := ⟨_, rfl, by split <;> assumption⟩
  have pn := On.pln wo
  obtain ⟨ag, oa, wa⟩ := pk_all (l := [.tup [.str "agree", .int i, .int (1 - c / 15 % 2), o.D], .tup [.str "agree", .int i, .int (1 - c / 15 % 2), o.D], .tup [.str "agree", .int i, .int (1 - c / 15 % 2), o.D], .non, .tup [.str "agree", .int i, .int (c / 15 % 2), o.D], .tup [.str "agree", .int ((i + 1) % 3), .int (1 - c / 15 % 2), o.D], .tup [.str "strike", .int i, .int (1 - c / 15 % 2), .int 0], .tup [.str "agree", .int i, .int (1 - c / 15 % 2), .tup [.int 9, .tup [.int (x.p.a + x.p.b), .int 0], .tup []]]]) (i := c / 120 % 8) (P := fun d => pln 10 d = true) (by simp only [List.length_cons, List.length_nil]; omega) (fun d hd => by
    simp only [List.mem_cons, List.not_mem_nil, or_false] at hd
    have pn9 : pln 9 o.D = true := pln_mono (by omega) pn
    rcases hd with rfl | rfl | rfl | rfl | rfl | rfl | rfl | rfl <;> simp_all! only [4, pn9])
  have r1 := prod_rng (a := c / 7 % 31 % 6) (b := c / 11 % 5 / 4) (m := 5) (by omega) (by omega)
  have r2 := prod_rng (a := c / 13 % 29 % 5) (b := c / 17 % 7 / 6) (m := 4) (by omega) (by omega)
  obtain ⟨i', oi⟩ := pk_int (l := [(i : Int), i, i, i, ps.length, -1]) (i := c / 7 % 31 % 6 * (c / 11 % 5 / 4)) (by simp only [List.length_cons, List.length_nil]; omega)
  obtain ⟨s', os⟩ := pk_int (l := [c / 15 % 2, c / 15 % 2, c / 15 % 2, 2, -1]) (i := c / 13 % 29 % 5 * (c / 17 % 7 / 6)) (by simp only [List.length_cons, List.length_nil]; omega)
  refine ⟨.lay i' s' o ag, ?_, wo, wa⟩
  have vp := V.pots
  have vl := V.len
  have ip : (0 : Int) < ps.length ∧ (ps.length : Int) < 18446744073709551616 := by omega
  rw [q42]
  simp only [List.map_cons, List.map_nil] at oi os
  show outB _ = R.ok (Sb.D.tup [.str "lay", .int i', .int s', o.D, ag]) h
  generalize y.D = yD at *
  generalize y2.D = yD2 at *
  generalize x.p.D = pD at *
  by_cases c1 : c / 30 % 17 = 3
  · rw [if_pos c1] at ho
    rw [ho] at o2
    generalize o.D = oD at *
    generalize o1'.D = oD1 at *
    simp_all! only [1, b42, vp, vl, hi, pt, p2, p3, z1, z2, o1, c1, o2, oa, oi, os, lst_tup, List.cons_append, List.nil_append]
  · rw [if_neg c1] at ho
    rw [ho] at o1
    generalize o.D = oD at *
    simp_all! only [1, b42, vp, vl, hi, pt, p2, p3, z1, z2, o1, c1, oa, oi, os, lst_tup, List.cons_append, List.nil_append]
end
/-! a strike drawn, a deed drawn -/
section
variable {h : Hh} {b : Nat} {K : Sb.D} {pts : List Pt} {now : Int} {ps : List Ps}
theorem e_struck (k : Nat) (V : MV h b K pts now ps) (l1 : 1 ≤ ps.length) (l3 : ps.length ≤ 3) (c : Int) : ∃ d : Dd, S (k + 8) 43 [.ref b, .int c] h = .ok d.D h ∧ d.wf := by
  have i0 := Int.emod_nonneg (c / 5) (show (ps.length : Int) ≠ 0 by omega)
  have i1 := Int.emod_lt_of_pos (c / 5) (show (0 : Int) < ps.length by omega)
  obtain ⟨i, hi⟩ : ∃ i : Nat, c / 5 % (ps.length : Int) = i := ⟨(c / 5 % (ps.length : Int)).toNat, by omega⟩
  have il : i < ps.length := by omega
  have hx : ps[i]? = some ps[i] := List.getElem?_eq_getElem il
  have ct := V.claim hx
  generalize ps[i] = x at *
  have r1 := prod_rng (a := c / 7 % 31 % 6) (b := c / 11 % 5 / 4) (m := 5) (by omega) (by omega)
  have r2 := prod_rng (a := c / 13 % 29 % 4) (b := c / 17 % 5 / 4) (m := 3) (by omega) (by omega)
  obtain ⟨i', oi⟩ := pk_int (l := [(i : Int), i, i, ps.length, -1, 7]) (i := c / 7 % 31 % 6 * (c / 11 % 5 / 4)) (by simp only [List.length_cons, List.length_nil]; omega)
  have vp := V.pots
  have vl := V.len
  have vc := V.claims
  have ip : (0 : Int) < ps.length ∧ (ps.length : Int) < 18446744073709551616 := by omega
  have nn : ∀ s n : Int, ∃ th, atI [.tup [.str "strike", .int i, .int (1 - s), .int n], .tup [.str "strike", .int i, .int (1 - s), .int n], .tup [.str "strike", .int i, .int (1 - s), .int n], .tup [.str "strike", .int i, .int s, .int n], .tup [.str "strike", .int i, .int (1 - s), .int (n + 1)], .non, .tup [.str "word", .int 3]] (c / 60 % 7) = some th ∧ pln 10 th = true := fun s n => pk_all (by simp only [List.length_cons, List.length_nil]; omega) (fun d hd => by
    simp only [List.mem_cons, List.not_mem_nil, or_false] at hd
    rcases hd with rfl | rfl | rfl | rfl | rfl | rfl | rfl <;> simp only [pln_non, pln_bl, pln_int, pln_str, pln_tupp, pln_lstt, plns_nil, plns_cons, Nat.reduceSub, Bool.and_true, Bool.true_and, Bool.and_self, Nat.reduceLT, Nat.zero_lt_succ, so0, so1, so2, so3, so4, so5, so6, so7, so8, so9, so10, so11, so12, so13, so14, so15, so16, so17, so18, so19, so20, so21, so22])
  have si : ∀ s : Int, ∃ s', atI ([s, s, 2, -1].map Sb.D.int) (c / 13 % 29 % 4 * (c / 17 % 5 / 4)) = some (.int s') := fun s => pk_int (by simp only [List.length_cons, List.length_nil]; omega)
  simp only [List.map_cons, List.map_nil] at oi si
  rw [q43]
  cases hc : x.c with
  | held =>
    rw [hc] at ct
    simp only [Cl.told] at ct
    obtain ⟨th, t1, t2⟩ := nn (c / 15 % 2) 0
    simp only [Int.zero_add] at t1
    obtain ⟨s', os⟩ := si (c / 15 % 2)
    refine ⟨.stk i' s' th, ?_, t2⟩
    show outB _ = R.ok (Sb.D.tup [.str "strike", .int i', .int s', th]) h
    simp_all! only [7, b43, vp, vl, vc, hi, ct, t1, oi, os, List.cons_append, List.nil_append, Int.zero_add]
  | taken l =>
    rw [hc] at ct
    simp only [Cl.told] at ct
    obtain ⟨th, t1, t2⟩ := nn (c / 15 % 2) 0
    simp only [Int.zero_add] at t1
    obtain ⟨s', os⟩ := si (c / 15 % 2)
    refine ⟨.stk i' s' th, ?_, t2⟩
    show outB _ = R.ok (Sb.D.tup [.str "strike", .int i', .int s', th]) h
    simp_all! only [7, b43, vp, vl, vc, hi, ct, t1, oi, os, List.cons_append, List.nil_append, Int.zero_add]
  | laid l y day =>
    rw [hc] at ct
    simp only [Cl.told] at ct
    obtain ⟨s0, o0⟩ := pk_int (l := [1 - l, 1 - l, 1 - l, l]) (i := c / 15 % 4) (by simp only [List.length_cons, List.length_nil]; omega)
    simp only [List.map_cons, List.map_nil] at o0
    obtain ⟨th, t1, t2⟩ := nn s0 y.n
    obtain ⟨s', os⟩ := si s0
    have y0 := y.i0
    refine ⟨.stk i' s' th, ?_, t2⟩
    show outB _ = R.ok (Sb.D.tup [.str "strike", .int i', .int s', th]) h
    generalize y.D = yD at *
    simp_all! only [7, b43, vp, vl, vc, hi, ct, o0, y0, t1, oi, os, List.cons_append, List.nil_append]
theorem e_deed (k : Nat) (V : MV h b K pts now ps) (l1 : 1 ≤ ps.length) (l3 : ps.length ≤ 3) (po : ∀ x ∈ ps, PtT x.p) (c : Int) : ∃ d : Dd, S (k + 9) 44 [.ref b, .int c] h = .ok d.D h ∧ d.wf := by
  obtain ⟨d1, e1, w1⟩ := e_laid k V l1 l3 po c
  obtain ⟨d2, e2, w2⟩ := e_struck k V l1 l3 c
  have r1 := prod_rng (a := c / 25 % 8 / 2) (b := c / 200 % 2) (m := 3) (by omega) (by omega)
  obtain ⟨w, ow⟩ := pk_int (l := [c / 25 % 12, c / 25 % 60, 60, -1]) (i := c / 25 % 8 / 2 * (c / 200 % 2)) (by simp only [List.length_cons, List.length_nil]; omega)
  obtain ⟨i', oi⟩ := pk_int (l := [c / 5 % (ps.length : Int), c / 5 % 4 - 1]) (i := c / 450 % 5 / 4) (by simp only [List.length_cons, List.length_nil]; omega)
  have vp := V.pots
  have vl := V.len
  have ip : (0 : Int) < ps.length ∧ (ps.length : Int) < 18446744073709551616 := by omega
  simp only [List.map_cons, List.map_nil] at oi ow
  rw [q44]
  by_cases c0 : c % 5 = 0
  · refine ⟨.day, ?_, trivial⟩
    show outB _ = R.ok (Sb.D.tup [.str "day"]) h
    simp_all! only [1, b44, c0]
  · by_cases c1 : c % 5 = 1
    · refine ⟨.shw i' w, ?_, trivial⟩
      show outB _ = R.ok (Sb.D.tup [.str "show", .int i', .int w]) h
      simp_all! only [1, b44, c0, c1, vp, vl, ow, oi, Int.one_ne_zero]
    · by_cases c2 : c % 5 = 2
      · refine ⟨d2, ?_, w2⟩
        generalize d2.D = dD at *
        simp_all! only [1, b44, c0, c1, c2, e2]
      · refine ⟨d1, ?_, w1⟩
        generalize d1.D = dD at *
        simp_all! only [1, b44, c0, c1, c2, e1]
end
/-! what a deed does -/
inductive Rn (now : Int) (ps : List Ps) : Dd → Str → Int → List Ps → Prop where
  | day : Rn now ps .day "done" (now + 1) ps
  | shw {i : Nat} {x : Ps} {w : Int} (hx : ps[i]? = some x) (hw : 0 ≤ w ∧ w ≤ 59) : Rn now ps (.shw i w) "done" now (ps.set i { x with m := seM x.m w now })
  | shwN {i w : Int} (hx : ¬ (0 ≤ i ∧ i < ps.length) ∨ ¬ (0 ≤ w ∧ w ≤ 59)) : Rn now ps (.shw i w) "deed" now ps
  | stkO {i sd : Int} {th : Sb.D} (hx : ¬ ((0 ≤ i ∧ i < ps.length) ∧ (0 ≤ sd ∧ sd ≤ 1))) : Rn now ps (.stk i sd th) "deed" now ps
  | stk {i : Nat} {x : Ps} {sd : Int} {th : Sb.D} (hx : ps[i]? = some x) (hs : 0 ≤ sd ∧ sd ≤ 1) (ht : pln 10 th = true) (may : mayB x i sd now th = true) : Rn now ps (.stk i sd th) "done" now (ps.set i { x with c := .taken sd })
  | stkN {i : Nat} {x : Ps} {sd : Int} {th : Sb.D} (hx : ps[i]? = some x) (hs : 0 ≤ sd ∧ sd ≤ 1) (ht : pln 10 th = true) (may : ¬ mayB x i sd now th = true) : Rn now ps (.stk i sd th) "deed" now ps
  | layO {i sd : Int} {o : On} {agr : Sb.D} (hx : ¬ ((0 ≤ i ∧ i < ps.length) ∧ (0 ≤ sd ∧ sd ≤ 1))) : Rn now ps (.lay i sd o agr) "deed" now ps
  | layS {i : Nat} {x : Ps} {sd : Int} {o : On} {agr : Sb.D} (hx : ps[i]? = some x) (hs : 0 ≤ sd ∧ sd ≤ 1) (wo : o.wf) (g : o.good x.p.sum = false) : Rn now ps (.lay i sd o agr) "stand" now ps
  | lay {i : Nat} {x : Ps} {sd : Int} {y : Sd} {agr : Sb.D} (hx : ps[i]? = some x) (hs : 0 ≤ sd ∧ sd ≤ 1) (yo : y.ok) (ys : y.sum = x.p.sum) (pa : pln 10 agr = true) (c : x.c.isHeld = true ∧ agB x.p i sd y.D agr = true) : Rn now ps (.lay i sd (.sd y) agr) "done" now (ps.set i { x with c := .laid sd y now })
  | layD {i : Nat} {x : Ps} {sd : Int} {y : Sd} {agr : Sb.D} (hx : ps[i]? = some x) (hs : 0 ≤ sd ∧ sd ≤ 1) (yo : y.ok) (ys : y.sum = x.p.sum) (pa : pln 10 agr = true) (c : ¬ (x.c.isHeld = true ∧ agB x.p i sd y.D agr = true)) : Rn now ps (.lay i sd (.sd y) agr) "deed" now ps
theorem rn_any (now : Int) (ps : List Ps) : ∀ d : Dd, d.wf → ∃ r now' ps', Rn now ps d r now' ps'
  | .day, _ => ⟨_, _, _, .day⟩
  | .shw i w, _ => by
    by_cases c : (0 ≤ i ∧ i < ps.length) ∧ (0 ≤ w ∧ w ≤ 59)
    · obtain ⟨j, rfl⟩ : ∃ j : Nat, i = j := ⟨i.toNat, by omega⟩
      have hx : ps[j]? = some ps[j] := List.getElem?_eq_getElem (by omega)
      exact ⟨_, _, _, .shw hx c.2⟩
    · exact ⟨_, _, _, .shwN (by omega)⟩
  | .stk i sd th, ht => by
    by_cases c : (0 ≤ i ∧ i < ps.length) ∧ (0 ≤ sd ∧ sd ≤ 1)
    · obtain ⟨j, rfl⟩ : ∃ j : Nat, i = j := ⟨i.toNat, by omega⟩
      have hx : ps[j]? = some ps[j] := List.getElem?_eq_getElem (by omega)
      by_cases m : mayB ps[j] j sd now th = true
      · exact ⟨_, _, _, .stk hx c.2 ht m⟩
      · exact ⟨_, _, _, .stkN hx c.2 ht m⟩
    · exact ⟨_, _, _, .stkO c⟩
  | .lay i sd o agr, ⟨wo, pa⟩ => by
    by_cases c : (0 ≤ i ∧ i < ps.length) ∧ (0 ≤ sd ∧ sd ≤ 1)
    · obtain ⟨j, rfl⟩ : ∃ j : Nat, i = j := ⟨i.toNat, by omega⟩
      have hx : ps[j]? = some ps[j] := List.getElem?_eq_getElem (by omega)
      cases g : o.good ps[j].p.sum with
      | false => exact ⟨_, _, _, .layS hx c.2 wo g⟩
      | true =>
        cases o with
        | bad d => cases g
        | sd y =>
          have g' : y.sum = ps[j].p.sum := of_decide_eq_true g
          by_cases m : ps[j].c.isHeld = true ∧ agB ps[j].p j sd y.D agr = true
          · exact ⟨_, _, _, .lay hx c.2 wo g' pa m⟩
          · exact ⟨_, _, _, .layD hx c.2 wo g' pa m⟩
    · exact ⟨_, _, _, .layO c⟩
theorem PtT.ok {p : Pt} (h : PtT p) : PtOk p := by
  have h1 := h.a
  have h2 := h.b
  exact ⟨by omega, by omega⟩
/-! the book does it -/
section
variable {u t : Hh} {now : Int} {ps : List Ps}
theorem e_done (k : Nat) (hl : ps.length ≤ 3) (po : ∀ x ∈ ps, PtOk x.p) (hm : ∀ x ∈ ps, x.m.length ≤ 1000) {d : Dd} {r : Str} {now' : Int} {ps' : List Ps} (R : Rn now ps d r now' ps') : S (k + 9) 47 [.ref u.length, d.D] (hB u now ps t) = .ok (.str r) (hB u now' ps' t) := by
  have hi' := insAt_ref (hB0 (u := u) (now := now) (ps := ps) (t := t))
  have msd : meS (.ref u.length) ((M (k + 8)).me false [(8, 27, [])]) "next_day" (hB u now ps t) = some (S (k + 8) 27, []) := meS_of hi' rfl rfl
  have mss : meS (.ref u.length) ((M (k + 8)).me false [(8, 29, [])]) "show" (hB u now ps t) = some (S (k + 8) 29, []) := meS_of hi' rfl rfl
  have msl : meS (.ref u.length) ((M (k + 8)).me false [(8, 31, [])]) "lay" (hB u now ps t) = some (S (k + 8) 31, []) := meS_of hi' rfl rfl
  have msn : meS (.ref u.length) ((M (k + 8)).me false [(8, 31, [.non])]) "lay" (hB u now ps t) = some (S (k + 8) 31, [.non]) := meS_of hi' rfl rfl
  have msk : meS (.ref u.length) ((M (k + 8)).me false [(8, 32, [])]) "strike" (hB u now ps t) = some (S (k + 8) 32, []) := meS_of hi' rfl rfl
  have ib : ∀ (h : Hh) (a b : Sb.D), opIdx h (.lst [a, b]) (.bl false) = some a := fun _ _ _ => rfl
  have i4 : ∀ (a b c d e : Sb.D), atI [a, b, c, d, e] 4 = some e := fun _ _ _ _ _ => rfl
  rw [q47]
  show outB _ = _
  cases R with
  | day =>
    have nx := e_next (k + 7) (u := u) (t := t) (now := now) (ps := ps)
    show outB (evB (M (k + 8)) none b47 [some (.ref u.length), some (.tup [.str "day"]), none, none, none] _) = _
    generalize hB u now ps t = hh at *
    generalize hB u (now + 1) ps t = hh2 at *
    simp_all! only [8, b47, me_E, meD_some, msd, nx, ib]
  | @shw i x w hx hw =>
    have nx := e_show (k + 5) (u := u) (t := t) (now := now) hl hx (hm x (List.mem_of_getElem? hx)) hw
    show outB (evB (M (k + 8)) none b47 [some (.ref u.length), some (.tup [.str "show", .int i, .int w]), none, none, none] _) = _
    generalize hB u now (ps.set i { x with m := seM x.m w now }) t = hh2 at *
    generalize hB u now ps t = hh at *
    simp_all! only [8, b47, me_E, meD_some, mss, nx, ib]
  | @shwN i w hx =>
    have nx := show_no (k + 5) (u := u) (t := t) (now := now) hl hx
    show outB (evB (M (k + 8)) none b47 [some (.ref u.length), some (.tup [.str "show", .int i, .int w]), none, none, none] _) = _
    generalize hB u now ps t = hh at *
    simp_all! only [8, b47, me_E, meD_some, mss, nx, ib]
  | @stkO i sd th hx =>
    have nx := strike_out (k + 5) (u := u) (t := t) (now := now) hl (th := th) hx
    show outB (evB (M (k + 8)) none b47 [some (.ref u.length), some (.tup [.str "strike", .int i, .int sd, th]), none, none, none] _) = _
    generalize hB u now ps t = hh at *
    simp_all! only [8, b47, me_E, meD_some, msk, nx, ib]
  | @stk i x sd th hx hs ht may =>
    have nx := e_strike (k + 5) (u := u) (t := t) (now := now) hl hx hs ht
    rw [if_pos may] at nx
    show outB (evB (M (k + 8)) none b47 [some (.ref u.length), some (.tup [.str "strike", .int i, .int sd, th]), none, none, none] _) = _
    generalize hB u now (ps.set i { x with c := .taken sd }) t = hh2 at *
    generalize hB u now ps t = hh at *
    simp_all! only [8, b47, me_E, meD_some, msk, nx, ib]
  | @stkN i x sd th hx hs ht may =>
    have nx := e_strike (k + 5) (u := u) (t := t) (now := now) hl hx hs ht
    rw [if_neg may] at nx
    show outB (evB (M (k + 8)) none b47 [some (.ref u.length), some (.tup [.str "strike", .int i, .int sd, th]), none, none, none] _) = _
    generalize hB u now ps t = hh at *
    simp_all! only [8, b47, me_E, meD_some, msk, nx, ib]
  | @layO i sd o agr hx =>
    have nx := lay_out k (u := u) (t := t) (now := now) hl (y := o.D) (agr := agr) hx
    show outB (evB (M (k + 8)) none b47 [some (.ref u.length), some (.tup [.str "lay", .int i, .int sd, o.D, agr]), none, none, none] _) = _
    generalize hB u now ps t = hh at *
    generalize o.D = oD at *
    cases c : isNon agr with
    | true =>
      obtain rfl : agr = .non := by cases agr <;> first | rfl | cases c
      simp_all! only [8, b47, me_E, meD_some, msn, nx, ib, i4]
    | false =>
      simp_all! only [8, b47, me_E, meD_some, msl, nx, ib, i4, c]
  | @layS i x sd o agr hx hs wo g =>
    have nx : S (k + 8) 31 [.ref u.length, .int i, .int sd, o.D, agr] (hB u now ps t) = .exc 5 [] (hB u now ps t) := by
      cases o with
      | bad d => exact lay_none k hl hx hs wo.1 wo.2.1
      | sd y => exact lay_coin k hl hx hs wo (of_decide_eq_false g)
    show outB (evB (M (k + 8)) none b47 [some (.ref u.length), some (.tup [.str "lay", .int i, .int sd, o.D, agr]), none, none, none] _) = _
    generalize hB u now ps t = hh at *
    generalize o.D = oD at *
    cases c : isNon agr with
    | true =>
      obtain rfl : agr = .non := by cases agr <;> first | rfl | cases c
      simp_all! only [8, b47, me_E, meD_some, msn, nx, ib, i4]
    | false =>
      simp_all! only [8, b47, me_E, meD_some, msl, nx, ib, i4, c]
  | @lay i x sd y agr hx hs yo ys pa m =>
    have nx := e_lay k (u := u) (t := t) (now := now) hl hx (po x (List.mem_of_getElem? hx)) hs pa yo ys
    rw [if_pos m] at nx
    show outB (evB (M (k + 8)) none b47 [some (.ref u.length), some (.tup [.str "lay", .int i, .int sd, y.D, agr]), none, none, none] _) = _
    generalize hB u now (ps.set i { x with c := .laid sd y now }) t = hh2 at *
    generalize hB u now ps t = hh at *
    generalize y.D = oD at *
    cases c : isNon agr with
    | true =>
      obtain rfl : agr = .non := by cases agr <;> first | rfl | cases c
      simp_all! only [8, b47, me_E, meD_some, msn, nx, ib, i4]
    | false =>
      simp_all! only [8, b47, me_E, meD_some, msl, nx, ib, i4, c]
  | @layD i x sd y agr hx hs yo ys pa m =>
    have nx := e_lay k (u := u) (t := t) (now := now) hl hx (po x (List.mem_of_getElem? hx)) hs pa yo ys
    rw [if_neg m] at nx
    show outB (evB (M (k + 8)) none b47 [some (.ref u.length), some (.tup [.str "lay", .int i, .int sd, y.D, agr]), none, none, none] _) = _
    generalize hB u now ps t = hh at *
    generalize y.D = oD at *
    cases c : isNon agr with
    | true =>
      obtain rfl : agr = .non := by cases agr <;> first | rfl | cases c
      simp_all! only [8, b47, me_E, meD_some, msn, nx, ib, i4]
    | false =>
      simp_all! only [8, b47, me_E, meD_some, msl, nx, ib, i4, c]
end
/-! the model does it -/
theorem set_same {α : Type} {l : List α} {i : Nat} {x : α} (hx : l[i]? = some x) : l.set i x = l := by
  apply List.ext_getElem?
  intro j
  rw [List.getElem?_set]
  split
  · rename_i c; subst c
    rw [hx, if_pos (List.getElem?_eq_some_iff.mp hx).1]
  · rfl
theorem nin_lstL {h : Hh} {x : Sb.D} {l : List Sb.D} (hx : pln 64 x = true) (hl : plns 63 l = true) : cmpD .NotIn h x (.lst l) = some (.bl (!(l.any fun z => eqB z x))) := by
  have z := in_lst (h := h) hx hl
  have z1 : (inD h x (.lst l)).map Sb.D.bl = some (.bl (l.any fun z => eqB z x)) := z
  show (inD h x (.lst l)).map (fun b => Sb.D.bl (!b)) = _
  cases q : inD h x (.lst l) with
  | none => rw [q] at z1; cases z1
  | some b =>
    rw [q] at z1
    obtain rfl : b = l.any fun z => eqB z x := by injection z1 with z1; injection z1
    rfl
theorem nin01 (h : Hh) (s : Int) : cmpD .NotIn h (.int s) (.lst [.int 0, .int 1]) = some (.bl (decide (¬ (0 ≤ s ∧ s ≤ 1)))) := by
  rw [nin_lstL rfl rfl]
  refine congrArg (fun b => some (Sb.D.bl b)) ?_
  rw [Bool.eq_iff_iff]
  simp only [List.any_cons, List.any_nil, eqB, Bool.or_false, Bool.not_eq_true', Bool.or_eq_false_iff, decide_eq_false_iff_not, decide_eq_true_eq]
  omega
section
variable {u t : Hh} {nb now : Int} {bs ps : List Ps} {K : Sb.D}
theorem mt_day {B : Nat} (hB' : B = u.length + 2 + bs.length) (V : MV (hB u nb bs (mT B K now ps t)) B K (ps.map Ps.p) now ps) (d : Int) (e : En) : stoD (.ref B) (.str "day") (.int d) e (hB u nb bs (mT B K now ps t)) = .nx e (hB u nb bs (mT B K d ps t)) := by
  have z := hB_setX (u := u) (now := nb) (ps := bs) (X := mT B K now ps t) 0 (.dct (MD B K d ps.length))
  rw [mT_set0, Nat.add_zero, ← hB'] at z
  unfold stoD
  simp only [V.at0]
  show (if (MD B K now ps.length).length < 16777216 then RS.nx e ((hB u nb bs (mT B K now ps t)).set B (.dct (MD B K d ps.length))) else .fail) = _
  rw [if_pos (by show 4 < 16777216; omega), z]
theorem mt_sto {B : Nat} (hB' : B = u.length + 2 + bs.length) (V : MV (hB u nb bs (mT B K now ps t)) B K (ps.map Ps.p) now ps) {i : Nat} {x : Ps} (hx : ps[i]? = some x) (c : Cl) (e : En) : stoD (.ref (B + 1)) (.int i) c.told e (hB u nb bs (mT B K now ps t)) = .nx e (hB u nb bs (mT B K now (ps.set i { x with c := c }) t)) := by
  have hl := (List.getElem?_eq_some_iff.mp hx).1
  have z := hB_setX (u := u) (now := nb) (ps := bs) (X := mT B K now ps t) 1 (.lst ((ps.map fun x => x.c.told).set i c.told))
  have z1 := mT_set1 (b := B) (K := K) (now := now) (t := t) hx (y := { x with c := c }) rfl
  rw [z1, ← hB'] at z
  rw [sto_lst V.at1 (by rw [List.length_map]; omega), Int.toNat_natCast, z]
theorem mt_se {B : Nat} (hB' : B = u.length + 2 + bs.length) (V : MV (hB u nb bs (mT B K now ps t)) B K (ps.map Ps.p) now ps) {i : Nat} {x : Ps} (hx : ps[i]? = some x) (hm : x.m.length ≤ 1000) (w : Int) : seD (.ref (B + 2 + i)) (.int w) (.int now) (hB u nb bs (mT B K now ps t)) = .ok (.int ((getM x.m w).getD now)) (hB u nb bs (mT B K now (ps.set i { x with m := seM x.m w now }) t)) := by
  have h2 := V.at2 hx
  have z := fun m : List (Int × Int) => hB_setX (u := u) (now := nb) (ps := bs) (X := mT B K now ps t) (2 + i) (.dct (m.map shK))
  rw [← hB', ← Nat.add_assoc] at z
  unfold seD
  simp only [keyD, h2]
  rw [if_pos (by rw [List.length_map]; omega), val_sh]
  unfold seM
  cases q : getM x.m w with
  | some v =>
    simp only [Option.map_some, Option.getD_some]
    rw [set_same hx]
  | none =>
    simp only [Option.map_none, Option.getD_none]
    rw [put_sh, z, mT_set2 hx, putM_new q]
theorem e_due (k : Nat) (hK : IsL u K (ps.map fun x => x.p.D)) (hl : bs.length = ps.length) (hm : ∀ x ∈ ps, x.m.length ≤ 1000) {d : Dd} {r : Str} {now' : Int} {ps' : List Ps} (R : Rn now ps d r now' ps') : S (k + 2) 46 [.ref (u.length + 2 + bs.length), d.D] (hB u nb bs (mT (u.length + 2 + bs.length) K now ps t)) = .ok (.str r) (hB u nb bs (mT (u.length + 2 + bs.length) K now' ps' t)) := by
  have V := mv_of (u := u) (t := t) (nb := nb) (now := now) (bs := bs) hK hl
  obtain ⟨B, hB'⟩ : ∃ B, B = u.length + 2 + bs.length := ⟨_, rfl⟩
  rw [← hB'] at V ⊢
  have dy := mt_day hB' V
  have sto := fun {i : Nat} {x : Ps} (hx : ps[i]? = some x) => mt_sto hB' V hx
  have se := fun {i : Nat} {x : Ps} (hx : ps[i]? = some x) => mt_se hB' V hx
  have vp := V.pots
  have vd := V.day
  have vc := V.claims
  have vs := V.shows
  have vl := V.len
  rw [q46]
  show outB _ = _
  cases R with
  | day =>
    have dd := dy (now + 1)
    show outB (evB (M (k + 1)) none b46 [some (.ref B), some (.tup [.str "day"]), none, none, none, none, none, none, none] _) = _
    generalize hB u nb bs (mT B K now ps t) = hh at *
    generalize hB u nb bs (mT B K (now + 1) ps t) = hh2 at *
    clear V dy sto se
    simp_all! only [7, b46, vp, vd, vc, vs, vl, dd]
  | @shw i x w hx hw =>
    have se' := se hx (hm x (List.mem_of_getElem? hx)) w
    have vi := V.shw hx
    have ak := asK_refK (V.at2 hx)
    have il := (List.getElem?_eq_some_iff.mp hx).1
    have n1 : ¬ (i : Int) < 0 := by omega
    have n2 : ¬ (ps.length : Int) ≤ i := by omega
    have n3 : ¬ w < 0 := by omega
    have n4 : ¬ 59 < w := by omega
    show outB (evB (M (k + 1)) none b46 [some (.ref B), some (.tup [.str "show", .int i, .int w]), none, none, none, none, none, none, none] _) = _
    clear V dy sto se
    generalize hB u nb bs (mT B K now (ps.set i { x with m := seM x.m w now }) t) = hh2 at *
    generalize hB u nb bs (mT B K now ps t) = hh at *
    simp_all! only [7, b46, vp, vd, vc, vs, vl, vi, n1, n2, n3, n4, sed_E, ak, se', Option.isSome_some]
  | @shwN i w hx =>
    show outB (evB (M (k + 1)) none b46 [some (.ref B), some (.tup [.str "show", .int i, .int w]), none, none, none, none, none, none, none] _) = _
    clear V dy sto se
    generalize hB u nb bs (mT B K now ps t) = hh at *
    by_cases n1 : i < 0
    · simp_all! only [7, b46, vp, vd, vc, vs, vl, n1]
    · by_cases n2 : (ps.length : Int) ≤ i
      · simp_all! only [7, b46, vp, vd, vc, vs, vl, n1, n2]
      · by_cases n3 : w < 0
        · simp_all! only [7, b46, vp, vd, vc, vs, vl, n1, n2, n3]
        · have n4 : 59 < w := by omega
          simp_all! only [7, b46, vp, vd, vc, vs, vl, n1, n2, n3, n4]
  | @stkO i sd th hx =>
    show outB (evB (M (k + 1)) none b46 [some (.ref B), some (.tup [.str "strike", .int i, .int sd, th]), none, none, none, none, none, none, none] _) = _
    clear V dy sto se
    generalize hB u nb bs (mT B K now ps t) = hh at *
    by_cases n1 : i < 0
    · simp_all! only [7, b46, vp, vd, vc, vs, vl, n1]
    · by_cases n2 : (ps.length : Int) ≤ i
      · simp_all! only [7, b46, vp, vd, vc, vs, vl, n1, n2]
      · have nn := fun h => nin01 h sd
        rw [decide_eq_true (show ¬ (0 ≤ sd ∧ sd ≤ 1) by omega)] at nn
        simp_all! only [7, b46, vp, vd, vc, vs, vl, n1, n2, nn]
  | @layO i sd o agr hx =>
    show outB (evB (M (k + 1)) none b46 [some (.ref B), some (.tup [.str "lay", .int i, .int sd, o.D, agr]), none, none, none, none, none, none, none] _) = _
    clear V dy sto se
    generalize hB u nb bs (mT B K now ps t) = hh at *
    generalize o.D = oD at *
    by_cases n1 : i < 0
    · simp_all! only [7, b46, vp, vd, vc, vs, vl, n1]
    · by_cases n2 : (ps.length : Int) ≤ i
      · simp_all! only [7, b46, vp, vd, vc, vs, vl, n1, n2]
      · have nn := fun h => nin01 h sd
        rw [decide_eq_true (show ¬ (0 ≤ sd ∧ sd ≤ 1) by omega)] at nn
        simp_all! only [7, b46, vp, vd, vc, vs, vl, n1, n2, nn]
  | @stk i x sd th hx hs ht may =>
    have vi := V.claim hx
    have vt := V.pot hx
    have st := fun e => sto hx (.taken sd) e
    have il := (List.getElem?_eq_some_iff.mp hx).1
    have n1 : ¬ (i : Int) < 0 := by omega
    have n2 : ¬ (ps.length : Int) ≤ i := by omega
    have nn := fun h => nin01 h sd
    rw [decide_eq_false (fun z => z hs)] at nn
    unfold mayB at may
    split at may
    · rename_i l y day hc
      split at may
      · rename_i cc
        have c1 : ¬ l = sd := fun z => cc.1 z.symm
        have c2 : ¬ day + x.p.w ≤ now := by omega
        have e1 : ∀ h, cmpD .NotEq h th (.tup [.str "strike", .int i, .int l, .int y.n]) = some (.bl false) := fun h => by
          rw [ne_pln (pln_mono (by omega) ht) (by simp only [pln_non, pln_bl, pln_int, pln_str, pln_tupp, pln_lstt, plns_nil, plns_cons, Nat.reduceSub, Bool.and_true, Bool.true_and, Bool.and_self, Nat.reduceLT, Nat.zero_lt_succ, so0, so1, so2, so3, so4, so5, so6, so7, so8, so9, so10, so11, so12, so13, so14, so15, so16, so17, so18, so19, so20, so21, so22]), show eqB th (.tup [.str "strike", .int i, .int l, .int y.n]) = true from may]; rfl
        rw [hc] at vi
        have y0 := y.i0
        simp only [Cl.told, Pt.D] at vi vt st
        show outB (evB (M (k + 1)) none b46 [some (.ref B), some (.tup [.str "strike", .int i, .int sd, th]), none, none, none, none, none, none, none] _) = _
        clear V dy sto se
        generalize hB u nb bs (mT B K now (ps.set i { x with c := .taken sd }) t) = hh2 at *
        generalize hB u nb bs (mT B K now ps t) = hh at *
        generalize y.D = yD at *
        simp_all! only [7, b46, vp, vd, vc, vs, vl, n1, n2, nn, vi, vt, st, c1, c2, e1, y0]
      · cases may
    · cases may
  | @stkN i x sd th hx hs ht may =>
    have vi := V.claim hx
    have vt := V.pot hx
    have il := (List.getElem?_eq_some_iff.mp hx).1
    have n1 : ¬ (i : Int) < 0 := by omega
    have n2 : ¬ (ps.length : Int) ≤ i := by omega
    have nn := fun h => nin01 h sd
    rw [decide_eq_false (fun z => z hs)] at nn
    unfold mayB at may
    simp only [Pt.D] at vt
    show outB (evB (M (k + 1)) none b46 [some (.ref B), some (.tup [.str "strike", .int i, .int sd, th]), none, none, none, none, none, none, none] _) = _
    clear V dy sto se
    generalize hB u nb bs (mT B K now ps t) = hh at *
    cases hc : x.c with
    | held =>
      rw [hc] at vi
      simp only [Cl.told] at vi
      simp_all! only [7, b46, vp, vd, vc, vs, vl, n1, n2, nn, vi, vt]
    | taken l =>
      rw [hc] at vi
      simp only [Cl.told] at vi
      simp_all! only [7, b46, vp, vd, vc, vs, vl, n1, n2, nn, vi, vt]
    | laid l y day =>
      rw [hc] at vi may
      simp only [Cl.told] at vi
      have y0 := y.i0
      by_cases c1 : l = sd
      · generalize y.D = yD at *
        simp_all! only [7, b46, vp, vd, vc, vs, vl, n1, n2, nn, vi, vt, c1]
      · by_cases c2 : day + x.p.w ≤ now
        · generalize y.D = yD at *
          simp_all! only [7, b46, vp, vd, vc, vs, vl, n1, n2, nn, vi, vt, c1, c2]
        · dsimp only at may
          rw [if_pos ⟨fun z => c1 z.symm, by omega⟩] at may
          have e1 : ∀ h, cmpD .NotEq h th (.tup [.str "strike", .int i, .int l, .int y.n]) = some (.bl true) := fun h => by
            rw [ne_pln (pln_mono (by omega) ht) (by simp only [pln_non, pln_bl, pln_int, pln_str, pln_tupp, pln_lstt, plns_nil, plns_cons, Nat.reduceSub, Bool.and_true, Bool.true_and, Bool.and_self, Nat.reduceLT, Nat.zero_lt_succ, so0, so1, so2, so3, so4, so5, so6, so7, so8, so9, so10, so11, so12, so13, so14, so15, so16, so17, so18, so19, so20, so21, so22]), show eqB th (.tup [.str "strike", .int i, .int l, .int y.n]) = false from (Bool.not_eq_true _).mp may]; rfl
          generalize y.D = yD at *
          simp_all! only [7, b46, vp, vd, vc, vs, vl, n1, n2, nn, vi, vt, c1, c2, e1, y0]
  | @layS i x sd o agr hx hs wo g =>
    have vi := V.claim hx
    have vt := V.pot hx
    have il := (List.getElem?_eq_some_iff.mp hx).1
    have n1 : ¬ (i : Int) < 0 := by omega
    have n2 : ¬ (ps.length : Int) ≤ i := by omega
    have nn := fun h => nin01 h sd
    rw [decide_eq_false (fun z => z hs)] at nn
    have is := fun h => e_lisst k wo x.p.sum h
    rw [g] at is
    simp only [Pt.D] at vt
    unfold Pt.sum at is
    show outB (evB (M (k + 1)) none b46 [some (.ref B), some (.tup [.str "lay", .int i, .int sd, o.D, agr]), none, none, none, none, none, none, none] _) = _
    clear V dy sto se
    generalize hB u nb bs (mT B K now ps t) = hh at *
    generalize o.D = oD at *
    generalize x.c.told = cD at *
    simp_all! only [7, b46, vp, vd, vc, vs, vl, n1, n2, nn, vi, vt, is]
  | @lay i x sd y agr hx hs yo ys pa m =>
    have vi := V.claim hx
    have vt := V.pot hx
    have st := fun e => sto hx (.laid sd y now) e
    have il := (List.getElem?_eq_some_iff.mp hx).1
    have n1 : ¬ (i : Int) < 0 := by omega
    have n2 : ¬ (ps.length : Int) ≤ i := by omega
    have nn := fun h => nin01 h sd
    rw [decide_eq_false (fun z => z hs)] at nn
    have is := fun h => e_lisst k (o := .sd y) yo x.p.sum h
    rw [show (On.sd y).good x.p.sum = true from decide_eq_true ys] at is
    have te := fun h => told_ne x.c h
    rw [m.1] at te
    have py := y.pln 8 (by omega)
    have e1 : ∀ h, cmpD .NotEq h y.D (.tup [.int 0, .tup [.int x.p.a, .int x.p.b], .tup []]) = some (.bl (!eqB y.D (frD x.p))) := fun h => ne_pln (pln_mono (by omega) py) (by simp only [pln_non, pln_bl, pln_int, pln_str, pln_tupp, pln_lstt, plns_nil, plns_cons, Nat.reduceSub, Bool.and_true, Bool.true_and, Bool.and_self, Nat.reduceLT, Nat.zero_lt_succ, so0, so1, so2, so3, so4, so5, so6, so7, so8, so9, so10, so11, so12, so13, so14, so15, so16, so17, so18, so19, so20, so21, so22])
    have e2 : ∀ h, cmpD .NotEq h agr (.tup [.str "agree", .int i, .int (1 - sd), y.D]) = some (.bl (!eqB agr (agT i (1 - sd) y.D))) := fun h => ne_pln (pln_mono (by omega) pa) (by simp_all! only [4, pln_mono (show 8 ≤ 63 by omega) py])
    have ag := m.2
    unfold agB at ag
    have i4 : ∀ (a b c d e : Sb.D), atI [a, b, c, d, e] 4 = some e := fun _ _ _ _ _ => rfl
    simp only [Pt.D, Cl.told] at vt st
    unfold Pt.sum at is
    show outB (evB (M (k + 1)) none b46 [some (.ref B), some (.tup [.str "lay", .int i, .int sd, y.D, agr]), none, none, none, none, none, none, none] _) = _
    clear V dy sto se
    generalize hB u nb bs (mT B K now (ps.set i { x with c := .laid sd y now }) t) = hh2 at *
    generalize hB u nb bs (mT B K now ps t) = hh at *
    simp only [On.D] at is
    generalize y.D = yD at *
    generalize x.c.told = cD at *
    cases c : eqB yD (frD x.p) with
    | true =>
      rw [c] at e1
      simp_all! only [7, b46, vp, vd, vc, vs, vl, n1, n2, nn, vi, vt, is, te, e1, e2, st, i4]
    | false =>
      rw [c, if_neg Bool.false_ne_true] at ag
      rw [c] at e1
      rw [ag] at e2
      simp_all! only [7, b46, vp, vd, vc, vs, vl, n1, n2, nn, vi, vt, is, te, e1, e2, st, i4]
  | @layD i x sd y agr hx hs yo ys pa m =>
    have vi := V.claim hx
    have vt := V.pot hx
    have il := (List.getElem?_eq_some_iff.mp hx).1
    have n1 : ¬ (i : Int) < 0 := by omega
    have n2 : ¬ (ps.length : Int) ≤ i := by omega
    have nn := fun h => nin01 h sd
    rw [decide_eq_false (fun z => z hs)] at nn
    have is := fun h => e_lisst k (o := .sd y) yo x.p.sum h
    rw [show (On.sd y).good x.p.sum = true from decide_eq_true ys] at is
    have te := fun h => told_ne x.c h
    have py := y.pln 8 (by omega)
    have e1 : ∀ h, cmpD .NotEq h y.D (.tup [.int 0, .tup [.int x.p.a, .int x.p.b], .tup []]) = some (.bl (!eqB y.D (frD x.p))) := fun h => ne_pln (pln_mono (by omega) py) (by simp only [pln_non, pln_bl, pln_int, pln_str, pln_tupp, pln_lstt, plns_nil, plns_cons, Nat.reduceSub, Bool.and_true, Bool.true_and, Bool.and_self, Nat.reduceLT, Nat.zero_lt_succ, so0, so1, so2, so3, so4, so5, so6, so7, so8, so9, so10, so11, so12, so13, so14, so15, so16, so17, so18, so19, so20, so21, so22])
    have e2 : ∀ h, cmpD .NotEq h agr (.tup [.str "agree", .int i, .int (1 - sd), y.D]) = some (.bl (!eqB agr (agT i (1 - sd) y.D))) := fun h => ne_pln (pln_mono (by omega) pa) (by simp_all! only [4, pln_mono (show 8 ≤ 63 by omega) py])
    unfold agB at m
    have i4 : ∀ (a b c d e : Sb.D), atI [a, b, c, d, e] 4 = some e := fun _ _ _ _ _ => rfl
    simp only [Pt.D] at vt
    unfold Pt.sum at is
    show outB (evB (M (k + 1)) none b46 [some (.ref B), some (.tup [.str "lay", .int i, .int sd, y.D, agr]), none, none, none, none, none, none, none] _) = _
    clear V dy sto se
    generalize hB u nb bs (mT B K now ps t) = hh at *
    simp only [On.D] at is
    generalize y.D = yD at *
    generalize x.c.told = cD at *
    cases c0 : x.c.isHeld with
    | false =>
      rw [c0] at te
      simp_all! only [7, b46, vp, vd, vc, vs, vl, n1, n2, nn, vi, vt, is, te, i4, Bool.not_false]
    | true =>
      rw [c0] at te
      cases c : eqB yD (frD x.p) with
      | true => exact absurd ⟨c0, by rw [if_pos c]⟩ m
      | false =>
        have ag : eqB agr (agT i (1 - sd) yD) = false := by
          rw [← Bool.not_eq_true]
          exact fun z => m ⟨c0, by rw [if_neg (by rw [c]; exact Bool.false_ne_true)]; exact z⟩
        rw [c] at e1
        rw [ag] at e2
        simp_all! only [7, b46, vp, vd, vc, vs, vl, n1, n2, nn, vi, vt, is, te, e1, e2, i4]
end
/-! words of the model -/
def keysM (m : List (Int × Int)) : List Int := m.map (·.1)
def wordsP (ps : List Ps) : List Int := (ps.map fun x => keysM x.m).flatten
theorem getM_some {m : List (Int × Int)} {w : Int} : (getM m w).isSome = true ↔ w ∈ keysM m := by
  unfold getM keysM
  rw [Option.isSome_map, List.find?_isSome, List.mem_map]
  simp only [decide_eq_true_eq]
theorem n60_mem {w : Int} : w ∈ n60 ↔ 0 ≤ w ∧ w ≤ 59 := by
  unfold n60
  rw [List.mem_map]
  constructor
  · rintro ⟨i, hi, rfl⟩
    have := List.mem_range.mp hi
    omega
  · rintro ⟨h1, h2⟩
    exact ⟨w.toNat, List.mem_range.mpr (by omega), by omega⟩
theorem n60_lt : n60.Pairwise (· < ·) := by
  unfold n60
  rw [List.pairwise_map]
  exact List.pairwise_lt_range.imp fun h => by omega
theorem wordsP_mem {ps : List Ps} {w : Int} : w ∈ wordsP ps ↔ ∃ x ∈ ps, w ∈ keysM x.m := by
  unfold wordsP
  rw [List.mem_flatten]
  constructor
  · rintro ⟨l, hl, hw⟩
    obtain ⟨x, hx, rfl⟩ := List.mem_map.mp hl
    exact ⟨x, hx, hw⟩
  · rintro ⟨x, hx, hw⟩
    exact ⟨_, List.mem_map_of_mem hx, hw⟩
theorem allSh_sort {ps : List Ps} (hw : ∀ x ∈ ps, ∀ q ∈ x.m, 0 ≤ q.1 ∧ q.1 ≤ 59) : allSh ps = sortU (wordsP ps) := by
  refine lt_ext ?_ (sortU_lt _) fun w => ?_
  · unfold allSh
    exact n60_lt.filter _
  · rw [mem_sortU, wordsP_mem]
    unfold allSh shownB
    rw [List.mem_filter, List.any_eq_true]
    constructor
    · rintro ⟨_, x, hx, h⟩
      exact ⟨x, hx, getM_some.mp h⟩
    · rintro ⟨x, hx, h⟩
      refine ⟨?_, x, hx, getM_some.mpr h⟩
      unfold keysM at h
      obtain ⟨q, hq, rfl⟩ := List.mem_map.mp h
      exact n60_mem.mpr (hw x hx q hq)
structure BkI (N : Nat) (ps : List Ps) : Prop where
  l3 : ps.length ≤ 3
  l1 : 1 ≤ ps.length
  p : ∀ x ∈ ps, PtT x.p
  u : ∀ x ∈ ps, Uniq x.m
  w : ∀ x ∈ ps, ∀ q ∈ x.m, 0 ≤ q.1 ∧ q.1 ≤ 59
  n : (wordsP ps).length ≤ N
theorem wordsP_le : ∀ {ps : List Ps} {x : Ps}, x ∈ ps → x.m.length ≤ (wordsP ps).length
  | y :: ps, x, h => by
    have e : wordsP (y :: ps) = keysM y.m ++ wordsP ps := rfl
    rw [e, List.length_append]
    unfold keysM
    rw [List.length_map]
    rcases List.mem_cons.mp h with rfl | h
    · omega
    · have := wordsP_le h; omega
theorem BkI.m {N : Nat} {ps : List Ps} (B : BkI N ps) : ∀ x ∈ ps, x.m.length ≤ N := fun x hx => Nat.le_trans (wordsP_le hx) B.n
theorem wordsP_take {ps : List Ps} {i : Nat} {x : Ps} (hx : ps[i]? = some x) : wordsP (ps.take (i + 1)) = wordsP (ps.take i) ++ keysM x.m := by
  unfold wordsP
  rw [List.take_succ, hx, List.map_append, List.flatten_append]
  simp
theorem wordsP_takeL {ps : List Ps} : ∀ i, (wordsP (ps.take i)).length ≤ (wordsP ps).length := fun i => by
  have e : wordsP ps = wordsP (ps.take i) ++ wordsP (ps.drop i) := by
    unfold wordsP
    rw [← List.flatten_append, ← List.map_append, List.take_append_drop]
  rw [e, List.length_append]; omega
/-! the heap of the law -/
def hS (u : Hh) (now : Int) (ps : List Ps) (K : Sb.D) (t : Hh) : Hh := hB u now ps (mT (u.length + 2 + ps.length) K now ps t)
section
variable {u t : Hh} {now : Int} {ps : List Ps} {K : Sb.D}
theorem hS_app (s : Hh) : hS u now ps K t ++ s = hS u now ps K (t ++ s) := by
  unfold hS
  rw [hB_app, mT_app]
theorem hS_new (o : Sb.O) : (hS u now ps K (t ++ [o]))[(hS u now ps K t).length]? = some o := by
  rw [← hS_app, List.getElem?_append_right (Nat.le_refl _), Nat.sub_self]; rfl
theorem hS_set (o o' : Sb.O) : (hS u now ps K (t ++ [o])).set (hS u now ps K t).length o' = hS u now ps K (t ++ [o']) := by
  rw [← hS_app, List.set_append_right _ _ (Nat.le_refl _), Nat.sub_self, ← hS_app]; rfl
theorem hS_ins : insAt (hS u now ps K t) (.ref u.length) = some (8, FL8 (.lst (ps.map fun x => x.p.D)) (.int now) (.ref (u.length + 1)) (.lst (bRefs u.length ps.length))) := insAt_ref hB0
theorem hS_mv (hK : IsL u K (ps.map fun x => x.p.D)) : MV (hS u now ps K t) (u.length + 2 + ps.length) K (ps.map Ps.p) now ps := mv_of hK rfl
theorem shfor_S (k : Nat) (hl : ps.length ≤ 3) {i : Nat} {x : Ps} (hx : ps[i]? = some x) : S (k + 3) 34 [.ref u.length, .int i] (hS u now ps K t) = .ok (.ref (hS u now ps K t).length) (hS u now ps K (t ++ [.dct (x.m.map shK)])) := by
  have z := e_shforN k (u := u) (now := now) (t := mT (u.length + 2 + ps.length) K now ps t) hl hx
  rw [mT_app] at z
  exact z
theorem allsh_S (k : Nat) (hl : ps.length ≤ 3) : S (k + 1) 38 [.ref u.length] (hS u now ps K t) = .ok (.ref (hS u now ps K t).length) (hS u now ps K (t ++ [.lst ((allSh ps).map .int)])) := by
  have z := e_allshN k (u := u) (now := now) (t := mT (u.length + 2 + ps.length) K now ps t) hl
  rw [← hS_app]
  exact z
theorem eqKD_sh {m : List (Int × Int)} (u : Uniq m) : eqKD (m.map shK) (m.map shK) = true := by
  unfold eqKD
  simp only [decide_true, Bool.true_and, List.all_eq_true]
  intro p hp
  obtain ⟨q, hq, rfl⟩ := List.mem_map.mp hp
  have e : valD (m.map shK) (shK q).1 = (getM m q.1).map .int := val_sh q.1 m
  rw [e, get_uniq u q hq]
  show decide (q.2 = q.2) = true
  simp
theorem bList_refK {h : Hh} {j : Nat} {m : List (Int × Int)} (e : h[j]? = some (.dct (m.map shK))) : bList h [.ref j] = some (.lst ((keysM m).map .int)) := by
  have z : asQ h (.ref j) = none := by
    show asL h (.ref j) = none
    show (match h[j]? with | some (.lst l) => some l | some (.lck (.lst l)) => some l | _ => none) = _
    rw [e]
  unfold bList
  simp only [z, asK_refK e]
  show some (Sb.D.lst _) = some (Sb.D.lst _)
  unfold keysM
  rw [List.map_map, List.map_map]; rfl
theorem told_pln (c : Cl) : pln 64 c.told = true := by
  cases c with
  | held => unfold Cl.told; simp only [pln_non, pln_bl, pln_int, pln_str, pln_tupp, pln_lstt, plns_nil, plns_cons, Nat.reduceSub, Bool.and_true, Bool.true_and, Bool.and_self, Nat.reduceLT, Nat.zero_lt_succ, so0, so1, so2, so3, so4, so5, so6, so7, so8, so9, so10, so11, so12, so13, so14, so15, so16, so17, so18, so19, so20, so21, so22]
  | laid l y d => show pln 64 (.tup [.str "laid", .int l, y.D, .int d]) = true; simp_all! only [4, y.pln _ (show 3 ≤ 63 by omega)]
  | taken l => unfold Cl.told; simp only [pln_non, pln_bl, pln_int, pln_str, pln_tupp, pln_lstt, plns_nil, plns_cons, Nat.reduceSub, Bool.and_true, Bool.true_and, Bool.and_self, Nat.reduceLT, Nat.zero_lt_succ, so0, so1, so2, so3, so4, so5, so6, so7, so8, so9, so10, so11, so12, so13, so14, so15, so16, so17, so18, so19, so20, so21, so22]
theorem stands_loop (k : Nat) {N : Nat} (B : BkI N ps) (hN : N ≤ 60) (hK : IsL u K (ps.map fun x => x.p.D)) : ∃ t', forL (.nm 3) (evB (M (k + 8)) none b48_0) (rngL 0 ps.length) [some (.ref u.length), some (.ref (u.length + 2 + ps.length)), some (.lst []), none] (hS u now ps K t) = .nx [some (.ref u.length), some (.ref (u.length + 2 + ps.length)), some (.lst ((wordsP ps).map .int)), none] (hS u now ps K t') := by
  obtain ⟨e', h', q, t', rfl, rfl⟩ := forL_rng (g := .nm 3) (b := evB (M (k + 8)) none b48_0) (lo := 0) (n := ps.length) (I := fun i e h => ∃ t', e = [some (.ref u.length), some (.ref (u.length + 2 + ps.length)), some (.lst ((wordsP (ps.take i)).map .int)), none] ∧ h = hS u now ps K t') (fun i e h hi ⟨t, he, hh⟩ => by
    subst he
    subst hh
    have hx : ps[i]? = some ps[i] := List.getElem?_eq_getElem hi
    have hm := List.getElem_mem hi
    have wt := wordsP_take hx
    generalize ps[i] = x at *
    have V := hS_mv (t := t) (now := now) hK
    have V2 := hS_mv (t := t ++ [.dct (x.m.map shK)]) (now := now) hK
    have tl := e_told (k + 5) (bv_heap (u := u) (t := mT (u.length + 2 + ps.length) K now ps t) (now := now) B.l3) hx
    rw [show hB u now ps (mT (u.length + 2 + ps.length) K now ps t) = hS u now ps K t from rfl] at tl
    have sf := shfor_S (k + 5) (u := u) (now := now) (K := K) (t := t) B.l3 hx
    have mt : meS (.ref u.length) ((M (k + 8)).me false [(8, 33, [])]) "told" (hS u now ps K t) = some (S (k + 8) 33, []) := meS_of hS_ins rfl rfl
    have ms : meS (.ref u.length) ((M (k + 8)).me false [(8, 34, [])]) "shown_for" (hS u now ps K t) = some (S (k + 8) 34, []) := meS_of hS_ins rfl rfl
    have ne1 : ∀ h, cmpD .NotEq h x.c.told x.c.told = some (.bl false) := fun h => by
      rw [ne_pln (told_pln _) (told_pln _), eqB_refl (told_pln _)]; rfl
    have hn := hS_new (u := u) (now := now) (ps := ps) (K := K) (t := t) (.dct (x.m.map shK))
    have a2 := V2.at2 hx
    have ne2 := ne_dct (asK_refK hn) (asK_refK a2) (eqD_refK hn _) (eqKD_sh (B.u x hm))
    have bl := bList_refK a2
    have vc := V.claims
    have vi := V.claim hx
    have vs := V2.shows
    have vj := V2.shw hx
    have l1 := wordsP_takeL (ps := ps) (i + 1)
    rw [wt, List.length_append] at l1
    have l2 := B.n
    have ad : ∀ h, opAdd h (.lst ((wordsP (ps.take i)).map .int)) (.lst ((keysM x.m).map .int)) = some (.lst ((wordsP (ps.take (i + 1))).map .int)) := fun h => by
      rw [add_lst (by rw [List.length_map, List.length_map]; omega), wt, List.map_append]
    refine ⟨_, rfl, _, _, ?_, t ++ [.dct (x.m.map shK)], rfl, rfl⟩
    simp only [Int.zero_add]
    clear V V2 a2 hn
    generalize hS u now ps K (t ++ [.dct (x.m.map shK)]) = h2 at *
    generalize hS u now ps K t = hh at *
    generalize x.c.told = cD at *
    simp_all! only [5, b48_0, me_E, meD_some, mt, ms, tl, sf, vc, vi, vs, vj, ne1, ne2, bl, ad]) (e := [some (.ref u.length), some (.ref (u.length + 2 + ps.length)), some (.lst []), none]) (h := hS u now ps K t) ⟨t, rfl, rfl⟩
  rw [List.take_length] at q
  exact ⟨t', q⟩
end
/-! the book and the model agree -/
section
variable {u t : Hh} {now : Int} {ps : List Ps} {K : Sb.D}
theorem plnsI (n : Nat) : ∀ l : List Int, plns (n + 1) (l.map .int) = true
  | [] => rfl
  | a :: l => by
    show (pln (n + 1) (.int a) && plns (n + 1) (l.map .int)) = true
    rw [plnsI n l]; rfl
theorem e_stands (k : Nat) {N : Nat} (B : BkI N ps) (hN : N ≤ 60) (hK : IsL u K (ps.map fun x => x.p.D)) : ∃ t', S (k + 9) 48 [.ref u.length, .ref (u.length + 2 + ps.length)] (hS u now ps K t) = .ok (.bl true) (hS u now ps K t') := by
  obtain ⟨t1, lp⟩ := stands_loop k (t := t) (now := now) B hN hK
  have l1 := B.l1
  have hx : ps[0]? = some ps[0] := List.getElem?_eq_getElem (by omega)
  have hm := List.getElem_mem (l := ps) (n := 0) (by omega)
  generalize ps[0] = x at *
  have V := hS_mv (t := t) (now := now) hK
  have td := e_today (k + 7) (bv_heap (u := u) (t := mT (u.length + 2 + ps.length) K now ps t) (now := now) B.l3)
  rw [show hB u now ps (mT (u.length + 2 + ps.length) K now ps t) = hS u now ps K t from rfl] at td
  have mt : meS (.ref u.length) ((M (k + 8)).me false [(8, 26, [])]) "today" (hS u now ps K t) = some (S (k + 8) 26, []) := meS_of hS_ins rfl rfl
  have ms : ∀ t, meS (.ref u.length) ((M (k + 8)).me false [(8, 34, [])]) "shown_for" (hS u now ps K t) = some (S (k + 8) 34, []) := fun t => meS_of hS_ins rfl rfl
  have ma : ∀ t, meS (.ref u.length) ((M (k + 8)).me false [(8, 38, [])]) "all_shown" (hS u now ps K t) = some (S (k + 8) 38, []) := fun t => meS_of hS_ins rfl rfl
  have sf : ∀ t, S (k + 8) 34 [.ref u.length, .int 0] (hS u now ps K t) = .ok (.ref (hS u now ps K t).length) (hS u now ps K (t ++ [.dct (x.m.map shK)])) := fun t => shfor_S (k + 5) B.l3 hx
  have al : ∀ t, S (k + 8) 38 [.ref u.length] (hS u now ps K t) = .ok (.ref (hS u now ps K t).length) (hS u now ps K (t ++ [.lst ((allSh ps).map .int)])) := fun t => allsh_S (k + 7) B.l3
  have cl : ∀ t, clD (.ref (hS u now ps K t).length) (hS u now ps K (t ++ [.dct (x.m.map shK)])) = .ok .non (hS u now ps K (t ++ [.dct []])) := fun t => by rw [clD_ref (hS_new _), hS_set]
  have la : (allSh ps).length ≤ 60 := by
    unfold allSh
    exact Nat.le_trans (List.length_filter_le _ _) (by decide)
  have ap : ∀ t, mAppend (hS u now ps K (t ++ [.lst ((allSh ps).map .int)])) (.ref (hS u now ps K t).length) [.int 99] = some (.non, hS u now ps K (t ++ [.lst ((allSh ps).map .int ++ [.int 99])])) := fun t => by
    rw [append_ref (hS_new _) (by rw [List.length_map]; omega), hS_set]
  have cs : ∀ t, cLst (hS u now ps K (t ++ [.lst ((allSh ps).map .int)])) (.ref (hS u now ps K t).length) = true := fun t => cLst_ref (hS_new _)
  have wl := B.n
  have ss : ∀ h, opSst h (.lst ((wordsP ps).map .int)) = some (.lst ((allSh ps).map .int)) := fun h => by
    unfold opSst
    rw [show asL h (.lst ((wordsP ps).map Sb.D.int)) = some ((wordsP ps).map .int) from rfl, Option.bind_some, intsD_map]
    dsimp only
    rw [if_pos (by omega), allSh_sort B.w]
  have eq1 : ∀ t, cmpD .Eq (hS u now ps K (t ++ [.lst ((allSh ps).map .int)])) (.ref (hS u now ps K t).length) (.lst ((allSh ps).map .int)) = some (.bl true) := fun t => by
    have pl : pln 64 (.lst ((allSh ps).map Sb.D.int)) = true := plnsI 62 _
    have dr : deref (hS u now ps K (t ++ [.lst ((allSh ps).map .int)])) (.ref (hS u now ps K t).length) = .lst ((allSh ps).map .int) := deref_ref (hS_new _)
    rw [eq_dr (by rw [dr]; exact pl) (by exact pl), dr]
    show some (Sb.D.bl (eqB (.lst ((allSh ps).map Sb.D.int)) (.lst ((allSh ps).map .int)))) = _
    rw [eqB_refl pl]
  have eq2 : ∀ t, cmpD .Eq (hS u now ps K (t ++ [.dct (x.m.map shK)])) (.ref (hS u now ps K t).length) (.ref (u.length + 2 + ps.length + 2 + 0)) = some (.bl true) := fun t => eq_dct (asK_refK (hS_new _)) (asK_refK ((hS_mv hK).at2 hx)) (eqD_refK (hS_new _) _) (eqKD_sh (B.u x hm))
  have vs : ∀ t, opIdx (hS u now ps K t) (.ref (u.length + 2 + ps.length)) (.str "shows") = some (.ref (u.length + 2 + ps.length + 2 + ps.length)) := fun t => (hS_mv hK).shows
  have vj : ∀ t, opIdx (hS u now ps K t) (.ref (u.length + 2 + ps.length + 2 + ps.length)) (.int 0) = some (.ref (u.length + 2 + ps.length + 2 + 0)) := fun t => (hS_mv hK).shw hx
  have vd := V.day
  have vp := V.pots
  have vl := V.len
  have tn : ((ps.length : Nat) : Int).toNat = ps.length := Int.toNat_natCast _
  have l3 := B.l3
  refine ⟨t1 ++ [.dct []] ++ [.lst ((allSh ps).map .int ++ [.int 99])] ++ [.lst ((allSh ps).map .int)] ++ [.dct (x.m.map shK)], ?_⟩
  rw [q48]
  clear V l1 hK B hx
  generalize (allSh ps).map Sb.D.int = A at *
  generalize x.m.map shK = X at *
  generalize (wordsP ps).map Sb.D.int = W at *
  generalize hS u now ps K = F at *
  generalize u.length + 2 + ps.length + 2 + 0 = b4 at *
  generalize u.length + 2 + ps.length + 2 + ps.length = b3 at *
  generalize u.length + 2 + ps.length = b at *
  simp_all! only [5, b48, me_E, meD_some, mt, ms, ma, sf, al, cl, ap, cs, ss, eq1, eq2, vs, vj, vd, vp, vl, tn, lp, td, dcr_E]
end
/-! one deed of the law -/
theorem words_cons (z : Ps) (l : List Ps) : (wordsP (z :: l)).length = z.m.length + (wordsP l).length := by
  show (keysM z.m ++ wordsP l).length = _
  rw [List.length_append]
  unfold keysM
  rw [List.length_map]
theorem words_set (ps : List Ps) : ∀ {i : Nat} {x y : Ps}, ps[i]? = some x → (wordsP (ps.set i y)).length + x.m.length = (wordsP ps).length + y.m.length := by
  induction ps with
  | nil => intro i x y h; cases h
  | cons z ps ih =>
    intro i x y h
    cases i with
    | zero =>
      rw [List.getElem?_cons_zero] at h
      obtain rfl := Option.some.inj h
      rw [List.set_cons_zero, words_cons, words_cons]
      omega
    | succ i =>
      rw [List.getElem?_cons_succ] at h
      have := ih (y := y) h
      rw [List.set_cons_succ, words_cons, words_cons]
      omega
theorem mem_set14 {α : Type} {l : List α} {i : Nat} {x y : α} (h : y ∈ l.set i x) : y = x ∨ y ∈ l := by
  obtain ⟨j, hj, e⟩ := List.mem_iff_getElem.mp h
  rw [List.getElem_set] at e
  split at e
  · exact .inl e.symm
  · rw [← e]; exact .inr (List.getElem_mem _)
theorem seM_keys {m : List (Int × Int)} {w now : Int} : ∀ q ∈ seM m w now, q ∈ m ∨ q = (w, now) := fun q hq => by
  unfold seM at hq
  split at hq
  · exact .inl hq
  · rcases List.mem_append.mp hq with z | z
    · exact .inl z
    · exact .inr (List.mem_singleton.mp z)
theorem seM_uniq {m : List (Int × Int)} {w now : Int} (u : Uniq m) : Uniq (seM m w now) := by
  unfold seM
  cases q : getM m w with
  | some v => exact u
  | none =>
    rw [← putM_new q]
    exact put_uniq u w now
theorem seM_len1 (m : List (Int × Int)) (w now : Int) : (seM m w now).length ≤ m.length + 1 := by
  unfold seM
  split <;> simp
theorem ps_set {ps : List Ps} {i : Nat} {x y : Ps} (hx : ps[i]? = some x) (hp : y.p = x.p) : (ps.set i y).map Ps.p = ps.map Ps.p := by
  rw [List.map_set]
  apply List.ext_getElem?
  intro j
  rw [List.getElem?_set]
  split
  · rename_i c; subst c
    rw [List.getElem?_map, hx, List.length_map, if_pos (List.getElem?_eq_some_iff.mp hx).1, hp]; rfl
  · rfl
theorem BkI.set {N : Nat} {ps : List Ps} (B : BkI N ps) {i : Nat} {x y : Ps} (hx : ps[i]? = some x) (hp : y.p = x.p) (hu : Uniq y.m) (hw : ∀ q ∈ y.m, 0 ≤ q.1 ∧ q.1 ≤ 59) (hn : y.m.length ≤ x.m.length + 1) : BkI (N + 1) (ps.set i y) := by
  have hm := List.mem_of_getElem? hx
  refine ⟨by rw [List.length_set]; exact B.l3, by rw [List.length_set]; exact B.l1, fun z hz => ?_, fun z hz => ?_, fun z hz => ?_, ?_⟩
  · rcases mem_set14 hz with rfl | hz
    · rw [hp]; exact B.p x hm
    · exact B.p z hz
  · rcases mem_set14 hz with rfl | hz
    · exact hu
    · exact B.u z hz
  · rcases mem_set14 hz with rfl | hz
    · exact hw
    · exact B.w z hz
  · have := words_set ps (y := y) hx
    have := B.n
    omega
theorem BkI.up {N : Nat} {ps : List Ps} (B : BkI N ps) : BkI (N + 1) ps := ⟨B.l3, B.l1, B.p, B.u, B.w, by have := B.n; omega⟩
theorem Rn.inv {N : Nat} {now now' : Int} {ps ps' : List Ps} {d : Dd} {r : Str} (B : BkI N ps) (R : Rn now ps d r now' ps') : BkI (N + 1) ps' ∧ ps'.map Ps.p = ps.map Ps.p := by
  cases R with
  | day => exact ⟨B.up, rfl⟩
  | shwN => exact ⟨B.up, rfl⟩
  | stkO => exact ⟨B.up, rfl⟩
  | stkN => exact ⟨B.up, rfl⟩
  | layO => exact ⟨B.up, rfl⟩
  | layS => exact ⟨B.up, rfl⟩
  | layD => exact ⟨B.up, rfl⟩
  | @shw i x w hx hw =>
    have hm := List.mem_of_getElem? hx
    refine ⟨B.set hx rfl (seM_uniq (B.u x hm)) (fun q hq => ?_) (seM_len1 _ _ _), ps_set hx rfl⟩
    rcases seM_keys q hq with z | rfl
    · exact B.w x hm q z
    · exact hw
  | @stk i x sd th hx hs ht may =>
    have hm := List.mem_of_getElem? hx
    exact ⟨B.set hx rfl (B.u x hm) (B.w x hm) (Nat.le_succ _), ps_set hx rfl⟩
  | @lay i x sd y agr hx hs yo ys pa m =>
    have hm := List.mem_of_getElem? hx
    exact ⟨B.set hx rfl (B.u x hm) (B.w x hm) (Nat.le_succ _), ps_set hx rfl⟩
section
variable {u : Hh} {K : Sb.D}
theorem turn14 (k : Nat) {N : Nat} {now : Int} {ps : List Ps} {t : Hh} (B : BkI N ps) (hN : N < 60) (hK : IsL u K (ps.map fun x => x.p.D)) (a b : Option Sb.D) (c : Int) : ∃ now' ps' t', evB (M (k + 10)) none b49_0 [a, b, none, some (.ref u.length), some (.ref (u.length + 2 + ps.length)), some (.int c), none, none, none] (hS u now ps K t) = .nx [a, b, none, some (.ref u.length), some (.ref (u.length + 2 + ps.length)), none, none, none, none] (hS u now' ps' K t') ∧ BkI (N + 1) ps' ∧ ps'.map Ps.p = ps.map Ps.p := by
  have V := hS_mv (t := t) (now := now) hK
  have hm := B.m
  have hm' : ∀ x ∈ ps, x.m.length ≤ 1000 := fun x hx => by have := hm x hx; omega
  obtain ⟨d, dd, wd⟩ := e_deed (k + 1) V B.l1 B.l3 B.p c
  obtain ⟨r, now', ps', R⟩ := rn_any now ps d wd
  obtain ⟨B', ep⟩ := R.inv B
  have ln : ps'.length = ps.length := by
    have := congrArg List.length ep
    rw [List.length_map, List.length_map] at this
    exact this
  have ep2 : (ps'.map fun x => x.p.D) = ps.map fun x => x.p.D := by
    have := congrArg (List.map Pt.D) ep
    rw [List.map_map, List.map_map] at this
    exact this
  have dn := e_done (k + 1) (u := u) (t := mT (u.length + 2 + ps.length) K now ps t) B.l3 (fun x hx => (B.p x hx).ok) hm' R
  have du := e_due (k + 8) (u := u) (t := t) (nb := now') (bs := ps') hK ln hm' R
  rw [ln] at du
  obtain ⟨t', st⟩ := e_stands (k + 1) (u := u) (t := t) (now := now') B' (by omega) (by rw [ep2]; exact hK)
  rw [ln] at st
  have e1 : hB u now' ps' (mT (u.length + 2 + ps.length) K now' ps' t) = hS u now' ps' K t := by unfold hS; rw [ln]
  rw [e1] at du
  rw [show hB u now ps (mT (u.length + 2 + ps.length) K now ps t) = hS u now ps K t from rfl] at dn
  have so : PyData.strOk r = true := by cases R <;> decide +kernel
  have ne : ∀ h, cmpD .NotEq h (.str r) (.str r) = some (.bl false) := fun h => by rw [ne_pln (pln_str so) (pln_str so), eqB_refl (n := 3) (pln_str so)]; rfl
  have dd2 : S (k + 10) 44 [.ref (u.length + 2 + ps.length), .int c] (hS u now ps K t) = .ok d.D (hS u now ps K t) := dd
  have dn2 : S (k + 10) 47 [.ref u.length, d.D] (hS u now ps K t) = .ok (.str r) (hB u now' ps' (mT (u.length + 2 + ps.length) K now ps t)) := dn
  have du2 : S (k + 10) 46 [.ref (u.length + 2 + ps.length), d.D] (hB u now' ps' (mT (u.length + 2 + ps.length) K now ps t)) = .ok (.str r) (hS u now' ps' K t) := du
  have st2 : S (k + 10) 48 [.ref u.length, .ref (u.length + 2 + ps.length)] (hS u now' ps' K t) = .ok (.bl true) (hS u now' ps' K t') := st
  refine ⟨now', ps', t', ?_, B', ep⟩
  clear dd dn du st V R B B' hm hm' hK e1 ep2 ep ln wd
  generalize hB u now' ps' (mT (u.length + 2 + ps.length) K now ps t) = hm2 at *
  generalize hS u now' ps' K t' = h4 at *
  generalize hS u now' ps' K t = h3 at *
  generalize hS u now ps K t = h1 at *
  generalize d.D = dD at *
  generalize u.length + 2 + ps.length = bb at *
  simp_all! only [1, b49_0, dd2, dn2, du2, st2, ne]
end
theorem cut_sub {α : Type} (l : List α) (lo hi : Option Int) : ∀ x ∈ cut l lo hi, x ∈ l := fun x hx => List.mem_of_mem_drop (List.mem_of_mem_take hx)
theorem cut_len {α : Type} (l : List α) (lo hi : Option Int) : (cut l lo hi).length ≤ l.length := by
  unfold cut
  rw [List.length_take, List.length_drop]
  omega
theorem cut1 {α : Type} (x : α) (l : List α) : cut (x :: l) none (some 1) = [x] := by
  unfold cut
  have e : HT.sIx (x :: l).length (x :: l).length (some 1) = 1 := by
    unfold HT.sIx
    simp
  have e2 : HT.sIx (x :: l).length 0 none = 0 := rfl
  rw [e, e2]; rfl
theorem pots_rep {pts : List Pt} (h : pts ≠ []) : ∃ pts' : List Pt, (List.replicate pts.length (cut (pts.map Pt.D) none (some 1))).flatten = pts'.map Pt.D ∧ pts'.length = pts.length ∧ ∀ p ∈ pts', p ∈ pts := by
  cases pts with
  | nil => exact absurd rfl h
  | cons p l =>
    refine ⟨List.replicate (l.length + 1) p, ?_, by simp, fun q hq => by rw [(List.mem_replicate.mp hq).2]; exact List.mem_cons_self⟩
    rw [List.map_cons, cut1, List.map_replicate, List.length_cons]
    induction l.length + 1 with
    | zero => rfl
    | succ n ih => rw [List.replicate_succ, List.flatten_cons, ih, List.replicate_succ]; rfl
theorem PtT.r' {p : Pt} (h : PtT p) : PtR p := by
  have h1 := h.l
  have h2 := h.r
  have h3 := h.a
  have h4 := h.b
  have h5 := h.w
  exact ⟨by omega, by omega, by omega, by omega, by omega, by omega⟩
theorem new0_len (pts : List Pt) : (new0 pts).length = pts.length := by unfold new0; rw [List.length_map]
theorem e_model (k : Nat) {pts : List Pt} (hl : pts.length ≤ 3) {u : Hh} {K : Sb.D} (I : IsL u K (pts.map Pt.D)) (a c : Option Sb.D) : dDis (evP (M k) none (.cons (.cst (.str "pots")) (.var 1) (.cons (.cst (.str "day")) (.cst (.int 0)) (.cons (.cst (.str "claims")) (.cmn x49_2 (.nm 8) (.seq (.var 1)) .no [("_law_pot", 8)]) (.cons (.cst (.str "shows")) (.cmn x49_1 (.nm 8) (.seq (.var 1)) .no [("_law_pot", 8)]) .nil))))) [a, some K, none, c, none, none, none, none, none] (hB u 0 (new0 pts) []) = .ok (.ref (u.length + 2 + pts.length)) (hS u 0 (new0 pts) K []) := by
  have hH : ∀ t, (hB u 0 (new0 pts) t).length = u.length + 2 + pts.length + t.length := fun t => by rw [hB_len, new0_len]
  have IA : ∀ t, IsL (hB u 0 (new0 pts) t) K (pts.map Pt.D) := fun t => by unfold hB; exact I.app _
  have ln : (pts.map Pt.D).length ≤ 16777216 := by rw [List.length_map]; omega
  have c1 : compDN K (.nm 8) bYes (evE (M k) none x49_2) [8] [a, some K, none, c, none, none, none, none, none] (hB u 0 (new0 pts) [.dct []]) = .ok (.ref (u.length + 2 + pts.length + 1)) (hB u 0 (new0 pts) [.dct [], .lst (pts.map fun _ => .tup [.str "held"])]) := by
    rw [(IA _).compN ln]
    have z := compS_keep (a := seqAt K) (g := .nm 8) (f := evE (M k) none x49_2) (e := [a, some K, none, c, none, none, none, none, none]) (h := hB u 0 (new0 pts) [.dct []]) (φ := Pt.D) (ψ := fun p => .tup [.str "held"]) (l := pts) (fun i => (IA _).seq i) (fun p hp => ⟨_, rfl, by
      simp_all! only [1, x49_2]⟩) pts.length 0 (Nat.zero_add _)
    rw [show wipeE [a, some K, none, c, none, none, none, none, none] [8] = [a, some K, none, c, none, none, none, none, none] from rfl, List.length_map, z, List.drop_zero]
    show R.ok (Sb.D.ref (hB u 0 (new0 pts) [.dct []]).length) (hB u 0 (new0 pts) [.dct []] ++ [.lst _]) = _
    rw [hH, hB_app]; rfl
  have c2 : compDN K (.nm 8) bYes dDnw [8] [a, some K, none, c, none, none, none, none, none] (hB u 0 (new0 pts) [.dct [], .lst (pts.map fun _ => .tup [.str "held"])]) = .ok (.ref (u.length + 2 + pts.length + 2 + pts.length)) (hB u 0 (new0 pts) ([.dct [], .lst (pts.map fun _ => .tup [.str "held"])] ++ (List.replicate pts.length (.dct []) ++ [.lst (mRefs (u.length + 2 + pts.length) pts.length)]))) := by
    rw [(IA _).compN ln]
    have z := compS_dnw (a := seqAt K) (l := pts.map Pt.D) (j := 8) (e := [a, some K, none, c, none, none, none, none, none]) (h := hB u 0 (new0 pts) []) (fun t i => by rw [hB_app]; exact (IA _).seq i) (pts.map Pt.D).length 0 [.dct [], .lst (pts.map fun _ => .tup [.str "held"])] (Nat.zero_add _)
    rw [hB_app, List.nil_append, List.length_map, hH, hB_app] at z
    rw [show wipeE [a, some K, none, c, none, none, none, none, none] [8] = [a, some K, none, c, none, none, none, none, none] from rfl, List.length_map, z]
    show R.ok (Sb.D.ref (hB u 0 (new0 pts) _).length) (hB u 0 (new0 pts) _ ++ [.lst _]) = _
    rw [hH, hB_app, List.append_assoc, List.length_append, List.length_replicate]
    simp only [List.length_cons, List.length_nil, Nat.zero_add, Nat.reduceAdd]
    rw [show u.length + 2 + pts.length + (2 + pts.length) = u.length + 2 + pts.length + 2 + pts.length by omega]
    rfl
  have cs := fun (fs : F Sb.D) => comp_seqN fs
  have pr : dPrs (evP (M k) none (.cons (.cst (.str "pots")) (.var 1) (.cons (.cst (.str "day")) (.cst (.int 0)) (.cons (.cst (.str "claims")) (.cmn x49_2 (.nm 8) (.seq (.var 1)) .no [("_law_pot", 8)]) (.cons (.cst (.str "shows")) (.cmn x49_1 (.nm 8) (.seq (.var 1)) .no [("_law_pot", 8)]) .nil))))) [a, some K, none, c, none, none, none, none, none] (hB u 0 (new0 pts) [.dct []]) = .ok (MD (u.length + 2 + pts.length) K 0 pts.length) (hB u 0 (new0 pts) ([.dct [], .lst (pts.map fun _ => .tup [.str "held"])] ++ (List.replicate pts.length (.dct []) ++ [.lst (mRefs (u.length + 2 + pts.length) pts.length)]))) := by
    have x1 : evE (M k) none x49_1 = dDnw := rfl
    unfold MD
    generalize hB u 0 (new0 pts) = F at *
    simp_all! only [1, evP, dPrs, evQ, x1, c1, c2, comp_seqN, keyD]
  have hs := hB_setX (u := u) (now := 0) (ps := new0 pts) (X := [.dct [], .lst (pts.map fun _ => .tup [.str "held"])] ++ (List.replicate pts.length (.dct []) ++ [.lst (mRefs (u.length + 2 + pts.length) pts.length)])) 0 (.dct (MD (u.length + 2 + pts.length) K 0 pts.length))
  have ha := hB_at (u := u) (now := 0) (ps := new0 pts) (X := [.dct [], .lst (pts.map fun _ => .tup [.str "held"])] ++ (List.replicate pts.length (.dct []) ++ [.lst (mRefs (u.length + 2 + pts.length) pts.length)])) 0
  rw [new0_len, Nat.add_zero] at hs ha
  unfold dDis
  rw [hB_app, List.nil_append, hH, pr]
  show (match (hB u 0 (new0 pts) _)[u.length + 2 + pts.length + 0]? with | some (.dct []) => R.ok (Sb.D.ref (u.length + 2 + pts.length + 0)) ((hB u 0 (new0 pts) _).set (u.length + 2 + pts.length + 0) (.dct (mergeD [] (MD (u.length + 2 + pts.length) K 0 pts.length)))) | _ => .fail) = _
  rw [Nat.add_zero, ha, show mergeD [] (MD (u.length + 2 + pts.length) K 0 pts.length) = MD (u.length + 2 + pts.length) K 0 pts.length from rfl, hs]
  show R.ok _ _ = R.ok _ _
  congr 1
  unfold hS mT
  rw [new0_len]
  congr 1
  have e1 : ((new0 pts).map fun x => x.c.told) = pts.map fun _ => .tup [.str "held"] := by unfold new0; rw [List.map_map]; rfl
  have e2 : ((new0 pts).map fun x => O.dct (x.m.map shK)) = List.replicate pts.length (.dct []) := by
    unfold new0
    rw [List.map_map, List.eq_replicate_iff]
    refine ⟨by simp, fun b hb => ?_⟩
    obtain ⟨p, _, rfl⟩ := List.mem_map.mp hb
    rfl
  rw [e1, e2]; rfl
theorem cut_40 {α : Type} (l : List α) : (cut l (some 4) (some 44)).length ≤ 40 := by
  unfold cut
  rw [List.length_take, List.length_drop]
  have e4 : HT.sIx l.length 0 (some 4) = min 4 l.length := by
    unfold HT.sIx
    simp
  have e5 : HT.sIx l.length l.length (some 44) = min 44 l.length := by
    unfold HT.sIx
    simp
  omega
theorem rest14 (ns : List Int) (hl : ns.length ≤ 63) {pts : List Pt} {u : Hh} {K : Sb.D} (l1 : 1 ≤ pts.length) (l3 : pts.length ≤ 3) (I : IsL u K (pts.map Pt.D)) (PS : ∀ p ∈ pts, PtT p) : ∃ now ps t, forL (.nm 5) (evB (M 14) none b49_0) (cut (ns.map Sb.D.int) (some 4) (some 44)) [some (.scr ns), some K, none, some (.ref u.length), some (.ref (u.length + 2 + pts.length)), none, none, none, none] (hS u 0 (new0 pts) K []) = .nx [some (.scr ns), some K, none, some (.ref u.length), some (.ref (u.length + 2 + pts.length)), none, none, none, none] (hS u now ps K t) := by
  have ep0 : (new0 pts).map Ps.p = pts := by unfold new0; rw [List.map_map]; exact List.map_id' pts
  have B0 : BkI 0 (new0 pts) := ⟨by rw [new0_len]; exact l3, by rw [new0_len]; exact l1, fun x hx => by
    obtain ⟨p, hp, rfl⟩ := List.mem_map.mp hx
    exact PS p hp, fun x hx => by
    obtain ⟨p, hp, rfl⟩ := List.mem_map.mp hx
    exact List.Pairwise.nil, fun x hx q hq => by
    obtain ⟨p, hp, rfl⟩ := List.mem_map.mp hx
    exact absurd hq (by simp), by
    unfold wordsP new0
    rw [List.map_map]
    have : (pts.map ((fun x => keysM x.m) ∘ fun p => (⟨p, .held, []⟩ : Ps))).flatten = [] := by
      rw [List.flatten_eq_nil_iff]
      intro l hl
      obtain ⟨p, _, rfl⟩ := List.mem_map.mp hl
      rfl
    rw [this]; exact Nat.le_refl 0⟩
  have ct := cut_40 (ns.map Sb.D.int)
  obtain ⟨e', h', q, now, ps, t, rfl, rfl, B, ek⟩ := forL_ind (g := .nm 5) (b := evB (M 14) none b49_0) (l := cut (ns.map Sb.D.int) (some 4) (some 44)) (I := fun i e h => ∃ now ps t, e = [some (.scr ns), some K, none, some (.ref u.length), some (.ref (u.length + 2 + pts.length)), none, none, none, none] ∧ h = hS u now ps K t ∧ BkI i ps ∧ ps.map Ps.p = pts) (fun i d e h hd ⟨now, ps, t, he, hh, B, ek⟩ => by
    subst he
    subst hh
    obtain ⟨c, _, rfl⟩ := List.mem_map.mp (cut_sub _ _ _ d (List.mem_of_getElem? hd))
    have il : i < 59 := by
      have := (List.getElem?_eq_some_iff.mp hd).1
      omega
    have pl : ps.length = pts.length := by rw [← ek, List.length_map]
    have ek2 : (ps.map fun x => x.p.D) = pts.map Pt.D := by rw [← ek, List.map_map]; rfl
    obtain ⟨now', ps', t', tq, B', ep⟩ := turn14 4 (t := t) (now := now) B (by omega) (by rw [ek2]; exact I) (some (.scr ns)) (some K) c
    rw [pl] at tq
    exact ⟨_, rfl, _, _, tq, now', ps', t', rfl, rfl, B', ep.trans ek⟩) (e := [some (.scr ns), some K, none, some (.ref u.length), some (.ref (u.length + 2 + pts.length)), none, none, none, none]) (h := hS u 0 (new0 pts) K []) ⟨0, _, [], rfl, rfl, B0, ep0⟩
  exact ⟨now, ps, t, q⟩
theorem law_true (ns : List Int) (hl : ns.length ≤ 63) : ∃ h, S (14 + 1) 49 [.scr ns] [] = .ok (.bl true) h := by
  have hn : (1 + cellAt ns 0 % 3).toNat ≤ 3 := by omega
  obtain ⟨e', h', q0, pts0, rfl, rfl, pl0, PT0⟩ := forL_rng (g := .nm 2) (b := evB (M 14) none b49_3) (lo := 0) (n := (1 + cellAt ns 0 % 3).toNat) (I := fun i e h => ∃ pts : List Pt, e = [some (.scr ns), some (.ref 0), none, none, none, none, none, none, none] ∧ h = [.lst (pts.map Pt.D)] ∧ pts.length = i ∧ ∀ p ∈ pts, PtT p) (fun i e h hi ⟨pts, he, hh, hl, hp⟩ => by
    subst he
    subst hh
    generalize hm : mixed (cellAt ns (1 + i)) 30 = m
    have ap : ∀ y : Sb.D, mAppend [.lst (pts.map Pt.D)] (.ref 0) [y] = some (.non, [.lst (pts.map Pt.D ++ [y])]) := fun y => by
      rw [append_ref (l := pts.map Pt.D) rfl (by rw [List.length_map]; omega)]; rfl
    have cl : cLst [.lst (pts.map Pt.D)] (.ref 0) = true := cLst_ref (l := pts.map Pt.D) rfl
    refine ⟨_, rfl, ?_⟩
    have e1 := fun h => e_at 13 ns (1 + (i : Int)) h (by omega)
    simp_all! only [1, b49_3, e_mixed, Int.zero_add, e1, hm, ap, cl]
    refine ⟨_, _, rfl, pts ++ [⟨m % 2, 2 + m / 2 % 2, m / 4 % 41, m / 164 % 21, 1 + m / 4000 % 6⟩], rfl, ?_, by simp [hl], ?_⟩
    · rw [List.map_append]; rfl
    · intro p hp'
      rcases List.mem_append.mp hp' with z | z
      · exact hp p z
      · rw [List.mem_singleton] at z
        subst z
        exact ⟨by dsimp only; omega, by dsimp only; omega, by dsimp only; omega, by dsimp only; omega, by dsimp only; omega⟩) (e := [some (.scr ns), some (.ref 0), none, none, none, none, none, none, none]) (h := [.lst []]) ⟨[], rfl, rfl, rfl, by simp⟩
  have n0 : pts0 ≠ [] := by
    intro z
    rw [z] at pl0
    simp only [List.length_nil] at pl0
    omega
  have l3 : pts0.length ≤ 3 := by omega
  have l1 : 1 ≤ pts0.length := List.length_pos_iff.mpr n0
  have e0 := fun h => e_at 13 ns 0 h (by omega)
  have sl : ∀ h, opSl h (.scr ns) (some 4) (some 44) = some (.lst (cut (ns.map Sb.D.int) (some 4) (some 44))) := fun h => rfl
  by_cases c : cellAt ns 0 / 3 % 4 = 1
  · obtain ⟨pts, hK, pl, pm⟩ := pots_rep n0
    have I : IsL [.lst (pts0.map Pt.D)] (.lst (pts.map Pt.D)) (pts.map Pt.D) := .inl rfl
    have PS : ∀ p ∈ pts, PtT p := fun p hp => PT0 p (pm p hp)
    have mk := e_mkBookR 11 (fun p hp => (PS p hp).r') (by omega) I
    have md := e_model 14 (by omega) I (some (.scr ns)) (some (.ref 1))
    obtain ⟨now, ps, t, q⟩ := rest14 ns hl (by omega) (by omega) I PS
    have s1 : opSl [.lst (pts0.map Pt.D)] (.ref 0) none (some 1) = some (.lst (cut (pts0.map Pt.D) none (some 1))) := rfl
    have c1 : (cut (pts0.map Pt.D) none (some 1)).length ≤ 1000 := by have := cut_len (pts0.map Pt.D) none (some 1); rw [List.length_map] at this; omega
    have mu : ∀ h, opMul h (.lst (cut (pts0.map Pt.D) none (some 1))) (.int pts0.length) = some (.lst (List.replicate pts0.length (cut (pts0.map Pt.D) none (some 1))).flatten) := fun h => by
      rw [mul_lst ⟨by omega, by omega, c1⟩, Int.toNat_natCast]
    have l0 : bLen [.lst (pts0.map Pt.D)] [.ref 0] = some (.int pts0.length) := by rw [len_ref (l := pts0.map Pt.D) rfl, List.length_map]
    rw [hK] at mu
    refine ⟨hS [.lst (pts0.map Pt.D)] now ps (.lst (pts.map Pt.D)) t, ?_⟩
    rw [q49]
    simp only [List.length_cons, List.length_nil, Nat.zero_add] at mk md q
    clear I PS pm PT0
    generalize cut (pts0.map Pt.D) none (some 1) = cu at *
    generalize cut (ns.map Sb.D.int) (some 4) (some 44) = cc at *
    generalize (.lst (pts.map Pt.D) : Sb.D) = K at *
    generalize hS [.lst (pts0.map Pt.D)] now ps K t = h9 at *
    generalize hS [.lst (pts0.map Pt.D)] 0 (new0 pts) K [] = h8 at *
    generalize hB [.lst (pts0.map Pt.D)] 0 (new0 pts) [] = h7 at *
    simp_all! only [1, b49, dNew, List.length_nil, List.nil_append, e0, q0, c, s1, l0, mu, mk, md, sl, q]
  · have I : IsL [.lst (pts0.map Pt.D)] (.ref 0) (pts0.map Pt.D) := .inr ⟨0, rfl, rfl⟩
    have mk := e_mkBookR 11 (fun p hp => (PT0 p hp).r') (by omega) I
    have md := e_model 14 (by omega) I (some (.scr ns)) (some (.ref 1))
    obtain ⟨now, ps, t, q⟩ := rest14 ns hl (by omega) (by omega) I PT0
    refine ⟨hS [.lst (pts0.map Pt.D)] now ps (.ref 0) t, ?_⟩
    rw [q49]
    simp only [List.length_cons, List.length_nil, Nat.zero_add] at mk md q
    clear I PT0
    generalize cut (ns.map Sb.D.int) (some 4) (some 44) = cc at *
    generalize hS [.lst (pts0.map Pt.D)] now ps (.ref 0) t = h9 at *
    generalize hS [.lst (pts0.map Pt.D)] 0 (new0 pts0) (.ref 0) [] = h8 at *
    generalize hB [.lst (pts0.map Pt.D)] 0 (new0 pts0) [] = h7 at *
    simp_all! only [1, b49, dNew, List.length_nil, List.nil_append, e0, q0, c, mk, md, sl, q]

abbrev rw0 := PySem.Challenge.rw_sidebook_k14_deeds_in_the_book
def top (i : Nat) : Stmt := rw0.prog.main.body.getD i (.Pass ⟨0, 0, 0, 0⟩)
def sub (i j : Nat) : Stmt := (match top i with
  | .ClassDef _ _ _ b _ _ _ _ _ _ _ => b
  | _ => []).getD j (.Pass ⟨0, 0, 0, 0⟩)
def d0 : He.DefD := ⟨("_wall", none), "_wall", "_wall", defArgs (top 0), defBody (top 0), defScope (top 0), [], []⟩
def d1 : He.DefD := ⟨("Claim", some "told"), "told", "Claim.told", defArgs (sub 2 0), defBody (sub 2 0), defScope (sub 2 0), [], []⟩
def d2 : He.DefD := ⟨("Claim", some "comes"), "comes", "Claim.comes", defArgs (sub 2 1), defBody (sub 2 1), defScope (sub 2 1), [], []⟩
def d3 : He.DefD := ⟨("Claim", some "may_strike"), "may_strike", "Claim.may_strike", defArgs (sub 2 2), defBody (sub 2 2), defScope (sub 2 2), [], []⟩
def d4 : He.DefD := ⟨("Held", some "__init__"), "__init__", "Held.__init__", defArgs (sub 3 0), defBody (sub 3 0), defScope (sub 3 0), [], []⟩
def d5 : He.DefD := ⟨("Held", some "told"), "told", "Held.told", defArgs (sub 3 1), defBody (sub 3 1), defScope (sub 3 1), [], []⟩
def d6 : He.DefD := ⟨("Held", some "comes"), "comes", "Held.comes", defArgs (sub 3 2), defBody (sub 3 2), defScope (sub 3 2), [], []⟩
def d7 : He.DefD := ⟨("Laid", some "__init__"), "__init__", "Laid.__init__", defArgs (sub 4 0), defBody (sub 4 0), defScope (sub 4 0), [], []⟩
def d8 : He.DefD := ⟨("Laid", some "told"), "told", "Laid.told", defArgs (sub 4 1), defBody (sub 4 1), defScope (sub 4 1), [], []⟩
def d9 : He.DefD := ⟨("Laid", some "comes"), "comes", "Laid.comes", defArgs (sub 4 2), defBody (sub 4 2), defScope (sub 4 2), [], []⟩
def d10 : He.DefD := ⟨("Laid", some "may_strike"), "may_strike", "Laid.may_strike", defArgs (sub 4 3), defBody (sub 4 3), defScope (sub 4 3), [], []⟩
def d11 : He.DefD := ⟨("Taken", some "__init__"), "__init__", "Taken.__init__", defArgs (sub 5 0), defBody (sub 5 0), defScope (sub 5 0), [], []⟩
def d12 : He.DefD := ⟨("Taken", some "told"), "told", "Taken.told", defArgs (sub 5 1), defBody (sub 5 1), defScope (sub 5 1), [], []⟩
def d13 : He.DefD := ⟨("Taken", some "comes"), "comes", "Taken.comes", defArgs (sub 5 2), defBody (sub 5 2), defScope (sub 5 2), [], []⟩
def d14 : He.DefD := ⟨("NoPot", some "__init__"), "__init__", "NoPot.__init__", defArgs (sub 10 0), defBody (sub 10 0), defScope (sub 10 0), [], []⟩
def d15 : He.DefD := ⟨("in_bounds", none), "in_bounds", "in_bounds", defArgs (top 17), defBody (top 17), defScope (top 17), [], []⟩
def d16 : He.DefD := ⟨("is_tie", none), "is_tie", "is_tie", defArgs (top 18), defBody (top 18), defScope (top 18), [], []⟩
def d17 : He.DefD := ⟨("are_shares", none), "are_shares", "are_shares", defArgs (top 19), defBody (top 19), defScope (top 19), [], []⟩
def d18 : He.DefD := ⟨("are_ties", none), "are_ties", "are_ties", defArgs (top 20), defBody (top 20), defScope (top 20), [], []⟩
def d19 : He.DefD := ⟨("is_stand", none), "is_stand", "is_stand", defArgs (top 21), defBody (top 21), defScope (top 21), [], []⟩
def d20 : He.DefD := ⟨("stand", none), "stand", "stand", defArgs (top 22), defBody (top 22), defScope (top 22), [.non], []⟩
def d21 : He.DefD := ⟨("first", none), "first", "first", defArgs (top 23), defBody (top 23), defScope (top 23), [], []⟩
def d22 : He.DefD := ⟨("deals", none), "deals", "deals", defArgs (top 24), defBody (top 24), defScope (top 24), [], []⟩
def d23 : He.DefD := ⟨("is_pot", none), "is_pot", "is_pot", defArgs (top 29), defBody (top 29), defScope (top 29), [], []⟩
def d24 : He.DefD := ⟨("Book", some "__init__"), "__init__", "Book.__init__", defArgs (sub 30 0), defBody (sub 30 0), defScope (sub 30 0), [], []⟩
def d25 : He.DefD := ⟨("Book", some "made_of"), "made_of", "Book.made_of", defArgs (sub 30 1), defBody (sub 30 1), defScope (sub 30 1), [], []⟩
def d26 : He.DefD := ⟨("Book", some "today"), "today", "Book.today", defArgs (sub 30 2), defBody (sub 30 2), defScope (sub 30 2), [], []⟩
def d27 : He.DefD := ⟨("Book", some "next_day"), "next_day", "Book.next_day", defArgs (sub 30 3), defBody (sub 30 3), defScope (sub 30 3), [], []⟩
def d28 : He.DefD := ⟨("Book", some "look_for"), "look_for", "Book.look_for", defArgs (sub 30 4), defBody (sub 30 4), defScope (sub 30 4), [.int 0], []⟩
def d29 : He.DefD := ⟨("Book", some "show"), "show", "Book.show", defArgs (sub 30 5), defBody (sub 30 5), defScope (sub 30 5), [], []⟩
def d30 : He.DefD := ⟨("Book", some "agreed"), "agreed", "Book.agreed", defArgs (sub 30 6), defBody (sub 30 6), defScope (sub 30 6), [], []⟩
def d31 : He.DefD := ⟨("Book", some "lay"), "lay", "Book.lay", defArgs (sub 30 7), defBody (sub 30 7), defScope (sub 30 7), [.non], []⟩
def d32 : He.DefD := ⟨("Book", some "strike"), "strike", "Book.strike", defArgs (sub 30 8), defBody (sub 30 8), defScope (sub 30 8), [], []⟩
def d33 : He.DefD := ⟨("Book", some "told"), "told", "Book.told", defArgs (sub 30 9), defBody (sub 30 9), defScope (sub 30 9), [], []⟩
def d34 : He.DefD := ⟨("Book", some "shown_for"), "shown_for", "Book.shown_for", defArgs (sub 30 10), defBody (sub 30 10), defScope (sub 30 10), [], []⟩
def d35 : He.DefD := ⟨("Book", some "due_of"), "due_of", "Book.due_of", defArgs (sub 30 11), defBody (sub 30 11), defScope (sub 30 11), [], []⟩
def d36 : He.DefD := ⟨("Book", some "coin_of"), "coin_of", "Book.coin_of", defArgs (sub 30 12), defBody (sub 30 12), defScope (sub 30 12), [], []⟩
def d37 : He.DefD := ⟨("Book", some "is_over"), "is_over", "Book.is_over", defArgs (sub 30 13), defBody (sub 30 13), defScope (sub 30 13), [], []⟩
def d38 : He.DefD := ⟨("Book", some "all_shown"), "all_shown", "Book.all_shown", defArgs (sub 30 14), defBody (sub 30 14), defScope (sub 30 14), [], []⟩
def d39 : He.DefD := ⟨("_law_cell_at", none), "_law_cell_at", "_law_cell_at", defArgs (top 32), defBody (top 32), defScope (top 32), [], []⟩
def d40 : He.DefD := ⟨("_law_mixed", none), "_law_mixed", "_law_mixed", defArgs (top 33), defBody (top 33), defScope (top 33), [], []⟩
def d41 : He.DefD := ⟨("_law_small_stand", none), "_law_small_stand", "_law_small_stand", defArgs (top 34), defBody (top 34), defScope (top 34), [], []⟩
def d42 : He.DefD := ⟨("_law_laid", none), "_law_laid", "_law_laid", defArgs (top 35), defBody (top 35), defScope (top 35), [], []⟩
def d43 : He.DefD := ⟨("_law_struck", none), "_law_struck", "_law_struck", defArgs (top 36), defBody (top 36), defScope (top 36), [], []⟩
def d44 : He.DefD := ⟨("_law_deed", none), "_law_deed", "_law_deed", defArgs (top 37), defBody (top 37), defScope (top 37), [], []⟩
def d45 : He.DefD := ⟨("_law_is_stand", none), "_law_is_stand", "_law_is_stand", defArgs (top 38), defBody (top 38), defScope (top 38), [], []⟩
def d46 : He.DefD := ⟨("_law_due", none), "_law_due", "_law_due", defArgs (top 39), defBody (top 39), defScope (top 39), [], []⟩
def d47 : He.DefD := ⟨("_law_done", none), "_law_done", "_law_done", defArgs (top 40), defBody (top 40), defScope (top 40), [], []⟩
def d48 : He.DefD := ⟨("_law_stands", none), "_law_stands", "_law_stands", defArgs (top 41), defBody (top 41), defScope (top 41), [], []⟩
def d49 : He.DefD := ⟨("law", none), "law", "law", defArgs (top 42), defBody (top 42), defScope (top 42), [], []⟩
def ds : List He.DefD := [d0, d1, d2, d3, d4, d5, d6, d7, d8, d9, d10, d11, d12, d13, d14, d15, d16, d17, d18, d19, d20, d21, d22, d23, d24, d25, d26, d27, d28, d29, d30, d31, d32, d33, d34, d35, d36, d37, d38, d39, d40, d41, d42, d43, d44, d45, d46, d47, d48, d49]
def vs : List (Nat × Nat × List Cst) := [(1, 1, []), (3, 5, []), (4, 2, []), (5, 1, []), (7, 6, []), (8, 1, []), (10, 5, []), (11, 3, []), (12, 1, []), (15, 2, []), (16, 1, []), (17, 1, []), (18, 1, []), (19, 1, []), (20, 2, [.non]), (21, 2, []), (22, 1, []), (23, 1, []), (24, 2, []), (26, 1, []), (27, 1, []), (28, 2, [.int 0]), (28, 3, []), (29, 3, []), (30, 5, []), (31, 4, [.non]), (31, 5, []), (32, 4, []), (33, 2, []), (34, 2, []), (38, 1, []), (39, 2, []), (40, 2, []), (41, 2, []), (42, 2, []), (43, 2, []), (44, 2, []), (45, 2, []), (46, 2, []), (47, 2, []), (48, 2, []), (49, 1, [])]
theorem chk : chAll T fns ds vs = true := by decide +kernel
theorem bnd : AllV fns ds vs := ⟨⟨f1, d1, rfl, rfl, .inl ⟨rfl, rfl, rfl, fun _ _ _ _ _ _ us hl => match us, hl with | [_], _ => rfl⟩⟩,
  ⟨f3, d3, rfl, rfl, .inl ⟨rfl, rfl, rfl, fun _ _ _ _ _ _ us hl => match us, hl with | [_, _, _, _, _], _ => rfl⟩⟩,
  ⟨f4, d4, rfl, rfl, .inl ⟨rfl, rfl, rfl, fun _ _ _ _ _ _ us hl => match us, hl with | [_, _], _ => rfl⟩⟩,
  ⟨f5, d5, rfl, rfl, .inl ⟨rfl, rfl, rfl, fun _ _ _ _ _ _ us hl => match us, hl with | [_], _ => rfl⟩⟩,
  ⟨f7, d7, rfl, rfl, .inl ⟨rfl, rfl, rfl, fun _ _ _ _ _ _ us hl => match us, hl with | [_, _, _, _, _, _], _ => rfl⟩⟩,
  ⟨f8, d8, rfl, rfl, .inl ⟨rfl, rfl, rfl, fun _ _ _ _ _ _ us hl => match us, hl with | [_], _ => rfl⟩⟩,
  ⟨f10, d10, rfl, rfl, .inl ⟨rfl, rfl, rfl, fun _ _ _ _ _ _ us hl => match us, hl with | [_, _, _, _, _], _ => rfl⟩⟩,
  ⟨f11, d11, rfl, rfl, .inl ⟨rfl, rfl, rfl, fun _ _ _ _ _ _ us hl => match us, hl with | [_, _, _], _ => rfl⟩⟩,
  ⟨f12, d12, rfl, rfl, .inl ⟨rfl, rfl, rfl, fun _ _ _ _ _ _ us hl => match us, hl with | [_], _ => rfl⟩⟩,
  ⟨f15, d15, rfl, rfl, .inl ⟨rfl, rfl, rfl, fun _ _ _ _ _ _ us hl => match us, hl with | [_, _], _ => rfl⟩⟩,
  ⟨f16, d16, rfl, rfl, .inl ⟨rfl, rfl, rfl, fun _ _ _ _ _ _ us hl => match us, hl with | [_], _ => rfl⟩⟩,
  ⟨f17, d17, rfl, rfl, .inl ⟨rfl, rfl, rfl, fun _ _ _ _ _ _ us hl => match us, hl with | [_], _ => rfl⟩⟩,
  ⟨f18, d18, rfl, rfl, .inl ⟨rfl, rfl, rfl, fun _ _ _ _ _ _ us hl => match us, hl with | [_], _ => rfl⟩⟩,
  ⟨f19, d19, rfl, rfl, .inl ⟨rfl, rfl, rfl, fun _ _ _ _ _ _ us hl => match us, hl with | [_], _ => rfl⟩⟩,
  ⟨f20, d20, rfl, rfl, .inr ⟨by decide, 0, rfl, rfl, fun _ _ _ _ _ _ _ us its hl h2 => match us, hl, its, h2 with | [_, _], _, [_], _ => ⟨_, rfl, rfl⟩⟩⟩,
  ⟨f21, d21, rfl, rfl, .inl ⟨rfl, rfl, rfl, fun _ _ _ _ _ _ us hl => match us, hl with | [_, _], _ => rfl⟩⟩,
  ⟨f22, d22, rfl, rfl, .inl ⟨rfl, rfl, rfl, fun _ _ _ _ _ _ us hl => match us, hl with | [_], _ => rfl⟩⟩,
  ⟨f23, d23, rfl, rfl, .inl ⟨rfl, rfl, rfl, fun _ _ _ _ _ _ us hl => match us, hl with | [_], _ => rfl⟩⟩,
  ⟨f24, d24, rfl, rfl, .inl ⟨rfl, rfl, rfl, fun _ _ _ _ _ _ us hl => match us, hl with | [_, _], _ => rfl⟩⟩,
  ⟨f26, d26, rfl, rfl, .inl ⟨rfl, rfl, rfl, fun _ _ _ _ _ _ us hl => match us, hl with | [_], _ => rfl⟩⟩,
  ⟨f27, d27, rfl, rfl, .inl ⟨rfl, rfl, rfl, fun _ _ _ _ _ _ us hl => match us, hl with | [_], _ => rfl⟩⟩,
  ⟨f28, d28, rfl, rfl, .inr ⟨by decide, 0, rfl, rfl, fun _ _ _ _ _ _ _ us its hl h2 => match us, hl, its, h2 with | [_, _], _, [_], _ => ⟨_, rfl, rfl⟩⟩⟩,
  ⟨f28, d28, rfl, rfl, .inr ⟨by decide, 1, rfl, rfl, fun _ _ _ _ _ _ _ us its hl h2 => match us, hl, its, h2 with | [_, _, _], _, [_], _ => ⟨_, rfl, rfl⟩⟩⟩,
  ⟨f29, d29, rfl, rfl, .inl ⟨rfl, rfl, rfl, fun _ _ _ _ _ _ us hl => match us, hl with | [_, _, _], _ => rfl⟩⟩,
  ⟨f30, d30, rfl, rfl, .inl ⟨rfl, rfl, rfl, fun _ _ _ _ _ _ us hl => match us, hl with | [_, _, _, _, _], _ => rfl⟩⟩,
  ⟨f31, d31, rfl, rfl, .inr ⟨by decide, 0, rfl, rfl, fun _ _ _ _ _ _ _ us its hl h2 => match us, hl, its, h2 with | [_, _, _, _], _, [_], _ => ⟨_, rfl, rfl⟩⟩⟩,
  ⟨f31, d31, rfl, rfl, .inr ⟨by decide, 1, rfl, rfl, fun _ _ _ _ _ _ _ us its hl h2 => match us, hl, its, h2 with | [_, _, _, _, _], _, [_], _ => ⟨_, rfl, rfl⟩⟩⟩,
  ⟨f32, d32, rfl, rfl, .inl ⟨rfl, rfl, rfl, fun _ _ _ _ _ _ us hl => match us, hl with | [_, _, _, _], _ => rfl⟩⟩,
  ⟨f33, d33, rfl, rfl, .inl ⟨rfl, rfl, rfl, fun _ _ _ _ _ _ us hl => match us, hl with | [_, _], _ => rfl⟩⟩,
  ⟨f34, d34, rfl, rfl, .inl ⟨rfl, rfl, rfl, fun _ _ _ _ _ _ us hl => match us, hl with | [_, _], _ => rfl⟩⟩,
  ⟨f38, d38, rfl, rfl, .inl ⟨rfl, rfl, rfl, fun _ _ _ _ _ _ us hl => match us, hl with | [_], _ => rfl⟩⟩,
  ⟨f39, d39, rfl, rfl, .inl ⟨rfl, rfl, rfl, fun _ _ _ _ _ _ us hl => match us, hl with | [_, _], _ => rfl⟩⟩,
  ⟨f40, d40, rfl, rfl, .inl ⟨rfl, rfl, rfl, fun _ _ _ _ _ _ us hl => match us, hl with | [_, _], _ => rfl⟩⟩,
  ⟨f41, d41, rfl, rfl, .inl ⟨rfl, rfl, rfl, fun _ _ _ _ _ _ us hl => match us, hl with | [_, _], _ => rfl⟩⟩,
  ⟨f42, d42, rfl, rfl, .inl ⟨rfl, rfl, rfl, fun _ _ _ _ _ _ us hl => match us, hl with | [_, _], _ => rfl⟩⟩,
  ⟨f43, d43, rfl, rfl, .inl ⟨rfl, rfl, rfl, fun _ _ _ _ _ _ us hl => match us, hl with | [_, _], _ => rfl⟩⟩,
  ⟨f44, d44, rfl, rfl, .inl ⟨rfl, rfl, rfl, fun _ _ _ _ _ _ us hl => match us, hl with | [_, _], _ => rfl⟩⟩,
  ⟨f45, d45, rfl, rfl, .inl ⟨rfl, rfl, rfl, fun _ _ _ _ _ _ us hl => match us, hl with | [_, _], _ => rfl⟩⟩,
  ⟨f46, d46, rfl, rfl, .inl ⟨rfl, rfl, rfl, fun _ _ _ _ _ _ us hl => match us, hl with | [_, _], _ => rfl⟩⟩,
  ⟨f47, d47, rfl, rfl, .inl ⟨rfl, rfl, rfl, fun _ _ _ _ _ _ us hl => match us, hl with | [_, _], _ => rfl⟩⟩,
  ⟨f48, d48, rfl, rfl, .inl ⟨rfl, rfl, rfl, fun _ _ _ _ _ _ us hl => match us, hl with | [_, _], _ => rfl⟩⟩,
  ⟨f49, d49, rfl, rfl, .inl ⟨rfl, rfl, rfl, fun _ _ _ _ _ _ us hl => match us, hl with | [_], _ => rfl⟩⟩,
  trivial⟩

def loose0 : List PySem.Str := ["_wall", "Claim", "Held", "Laid", "Taken", "BookError", "NoStand", "NoDeed", "NoPot", "MOST_NUMBER", "MOST_COIN", "MOST_TIES", "MOST_WORD", "MOST_DAY", "in_bounds", "is_tie", "are_shares", "are_ties", "is_stand", "stand", "first", "deals", "MOST_POTS", "MOST_HAND", "MOST_WAIT", "is_pot", "Book", "_law_cell_at", "_law_mixed", "_law_small_stand"]
def loose1 : List PySem.Str := ["_law_laid", "_law_struck", "_law_deed", "_law_is_stand", "_law_due", "_law_done", "_law_stands"]
def loose : List PySem.Str := loose0 ++ loose1
abbrev RR : PySem.W.OpenRow := PySem.W.OpenLaw.row rw0
theorem run (w : World) : HandSHeadRun.RunEq RR (PySem.W.view RR.prog [42]) (hookS 4 T ds) (obS 4 T ds) 6000 loose w := by
  intro os
  kernel_rfl
end P
open PySem PySem.W PySem.Calls PyProof.Rows
theorem PySem.Challenge.cw_sidebook_k14_deeds_in_the_book_holds : PySem.Challenge.rw_sidebook_k14_deeds_in_the_book.Holds := by
  w_on; o_law
  refine HandSHeadRun.head_any (r := OpenLaw.row PySem.Challenge.rw_sidebook_k14_deeds_in_the_book) (q := view (OpenLaw.row PySem.Challenge.rw_sidebook_k14_deeds_in_the_book).prog [42]) (H := Sb.hookS 4 P.T P.ds) (ob := Sb.obS 4 P.T P.ds) (M := 6000) (loose := P.loose) (d := HandSHeadRun.topDef (OpenLaw.row PySem.Challenge.rw_sidebook_k14_deeds_in_the_book).prog 42) (kwd := []) (Sb.obS_eq 4 P.T P.ds)
    (by kernel_rfl) (fun s => by kernel_rfl) P.run (by kernel_rfl) (by kernel_rfl) (by kernel_rfl) (by rfl) (by first | assumption | decide +kernel) (by decide +kernel) ⟨rfl, rfl, rfl, rfl, rfl, by decide +kernel⟩ ?hw ?hc
  case hw => w_witness2
  case hc =>
    refine Sb.walk_S (l := PySem.Challenge.rw_sidebook_k14_deeds_in_the_book) (n := 63) (k := 2 * (14 + 1)) (x := "_law_script") rfl (by decide) (by kernel_rfl) ⟨rfl, by decide, by decide⟩ ?F
    intro w mg fa h Y G hmg0
    have hmg : mg ("law" : PySem.Str) = some (.ref fa) := by
      have e : (HandSHeadRun.topDef (OpenLaw.row PySem.Challenge.rw_sidebook_k14_deeds_in_the_book).prog 42).name = ("law" : PySem.Str) := by kernel_rfl
      rw [← e]
      exact hmg0
    exact Sb.law_F (T := P.T) (fns := P.fns) (ds := P.ds) (vs := P.vs) (i := 49) (j := 14) (n' := 63) Y G hmg P.chk P.bnd ⟨_, rfl, rfl, by decide +kernel⟩ (by decide +kernel) (f := P.f49) (d := P.d49) rfl rfl rfl rfl P.law_true
