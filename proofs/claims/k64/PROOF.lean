import PyProof.Rows.All
import Wide.All
import OpenK.AllK
import Wide.FinOn
import HandS.ForMost
import HandS.ForExc
import HandS.Walk
import HandS.TupAny
import HandS.TupMul
import HandS.Deep
import HandS.IsInst
import HandS.FStr
import HandS.Flow
import HandS.Wide
import HandS.Small
import HandS.ExcInit
import KE.KExcSuper
import KE.KSuper
import HandS.ExcField
import PySem.Challenge.RW_runsolved_k64_steps_of_any_rules
set_option Elab.async false
set_option linter.all false
set_option maxRecDepth 100000
set_option maxHeartbeats 4000000
/-! DA: deep data over the abstract heap. S: the part that stays; M: the cells that are owned and may change. -/
namespace DA
open PySem L2

/-- data, told by its form alone; ref: an address, told as it is (a cell, a class, a function) -/
inductive D where
  | non | bl (b : Bool) | int (i : Int) | str (x : Str)
  | lst (ds : List D) | tup (ds : List D) | scr (ds : List D)
  | ref (a : Addr) | ty (n : String)
  | ins (C : Addr) (ns : List Str) (ds : List D)

section
variable (K : PySem.W.Frag)
mutual
inductive Rep (S : Hp) : D → V → Prop
  | non : Rep S .non .non
  | bl (b : Bool) : Rep S (.bl b) (.bl b)
  | int (i : Int) : Rep S (.int i) (.int i)
  | str (x : Str) : Rep S (.str x) (.str x)
  | lst {a : Addr} {vs : List V} {ds : List D} (h : S a = some (.lst vs)) (r : Reps S ds vs) : Rep S (.lst ds) (.ref a)
  | tup {a : Addr} {vs : List V} {ds : List D} (h : SqT K S a vs) (r : Reps S ds vs) : Rep S (.tup ds) (.ref a)
  | scr {a : Addr} {vs : List V} {ds : List D} (h : SqL K S a vs) (r : Reps S ds vs) : Rep S (.scr ds) (.ref a)
  | ref (a : Addr) : Rep S (.ref a) (.ref a)
  | ty (n : String) : Rep S (.ty n) (.ty n)
  | ins {a C dx : Addr} {fs : List (Str × V)} {ns : List Str} {ds : List D} (h : S a = some (.ins C dx fs)) (n : fs.map (·.1) = ns) (r : Reps S ds (fs.map (·.2))) : Rep S (.ins C ns ds) (.ref a)
inductive Reps (S : Hp) : List D → List V → Prop
  | nil : Reps S [] []
  | cons {d : D} {ds : List D} {v : V} {vs : List V} (h : Rep S d v) (r : Reps S ds vs) : Reps S (d :: ds) (v :: vs)
end
end

theorem Same.sqT {K : PySem.W.Frag} {H H' : Hp} {a : Addr} {xs : List V} (e : Same H H') (h : SqT K H a xs) : SqT K H' a xs := by
  rcases h with (h | ⟨o, h⟩) | h
  · exact .inl (.inl (e _ _ h))
  · exact .inl (.inr ⟨o, e _ _ h⟩)
  · exact .inr h

section
variable {K : PySem.W.Frag} {S S' : Hp}
mutual
theorem Rep.mono (e : Same S S') : ∀ {d : D} {v : V}, Rep K S d v → Rep K S' d v
  | _, _, .non => .non
  | _, _, .bl b => .bl b
  | _, _, .int i => .int i
  | _, _, .str x => .str x
  | _, _, .lst h r => .lst (e _ _ h) (Reps.mono e r)
  | _, _, .tup h r => .tup (Same.sqT e h) (Reps.mono e r)
  | _, _, .scr h r => .scr (e.seq h) (Reps.mono e r)
  | _, _, .ref a => .ref a
  | _, _, .ty n => .ty n
  | _, _, .ins h n r => .ins (e _ _ h) n (Reps.mono e r)
theorem Reps.mono (e : Same S S') : ∀ {ds : List D} {vs : List V}, Reps K S ds vs → Reps K S' ds vs
  | _, _, .nil => .nil
  | _, _, .cons h r => .cons (Rep.mono e h) (Reps.mono e r)
end
theorem Reps.length : ∀ {ds : List D} {vs : List V}, Reps K S ds vs → ds.length = vs.length
  | _, _, .nil => rfl
  | _, _, .cons _ r => by simp [Reps.length r]
theorem Reps.get : ∀ {ds : List D} {vs : List V} {i : Nat} {d : D}, Reps K S ds vs → ds[i]? = some d → ∃ v, vs[i]? = some v ∧ Rep K S d v
  | _, _, _, _, .nil, e => by simp at e
  | _, _, 0, _, .cons h _, e => by simp at e; subst e; exact ⟨_, rfl, h⟩
  | _, _, i + 1, d, .cons _ r, e => by
    obtain ⟨v, h1, h2⟩ := Reps.get (i := i) (d := d) r (by simpa using e)
    exact ⟨v, by simpa using h1, h2⟩
theorem Reps.append : ∀ {ds es : List D} {vs us : List V}, Reps K S ds vs → Reps K S es us → Reps K S (ds ++ es) (vs ++ us)
  | _, _, _, _, .nil, r => r
  | _, _, _, _, .cons h t, r => .cons h (Reps.append t r)
theorem Reps.one {d : D} {v : V} (h : Rep K S d v) : Reps K S [d] [v] := .cons h .nil
theorem Reps.take : ∀ {ds : List D} {vs : List V} (n : Nat), Reps K S ds vs → Reps K S (ds.take n) (vs.take n)
  | _, _, 0, _ => .nil
  | _, _, _ + 1, .nil => .nil
  | _, _, n + 1, .cons h t => .cons h (Reps.take n t)
theorem Reps.drop : ∀ {ds : List D} {vs : List V} (n : Nat), Reps K S ds vs → Reps K S (ds.drop n) (vs.drop n)
  | _, _, 0, r => r
  | _, _, _ + 1, .nil => .nil
  | _, _, n + 1, .cons _ t => Reps.drop n t
theorem Reps.set {d : D} {v : V} (h : Rep K S d v) : ∀ {ds : List D} {vs : List V} (i : Nat), Reps K S ds vs → Reps K S (ds.set i d) (vs.set i v)
  | _, _, _, .nil => .nil
  | _, _, 0, .cons _ t => .cons h t
  | _, _, i + 1, .cons q t => .cons q (Reps.set h i t)
theorem Reps.rep : ∀ {ds : List D} {vs : List V} (n : Nat), Reps K S ds vs → Reps K S (List.replicate n ds).flatten (List.replicate n vs).flatten
  | _, _, 0, _ => .nil
  | _, _, n + 1, r => by
    rw [List.replicate_succ, List.replicate_succ, List.flatten_cons, List.flatten_cons]
    exact Reps.append r (Reps.rep n r)
end

/-! ### cells -/
inductive MO where
  | lst (ds : List D)
  | dic (kvs : List (Key × D))
  | ins (C : Addr) (ns : List Str) (ds : List D)
abbrev Mem := Addr → Option MO
def mup (M : Mem) (a : Addr) (o : MO) : Mem := fun b => if b = a then some o else M b
def mdel (M : Mem) (a : Addr) : Mem := fun b => if b = a then none else M b
def m0 : Mem := fun _ => none
theorem mup_same {M : Mem} {a : Addr} {o : MO} : mup M a o a = some o := by unfold mup; rw [if_pos rfl]
theorem mup_ne {M : Mem} {a b : Addr} {o : MO} (h : b ≠ a) : mup M a o b = M b := by unfold mup; rw [if_neg h]
theorem mdel_same {M : Mem} {a : Addr} : mdel M a a = none := by unfold mdel; rw [if_pos rfl]
theorem mdel_ne {M : Mem} {a b : Addr} (h : b ≠ a) : mdel M a b = M b := by unfold mdel; rw [if_neg h]
theorem mne {M : Mem} {a b : Addr} {o : MO} (h : M a = some o) (h' : M b = none) : a ≠ b := by
  intro e; subst e; rw [h] at h'; cases h'
theorem mup_mup {M : Mem} {a : Addr} {o u : MO} : mup (mup M a o) a u = mup M a u := by
  funext b; unfold mup; split <;> rfl
theorem mdel_mup {M : Mem} {a : Addr} {o : MO} (h : M a = none) : mdel (mup M a o) a = M := by
  funext b; unfold mdel mup
  by_cases e : b = a
  · subst e; simp [h]
  · simp [e]
/-- fewer cells told -/
def Sub (M M' : Mem) : Prop := ∀ a o, M a = some o → M' a = some o
theorem Sub.refl (M : Mem) : Sub M M := fun _ _ h => h
theorem Sub.trans {M M1 M2 : Mem} (a : Sub M M1) (b : Sub M1 M2) : Sub M M2 := fun x o h => b x o (a x o h)
theorem Sub.new {M N : Mem} {a : Addr} {o : MO} (h : M a = none) (s : Sub M N) : Sub M (mup N a o) := fun b u e => by
  rw [mup_ne (mne e h)]
  exact s b u e
theorem Sub.both {M N : Mem} {a : Addr} {o : MO} (s : Sub M N) : Sub (mup M a o) (mup N a o) := fun b u e => by
  by_cases hb : b = a
  · subst hb; rw [mup_same] at e ⊢; exact e
  · rw [mup_ne hb] at e ⊢; exact s b u e

section
variable (K : PySem.W.Frag)
def RepF (S : Hp) (ns : List Str) (ds : List D) (fs : List (Str × V)) : Prop := fs.map (·.1) = ns ∧ Reps K S ds (fs.map (·.2))
inductive RepKV (S : Hp) : List (Key × D) → List (Key × V) → Prop
  | nil : RepKV S [] []
  | cons {k : Key} {d : D} {v : V} {r : List (Key × D)} {t : List (Key × V)} (h : Rep K S d v) (q : RepKV S r t) : RepKV S ((k, d) :: r) ((k, v) :: t)
def CellOk (S H : Hp) (a : Addr) : MO → Prop
  | .lst ds => ∃ vs, H a = some (.lst vs) ∧ Reps K S ds vs
  | .dic kvs => ∃ ws, H a = some (.dK ws) ∧ RepKV K S kvs ws
  | .ins C ns ds => ∃ dx fs, H a = some (.ins C dx fs) ∧ RepF K S ns ds fs
structure Sim (S H : Hp) (M : Mem) : Prop where
  sub : Same S H
  cells : ∀ a o, M a = some o → S a = none ∧ CellOk K S H a o
end
section
variable {K : PySem.W.Frag} {S S' H H' : Hp} {M M' : Mem}
theorem RepKV.mono (e : Same S S') : ∀ {r : List (Key × D)} {t : List (Key × V)}, RepKV K S r t → RepKV K S' r t
  | _, _, .nil => .nil
  | _, _, .cons h q => .cons (h.mono e) (RepKV.mono e q)
theorem RepF.mono {ns : List Str} {ds : List D} {fs : List (Str × V)} (e : Same S S') (h : RepF K S ns ds fs) : RepF K S' ns ds fs := ⟨h.1, h.2.mono e⟩
theorem CellOk.tracked {a : Addr} {o : MO} (h : CellOk K S H a o) : ∃ u, H a = some u := by
  cases o with
  | lst ds => obtain ⟨_, e, _⟩ := h; exact ⟨_, e⟩
  | dic kvs => obtain ⟨_, e, _⟩ := h; exact ⟨_, e⟩
  | ins C ns ds => obtain ⟨_, _, e, _⟩ := h; exact ⟨_, e⟩
/-- a cell's word leans on its own object and on what stays -/
theorem CellOk.stay {a : Addr} {o : MO} (e : Same S S') (k : ∀ u, H a = some u → H' a = some u) (h : CellOk K S H a o) : CellOk K S' H' a o := by
  cases o with
  | lst ds => obtain ⟨vs, q, r⟩ := h; exact ⟨vs, k _ q, r.mono e⟩
  | dic kvs => obtain ⟨ws, q, r⟩ := h; exact ⟨ws, k _ q, r.mono e⟩
  | ins C ns ds => obtain ⟨dx, fs, q, r⟩ := h; exact ⟨dx, fs, k _ q, r.mono e⟩
theorem Sim.fresh {p : Addr} (s : Sim K S H M) (h : H p = none) : M p = none := by
  cases q : M p with
  | none => rfl
  | some o =>
    obtain ⟨u, e⟩ := (s.cells p o q).2.tracked
    rw [h] at e; cases e
theorem Sim.freshS {p : Addr} (s : Sim K S H M) (h : H p = none) : S p = none := s.sub.free h
/-- fewer cells -/
theorem Sim.less (s : Sim K S H M) (h : Sub M' M) : Sim K S H M' := ⟨s.sub, fun a o e => s.cells a o (h a o e)⟩
/-- a new object that stays -/
theorem Sim.stays {p : Addr} {o : HO} (s : Sim K S H M) (h : H p = none) : Sim K (upd S p o) (upd H p o) M := by
  refine ⟨fun a u e => ?_, fun a u e => ?_⟩
  · by_cases ha : a = p
    · subst ha; rw [upd_same] at e ⊢; exact e
    · rw [upd_ne ha] at e ⊢; exact s.sub a u e
  · have ne : a ≠ p := mne e (s.fresh h)
    obtain ⟨h1, h2⟩ := s.cells a u e
    refine ⟨by rw [upd_ne ne]; exact h1, h2.stay (same_upd (s.freshS h)) fun w q => by rw [upd_ne ne]; exact q⟩
where
  same_upd {H : Hp} {p : Addr} {o : HO} (h : H p = none) : Same H (upd H p o) := fun b x e => by
    rw [upd_ne (ne_of_none e h)]
    exact e
theorem same_new {H : Hp} {p : Addr} {o : HO} (h : H p = none) : Same H (upd H p o) := fun b x e => by
  rw [upd_ne (ne_of_none e h)]
  exact e
/-- a new object that is a cell -/
theorem Sim.cell {p : Addr} {o : HO} {u : MO} (s : Sim K S H M) (h : H p = none) (c : CellOk K S (upd H p o) p u) : Sim K S (upd H p o) (mup M p u) := by
  refine ⟨s.sub.trans (same_new h), fun a v e => ?_⟩
  by_cases ha : a = p
  · subst ha
    rw [mup_same] at e; cases e
    exact ⟨s.freshS h, c⟩
  · rw [mup_ne ha] at e
    obtain ⟨h1, h2⟩ := s.cells a v e
    exact ⟨h1, h2.stay (Same.refl S) fun w q => by rw [upd_ne ha]; exact q⟩
/-- a cell is written -/
theorem Sim.write {p : Addr} {o : HO} {u v : MO} (s : Sim K S H M) (h : M p = some v) (c : CellOk K S (upd H p o) p u) : Sim K S (upd H p o) (mup M p u) := by
  obtain ⟨sp, _⟩ := s.cells p v h
  refine ⟨fun a w e => ?_, fun a w e => ?_⟩
  · rw [upd_ne (ne_of_none e sp)]; exact s.sub a w e
  · by_cases ha : a = p
    · subst ha
      rw [mup_same] at e; cases e
      exact ⟨sp, c⟩
    · rw [mup_ne ha] at e
      obtain ⟨h1, h2⟩ := s.cells a w e
      exact ⟨h1, h2.stay (Same.refl S) fun w q => by rw [upd_ne ha]; exact q⟩
/-- a cell is frozen -/
theorem Sim.freeze {p : Addr} {o : HO} {v : MO} (s : Sim K S H M) (h : M p = some v) (e : H p = some o) : Sim K (upd S p o) H (mdel M p) := by
  obtain ⟨sp, _⟩ := s.cells p v h
  refine ⟨fun a w q => ?_, fun a w q => ?_⟩
  · by_cases ha : a = p
    · subst ha; rw [upd_same] at q; rw [e]; exact q
    · rw [upd_ne ha] at q; exact s.sub a w q
  · have ha : a ≠ p := fun z => by subst z; rw [mdel_same] at q; cases q
    rw [mdel_ne ha] at q
    obtain ⟨h1, h2⟩ := s.cells a w q
    exact ⟨by rw [upd_ne ha]; exact h1, h2.stay (same_new sp) fun _ z => z⟩
end

/-! ### the slots -/
abbrev Env' := List (Option D)
section
variable (K : PySem.W.Frag)
inductive EnvR (S : Hp) : List (Option D) → St → Prop
  | nil : EnvR S [] []
  | skip {ρ : List (Option D)} {σ : St} {x : Option V} (r : EnvR S ρ σ) : EnvR S (none :: ρ) (x :: σ)
  | cons {ρ : List (Option D)} {σ : St} {d : D} {v : V} (h : Rep K S d v) (r : EnvR S ρ σ) : EnvR S (some d :: ρ) (some v :: σ)
end
/-- some of the slots are forgotten -/
inductive Fg : List (Option D) → List (Option D) → Prop
  | nil : Fg [] []
  | skip {ρ ρ' : List (Option D)} {x : Option D} (r : Fg ρ ρ') : Fg (x :: ρ) (none :: ρ')
  | keep {ρ ρ' : List (Option D)} {x : Option D} (r : Fg ρ ρ') : Fg (x :: ρ) (x :: ρ')
theorem Fg.refl : ∀ ρ : List (Option D), Fg ρ ρ
  | [] => .nil
  | _ :: r => .keep (Fg.refl r)
section
variable {K : PySem.W.Frag} {S S' : Hp}
theorem EnvR.mono (e : Same S S') : ∀ {ρ : List (Option D)} {σ : St}, EnvR K S ρ σ → EnvR K S' ρ σ
  | _, _, .nil => .nil
  | _, _, .skip r => .skip (EnvR.mono e r)
  | _, _, .cons h r => .cons (h.mono e) (EnvR.mono e r)
theorem EnvR.get : ∀ {ρ : List (Option D)} {σ : St} {i : Nat} {d : D}, EnvR K S ρ σ → ρ[i]? = some (some d) → ∃ v, σ[i]? = some (some v) ∧ Rep K S d v
  | _, _, _, _, .nil, e => by simp at e
  | _, _, 0, _, .skip _, e => by simp at e
  | _, _, 0, _, .cons h _, e => by simp at e; subst e; exact ⟨_, rfl, h⟩
  | _, _, i + 1, d, .skip r, e => by
    obtain ⟨v, h1, h2⟩ := EnvR.get (i := i) (d := d) r (by simpa using e)
    exact ⟨v, by simpa using h1, h2⟩
  | _, _, i + 1, d, .cons _ r, e => by
    obtain ⟨v, h1, h2⟩ := EnvR.get (i := i) (d := d) r (by simpa using e)
    exact ⟨v, by simpa using h1, h2⟩
theorem EnvR.set {d : D} {v : V} (h : Rep K S d v) : ∀ {ρ : List (Option D)} {σ : St} (i : Nat), EnvR K S ρ σ → EnvR K S (ρ.set i (some d)) (σ.set i (some v))
  | _, _, _, .nil => .nil
  | _, _, 0, .skip r => .cons h r
  | _, _, 0, .cons _ r => .cons h r
  | _, _, i + 1, .skip r => .skip (EnvR.set h i r)
  | _, _, i + 1, .cons q r => .cons q (EnvR.set h i r)
theorem EnvR.unset : ∀ {ρ : List (Option D)} {σ : St} (i : Nat) (x : Option V), EnvR K S ρ σ → EnvR K S (ρ.set i none) (σ.set i x)
  | _, _, _, _, .nil => .nil
  | _, _, 0, _, .skip r => .skip r
  | _, _, 0, _, .cons _ r => .skip r
  | _, _, i + 1, x, .skip r => .skip (EnvR.unset i x r)
  | _, _, i + 1, x, .cons q r => .cons q (EnvR.unset i x r)
theorem EnvR.fg : ∀ {ρ ρ' : List (Option D)} {σ : St}, Fg ρ ρ' → EnvR K S ρ σ → EnvR K S ρ' σ
  | _, _, _, .nil, .nil => .nil
  | _, _, _, .skip f, .skip r => .skip (EnvR.fg f r)
  | _, _, _, .skip f, .cons _ r => .skip (EnvR.fg f r)
  | _, _, _, .keep f, .skip r => .skip (EnvR.fg f r)
  | _, _, _, .keep f, .cons h r => .cons h (EnvR.fg f r)
theorem EnvR.start : ∀ {ds : List D} {vs : List V} (n : Nat), Reps K S ds vs → EnvR K S (ds.map some ++ List.replicate n none) (vs.map some ++ List.replicate n none)
  | _, _, 0, .nil => .nil
  | _, _, n + 1, .nil => .skip (EnvR.start (ds := []) (vs := []) n .nil)
  | _, _, n, .cons h r => .cons h (EnvR.start n r)
end
end DA

/-! DB: what a reading does to data. -/
namespace DA
open PySem L2

/-! ### the judgements -/
/-- an exception's own dict -/
def ExD (K : PySem.W.Frag) (S : Hp) : Option Addr → List Str → List D → Prop
  | none, ns, ds => ns = [] ∧ ds = []
  | some d, ns, ds => ∃ fs, S d = some (.xd fs) ∧ RepF K S ns ds fs
theorem ExD.mono {K : PySem.W.Frag} {S S' : Hp} (e : Same S S') : ∀ {d : Option Addr} {ns : List Str} {ds : List D}, ExD K S d ns ds → ExD K S' d ns ds
  | none, _, _, h => h
  | some _, _, _, ⟨fs, h, r⟩ => ⟨fs, e _ _ h, r.mono e⟩
/-- what is wished of an exception: its class, its fields, the cells -/
abbrev XP := Value → List Str → List D → Mem → Prop
def xno : XP := fun _ _ _ _ => False
def XOk (K : PySem.W.Frag) (W : WX) (Ψ : XP) (S : Hp) (σ : L2.St) : Prop :=
  ∀ cls ns ds M' dd S' H', Ψ cls ns ds M' → Same S S' → Sim K S' H' M' → ExD K S' dd ns ds → W cls dd σ H'
abbrev DP := D → Mem → Prop
abbrev LP := List D → Mem → Prop
abbrev BP := Bool → Mem → Prop
abbrev EP' := List (Option D) → Mem → Prop
/-- the end of a reading by values -/
def End (K : PySem.W.Frag) (S : Hp) (Φ : DP) (Q : VK) : Prop := ∀ d M' v S' H', Φ d M' → Same S S' → Sim K S' H' M' → Rep K S' d v → Q v H'
theorem End.mono {K : PySem.W.Frag} {S S' : Hp} {Φ : DP} {Q : VK} (h : End K S Φ Q) (e : Same S S') : End K S' Φ Q := fun d M' v S2 H2 q e2 s r => h d M' v S2 H2 q (e.trans e2) s r
theorem XOk.mono {K : PySem.W.Frag} {W : WX} {Ψ : XP} {S S' : Hp} {σ : L2.St} (h : XOk K W Ψ S σ) (e : Same S S') : XOk K W Ψ S' σ := fun c ns ds M' dd S2 H2 q e2 s r => h c ns ds M' dd S2 H2 q (e.trans e2) s r

section
variable (K : PySem.W.Frag)
def wpe (W : WX) (te : TE) (ρ : List (Option D)) (M : Mem) (Ψ : XP) (Φ : DP) : Prop :=
  ∀ S H σ, EnvR K S ρ σ → Sim K S H M → XOk K W Ψ S σ → ∀ Q : VK, End K S Φ Q → te σ H Q
def wpt (W : WX) (tt : TT) (ρ : List (Option D)) (M : Mem) (Ψ : XP) (Φ : BP) : Prop :=
  ∀ S H σ, EnvR K S ρ σ → Sim K S H M → XOk K W Ψ S σ → ∀ Q : Bool → Hp → Prop, (∀ b M' S' H', Φ b M' → Same S S' → Sim K S' H' M' → Q b H') → tt σ H Q
def wpa (W : WX) (ta : TA) (ρ : List (Option D)) (M : Mem) (Ψ : XP) (Φ : LP) : Prop :=
  ∀ S H σ, EnvR K S ρ σ → Sim K S H M → XOk K W Ψ S σ → ∀ Q : List V → Hp → Prop, (∀ ds M' vs S' H', Φ ds M' → Same S S' → Sim K S' H' M' → Reps K S' ds vs → Q vs H') → ta σ H Q
def wpo (W : WX) (to : TO) (ρ : List (Option D)) (M : Mem) (Ψ : XP) (Φ : Option Int → Mem → Prop) : Prop :=
  ∀ S H σ, EnvR K S ρ σ → Sim K S H M → XOk K W Ψ S σ → ∀ Q : Option Int → Hp → Prop, (∀ o M' S' H', Φ o M' → Same S S' → Sim K S' H' M' → Q o H') → to σ H Q
/-- two values | one | several -/
def wp2 (r : R2) (x y : D) (M : Mem) (Φ : DP) : Prop := ∀ S H v u, Sim K S H M → Rep K S x v → Rep K S y u → ∀ Q : VK, End K S Φ Q → r v u H Q
def wp1 (r : V → Hp → VK → Prop) (x : D) (M : Mem) (Φ : DP) : Prop := ∀ S H v, Sim K S H M → Rep K S x v → ∀ Q : VK, End K S Φ Q → r v H Q
def wpn (r : List V → Hp → VK → Prop) (xs : List D) (M : Mem) (Φ : DP) : Prop := ∀ S H vs, Sim K S H M → Reps K S xs vs → ∀ Q : VK, End K S Φ Q → r vs H Q
def wpm (r : V → List V → Hp → VK → Prop) (x : D) (xs : List D) (M : Mem) (Φ : DP) : Prop := ∀ S H v vs, Sim K S H M → Rep K S x v → Reps K S xs vs → ∀ Q : VK, End K S Φ Q → r v vs H Q
/-- the ends of a statement -/
structure DE where
  nx : EP'
  rt : DP
  bk : EP' := fun _ _ => False
  ct : EP' := fun _ _ => False
  ex : List (Option D) → XP := fun _ => xno
structure Imp (W : WX) (S : Hp) (E : DE) (D' : Ends) : Prop where
  nx : ∀ ρ' M' σ' S' H', E.nx ρ' M' → Same S S' → EnvR K S' ρ' σ' → Sim K S' H' M' → D'.nx σ' H'
  bk : ∀ ρ' M' σ' S' H', E.bk ρ' M' → Same S S' → EnvR K S' ρ' σ' → Sim K S' H' M' → D'.bk σ' H'
  ct : ∀ ρ' M' σ' S' H', E.ct ρ' M' → Same S S' → EnvR K S' ρ' σ' → Sim K S' H' M' → D'.ct σ' H'
  rt : End K S E.rt D'.rt
  ex : ∀ ρ' σ' S', Same S S' → EnvR K S' ρ' σ' → XOk K W (E.ex ρ') S' σ'
def wps (W : WX) (ts : TS) (ρ : List (Option D)) (M : Mem) (E : DE) : Prop :=
  ∀ S H σ D', EnvR K S ρ σ → Sim K S H M → Imp K W S E D' → ts D' σ H
def wpg (W : WX) (g : TG) (d : D) (ρ : List (Option D)) (M : Mem) (Ψ : XP) (Φ : EP') : Prop :=
  ∀ S H σ v, EnvR K S ρ σ → Sim K S H M → XOk K W Ψ S σ → Rep K S d v → ∀ Q : L2.St → Hp → Prop, (∀ ρ' M' σ' S' H', Φ ρ' M' → Same S S' → EnvR K S' ρ' σ' → Sim K S' H' M' → Q σ' H') → g v σ H Q
def wpgs (W : WX) (g : TGs) (ds : List D) (ρ : List (Option D)) (M : Mem) (Ψ : XP) (Φ : EP') : Prop :=
  ∀ S H σ vs, EnvR K S ρ σ → Sim K S H M → XOk K W Ψ S σ → Reps K S ds vs → ∀ Q : L2.St → Hp → Prop, (∀ ρ' M' σ' S' H', Φ ρ' M' → Same S S' → EnvR K S' ρ' σ' → Sim K S' H' M' → Q σ' H') → g vs σ H Q
end

section
variable {K : PySem.W.Frag} {W : WX} {ρ : List (Option D)} {M : Mem} {Ψ : XP} {Φ : DP} {ta tb te : TE} {t u : TT} {r : R2}
theorem Imp.mono {S S' : Hp} {E : DE} {D' : Ends} (i : Imp K W S E D') (e : Same S S') : Imp K W S' E D' :=
  ⟨fun ρ' M' σ' S2 H2 q e2 => i.nx ρ' M' σ' S2 H2 q (e.trans e2), fun ρ' M' σ' S2 H2 q e2 => i.bk ρ' M' σ' S2 H2 q (e.trans e2), fun ρ' M' σ' S2 H2 q e2 => i.ct ρ' M' σ' S2 H2 q (e.trans e2), i.rt.mono e, fun ρ' σ' S2 e2 => i.ex ρ' σ' S2 (e.trans e2)⟩
theorem wpe.imp {Φ' : DP} (h : wpe K W te ρ M Ψ Φ) (k : ∀ d M', Φ d M' → Φ' d M') : wpe K W te ρ M Ψ Φ' := fun S H σ e s x Q q => h S H σ e s x Q fun d M' v S' H' p => q d M' v S' H' (k d M' p)
theorem wpt.imp {Φ Φ' : BP} (h : wpt K W t ρ M Ψ Φ) (k : ∀ b M', Φ b M' → Φ' b M') : wpt K W t ρ M Ψ Φ' := fun S H σ e s x Q q => h S H σ e s x Q fun d M' S' H' p => q d M' S' H' (k d M' p)
/-- fewer slots told -/
theorem wpe.fg {ρ' : List (Option D)} (f : Fg ρ ρ') (h : wpe K W te ρ' M Ψ Φ) : wpe K W te ρ M Ψ Φ := fun S H σ e => h S H σ (e.fg f)

/-! ### names, constants -/
theorem e_var {i : Nat} {d : D} (h : ρ[i]? = some (some d)) (q : Φ d M) : wpe K W (tVar i) ρ M Ψ Φ := fun S H σ e s _ Q k => by
  obtain ⟨v, h1, h2⟩ := e.get h
  exact ⟨v, h1, k d M v S H q (Same.refl S) s h2⟩
theorem e_int {i : Int} (q : Φ (.int i) M) : wpe K W (tC (.int i)) ρ M Ψ Φ := fun S H _ _ s _ _ k => k _ M _ S H q (Same.refl S) s (.int i)
theorem e_str {x : Str} (q : Φ (.str x) M) : wpe K W (tC (.str x)) ρ M Ψ Φ := fun S H _ _ s _ _ k => k _ M _ S H q (Same.refl S) s (.str x)
theorem e_bl {b : Bool} (q : Φ (.bl b) M) : wpe K W (tC (.bl b)) ρ M Ψ Φ := fun S H _ _ s _ _ k => k _ M _ S H q (Same.refl S) s (.bl b)
theorem e_non (q : Φ .non M) : wpe K W (tC .non) ρ M Ψ Φ := fun S H _ _ s _ _ k => k _ M _ S H q (Same.refl S) s .non
theorem e_ty {n : String} (q : Φ (.ty n) M) : wpe K W (tC (.ty n)) ρ M Ψ Φ := fun S H _ _ s _ _ k => k _ M _ S H q (Same.refl S) s (.ty n)
theorem e_ref {a : Addr} (q : Φ (.ref a) M) : wpe K W (tC (.ref a)) ρ M Ψ Φ := fun S H _ _ s _ _ k => k _ M _ S H q (Same.refl S) s (.ref a)

/-! ### operators -/
theorem e_op (h : wpe K W ta ρ M Ψ fun x M1 => wpe K W tb ρ M1 Ψ fun y M2 => wp2 K r x y M2 Φ) : wpe K W (tOp r ta tb) ρ M Ψ Φ := fun S H σ e s x Q k =>
  h S H σ e s x _ fun a M1 v S1 H1 h1 e1 s1 r1 => h1 S1 H1 σ (e.mono e1) s1 (x.mono e1) _ fun b M2 u S2 H2 h2 e2 s2 r2 => h2 S2 H2 v u s2 (r1.mono e2) r2 Q (k.mono (e1.trans e2))
theorem e_un {r : V → Hp → VK → Prop} (h : wpe K W ta ρ M Ψ fun x M1 => wp1 K r x M1 Φ) : wpe K W (tUn r ta) ρ M Ψ Φ := fun S H σ e s x Q k =>
  h S H σ e s x _ fun a M1 v S1 H1 h1 e1 s1 r1 => h1 S1 H1 v s1 r1 Q (k.mono e1)
/-- one of two readings -/
def rOr (r q : R2) : R2 := fun x y H Q => r x y H Q ∨ q x y H Q
theorem o_l {q : R2} {x y : D} (h : wp2 K r x y M Φ) : wp2 K (rOr r q) x y M Φ := fun S H v u s a b Q k => .inl (h S H v u s a b Q k)
theorem o_r {q : R2} {x y : D} (h : wp2 K q x y M Φ) : wp2 K (rOr r q) x y M Φ := fun S H v u s a b Q k => .inr (h S H v u s a b Q k)
theorem op_or {X : Cx} {f : Value → Value → Sem Value} {r q : R2} (h : OpR X f r) (h' : OpR X f q) : OpR X f (rOr r q) := fun pins s σ H x y v u Q I rx ry z => z.elim (h pins s σ H x y v u Q I rx ry) (h' pins s σ H x y v u Q I rx ry)
theorem o_I0 {g : Int → Int → V} {i j : Int} {d : D} (hd : ∀ S, Rep K S d (g i j)) (q : Φ d M) : wp2 K (rI0 g) (.int i) (.int j) M Φ := fun S H v u s a b Q k => by
  cases a; cases b
  exact ⟨i, j, rfl, rfl, k d M _ S H q (Same.refl S) s (hd S)⟩
theorem o_I {C : Int → Int → Prop} {g : Int → Int → V} {i j : Int} {d : D} (hd : ∀ S, Rep K S d (g i j)) (c : C i j) (q : Φ d M) : wp2 K (rI C g) (.int i) (.int j) M Φ := fun S H v u s a b Q k => by
  cases a; cases b
  exact ⟨i, j, rfl, rfl, c, k d M _ S H q (Same.refl S) s (hd S)⟩
end
end DA

/-! DC: lists, tuples, tests, arguments, statements, loops over data. -/
namespace DA
open PySem L2
theorem big {n : Nat} (h : n ≤ 16777216) : n ≤ sizeLine := by rw [PySem.sizeLine_eq]; exact h
theorem big1 {n : Nat} (h : n < 16777216) : n < sizeLine := by rw [PySem.sizeLine_eq]; exact h

/-! ### new objects: told as data that stays, or as a cell -/
inductive NewL (Φ : DP) (M : Mem) (ds : List D) : Prop
  | imm (q : Φ (.lst ds) M)
  | cell (q : ∀ p, M p = none → Φ (.ref p) (mup M p (.lst ds)))
section
variable {K : PySem.W.Frag} {W : WX} {ρ : List (Option D)} {M : Mem} {Ψ : XP} {Φ : DP} {ta tb te : TE} {t u : TT} {r : R2} {S H : Hp} {Q : VK}
theorem End.newL (k : End K S Φ Q) (s : Sim K S H M) {ds : List D} {vs : List V} (rs : Reps K S ds vs) (n : NewL Φ M ds) : ∀ p, H p = none → Q (.ref p) (upd H p (.lst vs)) := fun p hp => by
  cases n with
  | imm q => exact k (.lst ds) M _ _ _ q (same_new (s.freshS hp)) (s.stays hp) (.lst upd_same (rs.mono (same_new (s.freshS hp))))
  | cell q => exact k (.ref p) _ _ _ _ (q p (s.fresh hp)) (Same.refl S) (s.cell hp ⟨vs, upd_same, rs⟩) (.ref p)
theorem End.newT (k : End K S Φ Q) (s : Sim K S H M) {ds : List D} {vs : List V} (rs : Reps K S ds vs) (q : Φ (.tup ds) M) : ∀ p, H p = none → Q (.ref p) (upd H p (.tup vs)) := fun p hp =>
  k (.tup ds) M _ _ _ q (same_new (s.freshS hp)) (s.stays hp) (.tup (.inl (.inl upd_same)) (rs.mono (same_new (s.freshS hp))))

/-! ### what is a list to be read -/
inductive Lv (M : Mem) : D → List D → Prop
  | imm (xs : List D) : Lv M (.lst xs) xs
  | cell {a : Addr} {xs : List D} (h : M a = some (.lst xs)) : Lv M (.ref a) xs
theorem Lv.of (s : Sim K S H M) {d : D} {v : V} {xs : List D} (l : Lv M d xs) (rp : Rep K S d v) : ∃ a vs, v = .ref a ∧ H a = some (.lst vs) ∧ Reps K S xs vs := by
  cases l with
  | imm => cases rp with
    | lst h q => exact ⟨_, _, rfl, s.sub _ _ h, q⟩
  | cell h =>
    cases rp
    obtain ⟨_, vs, e, q⟩ := s.cells _ _ h
    exact ⟨_, vs, rfl, e, q⟩
/-- a list or a tuple, to be read -/
inductive Sv (M : Mem) : D → List D → Prop
  | lst {d : D} {xs : List D} (h : Lv M d xs) : Sv M d xs
  | scr (xs : List D) : Sv M (.scr xs) xs
  | tup (xs : List D) : Sv M (.tup xs) xs
theorem Sv.of (s : Sim K S H M) {d : D} {v : V} {xs : List D} (l : Sv M d xs) (rp : Rep K S d v) : ∃ a vs, v = .ref a ∧ (SqL K H a vs ∨ SqT K H a vs) ∧ Reps K S xs vs := by
  cases l with
  | lst h =>
    obtain ⟨a, vs, e, h1, q⟩ := h.of s rp
    exact ⟨a, vs, e, .inl (.inl (.inl h1)), q⟩
  | scr => cases rp with
    | scr h q => exact ⟨_, _, rfl, .inl (s.sub.seq h), q⟩
  | tup => cases rp with
    | tup h q => exact ⟨_, _, rfl, .inr (Same.sqT s.sub h), q⟩
/-- a list alone -/
inductive Kv (M : Mem) : D → List D → Prop
  | lst {d : D} {xs : List D} (h : Lv M d xs) : Kv M d xs
  | scr (xs : List D) : Kv M (.scr xs) xs
theorem Kv.of (s : Sim K S H M) {d : D} {v : V} {xs : List D} (l : Kv M d xs) (rp : Rep K S d v) : ∃ a vs, v = .ref a ∧ SqL K H a vs ∧ Reps K S xs vs := by
  cases l with
  | lst h =>
    obtain ⟨a, vs, e, h1, q⟩ := h.of s rp
    exact ⟨a, vs, e, .inl (.inl h1), q⟩
  | scr => cases rp with
    | scr h q => exact ⟨_, _, rfl, s.sub.seq h, q⟩

/-! ### + -/
def rAddS : R2 := fun x y H Q => ∃ i j, x = .str i ∧ y = .str j ∧ i.length + j.length ≤ sizeLine ∧ Q (.str (i ++ j)) H
def rAddU (K : PySem.W.Frag) : R2 := rOr (rI0 fun i j => .int (i + j)) (rOr rAddS (rOr rCat (rCatA K)))
theorem op_addU {X : Cx} : OpR X (binaryOp .Add) (rAddU X.K) := op_or op_add (op_or op_add_str (op_or op_cat op_catA))
theorem o_addI {i j : Int} (q : Φ (.int (i + j)) M) : wp2 K (rAddU K) (.int i) (.int j) M Φ := o_l (o_I0 (fun _ => .int _) q)
theorem o_addS {x y : Str} (hz : x.length + y.length ≤ 16777216) (q : Φ (.str (x ++ y)) M) : wp2 K (rAddU K) (.str x) (.str y) M Φ := o_r (o_l fun S H v u s a b Q k => by
  cases a; cases b
  exact ⟨x, y, rfl, rfl, big hz, k _ M _ S H q (Same.refl S) s (.str _)⟩)
theorem o_addL {x y : D} {xs ys : List D} (l1 : Lv M x xs) (l2 : Lv M y ys) (hz : xs.length + ys.length ≤ 16777216) (q : NewL Φ M (xs ++ ys)) : wp2 K (rAddU K) x y M Φ := o_r (o_r (o_l fun S H v u s a b Q k => by
  obtain ⟨p, vs, rfl, e1, r1⟩ := l1.of s a
  obtain ⟨p2, us, rfl, e2, r2⟩ := l2.of s b
  exact ⟨p, p2, vs, us, rfl, rfl, e1, e2, big (by rw [← r1.length, ← r2.length]; exact hz), k.newL s (r1.append r2) q⟩))
theorem o_addT {xs ys : List D} (hz : xs.length + ys.length ≤ 16777216) (q : Φ (.tup (xs ++ ys)) M) : wp2 K (rAddU K) (.tup xs) (.tup ys) M Φ := o_r (o_r (o_r fun S H v u s a b Q k => by
  cases a with
  | @tup a vs _ h1 r1 =>
    cases b with
    | @tup b us _ h2 r2 =>
      refine ⟨a, b, vs, us, rfl, rfl, Same.sqT s.sub h1, Same.sqT s.sub h2, big (by rw [← r1.length, ← r2.length]; exact hz), fun e => ?_, fun _ e => ?_, fun _ _ => k.newT s (r1.append r2) q⟩
      · subst e
        cases r1
        exact k _ M _ S H q (Same.refl S) s (.tup h2 r2)
      · subst e
        cases r2
        rw [List.append_nil] at q
        exact k _ M _ S H q (Same.refl S) s (.tup h1 r1)))

/-! ### other arithmetic -/
theorem o_subI {i j : Int} (q : Φ (.int (i - j)) M) : wp2 K (rI0 fun i j => .int (i - j)) (.int i) (.int j) M Φ := o_I0 (fun _ => .int _) q
def rMulU (K : PySem.W.Frag) : R2 := rOr (rI CMul fun i j => .int (i * j)) (rOr rRep (rRepT K))
theorem op_mulU {X : Cx} : OpR X (binaryOp .Mult) (rMulU X.K) := op_or op_mul (op_or op_rep op_repT)
theorem o_mulI {i j : Int} (c : CMul i j) (q : Φ (.int (i * j)) M) : wp2 K (rMulU K) (.int i) (.int j) M Φ := o_l (o_I (fun _ => .int _) c q)
theorem o_mulL {x : D} {xs : List D} {k : Int} (l : Lv M x xs) (h1 : -(2 ^ 63) ≤ k) (h2 : k < 2 ^ 63) (hz : xs.length * k.toNat ≤ 16777216) (q : NewL Φ M (List.replicate k.toNat xs).flatten) : wp2 K (rMulU K) x (.int k) M Φ := o_r (o_l fun S H v u s a b Q kk => by
  obtain ⟨p, vs, rfl, e1, r1⟩ := l.of s a
  cases b
  exact ⟨p, k, vs, rfl, rfl, e1, h1, h2, big (by rw [← r1.length]; exact hz), kk.newL s (r1.rep _) q⟩)
theorem o_mod {i j : Int} (c : j ≠ 0) (q : Φ (.int (i.fmod j)) M) : wp2 K (rI (fun _ j => j ≠ 0) fun i j => .int (i.fmod j)) (.int i) (.int j) M Φ := o_I (fun _ => .int _) c q
theorem o_fdiv {i j : Int} (c : CDivN i j) (q : Φ (.int (i.fdiv j)) M) : wp2 K (rI CDivN fun i j => .int (i.fdiv j)) (.int i) (.int j) M Φ := o_I (fun _ => .int _) c q
theorem o_pow {i j : Int} (c : CPow i j) (q : Φ (.int (i ^ j.toNat)) M) : wp2 K (rI CPow fun i j => .int (i ^ j.toNat)) (.int i) (.int j) M Φ := o_I (fun _ => .int _) c q
theorem u_neg {i : Int} (q : Φ (.int (-i)) M) : wp1 K (rU fun i => .int (-i)) (.int i) M Φ := fun S H v s a Q k => by
  cases a
  exact ⟨i, rfl, k _ M _ S H q (Same.refl S) s (.int _)⟩

/-! ### comparisons -/
theorem o_lt {i j : Int} (q : Φ (.bl (decide (i < j))) M) : wp2 K (rI0 fun i j => .bl (decide (i < j))) (.int i) (.int j) M Φ := o_I0 (fun _ => .bl _) q
theorem o_le {i j : Int} (q : Φ (.bl (decide (i ≤ j))) M) : wp2 K (rI0 fun i j => .bl (decide (i ≤ j))) (.int i) (.int j) M Φ := o_I0 (fun _ => .bl _) q
theorem o_gt {i j : Int} (q : Φ (.bl (decide (j < i))) M) : wp2 K (rI0 fun i j => .bl (decide (j < i))) (.int i) (.int j) M Φ := o_I0 (fun _ => .bl _) q
theorem o_ge {i j : Int} (q : Φ (.bl (decide (j ≤ i))) M) : wp2 K (rI0 fun i j => .bl (decide (j ≤ i))) (.int i) (.int j) M Φ := o_I0 (fun _ => .bl _) q
theorem o_isN {x : D} {b : Bool} (hb : b = (match x with | .non => true | _ => false)) (q : Φ (.bl b) M) : wp2 K (fun x y H Q => y = .non ∧ Q (.bl (decide (x = .non))) H) x .non M Φ := fun S H v u s a b' Q k => by
  cases b'
  refine ⟨rfl, k (.bl b) M _ S H q (Same.refl S) s ?_⟩
  subst hb
  cases a <;> exact .bl _
theorem o_notN {x : D} {b : Bool} (hb : b = (match x with | .non => false | _ => true)) (q : Φ (.bl b) M) : wp2 K (fun x y H Q => y = .non ∧ Q (.bl (!decide (x = .non))) H) x .non M Φ := fun S H v u s a b' Q k => by
  cases b'
  refine ⟨rfl, k (.bl b) M _ S H q (Same.refl S) s ?_⟩
  subst hb
  cases a <;> exact .bl _
/-- == : scalars, else data -/
def rEqU (K : PySem.W.Frag) : R2 := rOr rEq (rEqD K)
def rNeU (K : PySem.W.Frag) : R2 := rOr rNe (rNeD K)
theorem op_eqU {X : Cx} (hu : X.A.units + 64 < cLine) : OpR X (compareOp .Eq) (rEqU X.K) := op_or op_eq (op_eqD hu)
theorem op_neU {X : Cx} (hu : X.A.units + 64 < cLine) : OpR X (compareOp .NotEq) (rNeU X.K) := op_or op_ne (op_neD hu)
theorem o_eqI {i j : Int} (q : Φ (.bl (decide (i = j))) M) : wp2 K (rEqU K) (.int i) (.int j) M Φ := o_l fun S H v u s a b Q k => by
  cases a; cases b
  have e : decide (V.int i = V.int j) = decide (i = j) := by simp
  exact ⟨rfl, k _ M _ S H q (Same.refl S) s (by rw [e]; exact .bl _)⟩
theorem o_neI {i j : Int} (q : Φ (.bl (!decide (i = j))) M) : wp2 K (rNeU K) (.int i) (.int j) M Φ := o_l fun S H v u s a b Q k => by
  cases a; cases b
  have e : decide (V.int i = V.int j) = decide (i = j) := by simp
  exact ⟨rfl, k _ M _ S H q (Same.refl S) s (by rw [e]; exact .bl _)⟩
theorem o_eqS {i j : Str} (q : Φ (.bl (decide (i = j))) M) : wp2 K (rEqU K) (.str i) (.str j) M Φ := o_l fun S H v u s a b Q k => by
  cases a; cases b
  have e : decide (V.str i = V.str j) = decide (i = j) := by simp
  exact ⟨rfl, k _ M _ S H q (Same.refl S) s (by rw [e]; exact .bl _)⟩
theorem o_neS {i j : Str} (q : Φ (.bl (!decide (i = j))) M) : wp2 K (rNeU K) (.str i) (.str j) M Φ := o_l fun S H v u s a b Q k => by
  cases a; cases b
  have e : decide (V.str i = V.str j) = decide (i = j) := by simp
  exact ⟨rfl, k _ M _ S H q (Same.refl S) s (by rw [e]; exact .bl _)⟩
theorem o_eqB {i j : Bool} (q : Φ (.bl (decide (i = j))) M) : wp2 K (rEqU K) (.bl i) (.bl j) M Φ := o_l fun S H v u s a b Q k => by
  cases a; cases b
  have e : decide (V.bl i = V.bl j) = decide (i = j) := by simp
  exact ⟨rfl, k _ M _ S H q (Same.refl S) s (by rw [e]; exact .bl _)⟩
theorem o_neB {i j : Bool} (q : Φ (.bl (!decide (i = j))) M) : wp2 K (rNeU K) (.bl i) (.bl j) M Φ := o_l fun S H v u s a b Q k => by
  cases a; cases b
  have e : decide (V.bl i = V.bl j) = decide (i = j) := by simp
  exact ⟨rfl, k _ M _ S H q (Same.refl S) s (by rw [e]; exact .bl _)⟩

/-! ### data as the model's == sees it -/
mutual
inductive Pv (M : Mem) : D → PyData → Prop
  | non : Pv M .non .none
  | bl (b : Bool) : Pv M (.bl b) (.bool b)
  | int (i : Int) : Pv M (.int i) (.int i)
  | str (x : Str) : Pv M (.str x) (.str x)
  | lst {ds : List D} {ps : List PyData} (h : Pvs M ds ps) : Pv M (.lst ds) (.list ps)
  | scr {ds : List D} {ps : List PyData} (h : Pvs M ds ps) : Pv M (.scr ds) (.list ps)
  | tup {ds : List D} {ps : List PyData} (h : Pvs M ds ps) : Pv M (.tup ds) (.tuple ps)
  | cell {a : Addr} {ds : List D} {ps : List PyData} (e : M a = some (.lst ds)) (h : Pvs M ds ps) : Pv M (.ref a) (.list ps)
inductive Pvs (M : Mem) : List D → List PyData → Prop
  | nil : Pvs M [] []
  | cons {d : D} {p : PyData} {ds : List D} {ps : List PyData} (h : Pv M d p) (r : Pvs M ds ps) : Pvs M (d :: ds) (p :: ps)
end
mutual
theorem Pv.dp (s : Sim K S H M) : ∀ {d : D} {p : PyData}, Pv M d p → ∀ {v : V}, Rep K S d v → Dp K H v p
  | _, _, .non, _, r => by cases r; exact .non
  | _, _, .bl b, _, r => by cases r; exact .bl b
  | _, _, .int i, _, r => by cases r; exact .int i
  | _, _, .str x, _, r => by cases r; exact .str x
  | _, _, .lst h, _, r => by
    cases r with
    | lst e q => exact .lst (.inl (.inl (s.sub _ _ e))) (Pvs.dp s h q)
  | _, _, .scr h, _, r => by
    cases r with
    | scr e q => exact .lst (s.sub.seq e) (Pvs.dp s h q)
  | _, _, .tup h, _, r => by
    cases r with
    | tup e q => exact .tup (Same.sqT s.sub e) (Pvs.dp s h q)
  | _, _, .cell e h, _, r => by
    cases r
    obtain ⟨_, vs, e2, q⟩ := s.cells _ _ e
    exact .lst (.inl (.inl e2)) (Pvs.dp s h q)
theorem Pvs.dp (s : Sim K S H M) : ∀ {ds : List D} {ps : List PyData}, Pvs M ds ps → ∀ {vs : List V}, Reps K S ds vs → DpAll K H vs ps
  | _, _, .nil, _, r => by cases r; exact .nil
  | _, _, .cons h t, _, r => by
    cases r with
    | cons r1 r2 => exact .cons (Pv.dp s h r1) (Pvs.dp s t r2)
end
theorem o_eqD {x y : D} {p q : PyData} {b : Bool} (hx : Pv M x p) (hy : Pv M y q) (sx : SeqAt.shaped p = true) (sy : SeqAt.shaped q = true) (hb : PyData.eqv p q = b) (z : Φ (.bl b) M) : wp2 K (rEqU K) x y M Φ := o_r fun S H v u s a c Q k =>
  ⟨p, q, hx.dp s a, hy.dp s c, sx, sy, k _ M _ S H z (Same.refl S) s (by rw [hb]; exact .bl _)⟩
theorem o_neD {x y : D} {p q : PyData} {b : Bool} (hx : Pv M x p) (hy : Pv M y q) (sx : SeqAt.shaped p = true) (sy : SeqAt.shaped q = true) (hb : (!PyData.eqv p q) = b) (z : Φ (.bl b) M) : wp2 K (rNeU K) x y M Φ := o_r fun S H v u s a c Q k =>
  ⟨p, q, hx.dp s a, hy.dp s c, sx, sy, k _ M _ S H z (Same.refl S) s (by rw [hb]; exact .bl _)⟩
end
end DA

/-! DD: tests, arguments, displays, subscripts, statements, loops, calls. -/
namespace DA
open PySem L2
section
variable {K : PySem.W.Frag} {W : WX} {ρ : List (Option D)} {M : Mem} {Ψ : XP} {Φ : DP} {ta tb te : TE} {t u : TT} {r : R2} {S H : Hp} {Q : VK}

/-! ### tests -/
variable {Θ : BP}
theorem t_test (h : wpe K W te ρ M Ψ fun d M' => ∃ b, d = .bl b ∧ Θ b M') : wpt K W (tTest te) ρ M Ψ Θ := fun S H σ e s x Q k =>
  h S H σ e s x _ fun d M1 v S1 H1 h1 e1 s1 r1 => by
    obtain ⟨b, rfl, q⟩ := h1
    cases r1
    exact ⟨b, rfl, k b M1 S1 H1 q e1 s1⟩
theorem t_B (h : wpe K W te ρ M Ψ fun d M' => ∃ b, d = .bl b ∧ Θ b M') : wpt K W (tB te) ρ M Ψ Θ := fun S H σ e s x Q k =>
  h S H σ e s x _ fun d M1 v S1 H1 h1 e1 s1 r1 => by
    obtain ⟨b, rfl, q⟩ := h1
    cases r1
    exact ⟨b, rfl, k b M1 S1 H1 q e1 s1⟩
theorem t_and (h : wpt K W t ρ M Ψ fun b M' => (b = true → wpt K W u ρ M' Ψ Θ) ∧ (b = false → Θ false M')) : wpt K W (tAnd t u) ρ M Ψ Θ := fun S H σ e s x Q k =>
  h S H σ e s x _ fun b M1 S1 H1 h1 e1 s1 => by
    cases b with
    | true => exact h1.1 rfl S1 H1 σ (e.mono e1) s1 (x.mono e1) Q fun c M2 S2 H2 q e2 s2 => k c M2 S2 H2 q (e1.trans e2) s2
    | false => exact k false M1 S1 H1 (h1.2 rfl) e1 s1
theorem t_or (h : wpt K W t ρ M Ψ fun b M' => (b = true → Θ true M') ∧ (b = false → wpt K W u ρ M' Ψ Θ)) : wpt K W (tOr t u) ρ M Ψ Θ := fun S H σ e s x Q k =>
  h S H σ e s x _ fun b M1 S1 H1 h1 e1 s1 => by
    cases b with
    | true => exact k true M1 S1 H1 (h1.1 rfl) e1 s1
    | false => exact h1.2 rfl S1 H1 σ (e.mono e1) s1 (x.mono e1) Q fun c M2 S2 H2 q e2 s2 => k c M2 S2 H2 q (e1.trans e2) s2
theorem t_not (h : wpt K W t ρ M Ψ fun b M' => Θ (!b) M') : wpt K W (tNot t) ρ M Ψ Θ := fun S H σ e s x Q k => h S H σ e s x _ fun b M1 S1 H1 h1 e1 s1 => k (!b) M1 S1 H1 h1 e1 s1
theorem t_yes (h : Θ true M) : wpt K W tYes ρ M Ψ Θ := fun S H σ e s x Q k => k true M S H h (Same.refl S) s
/-- truth of a value -/
inductive Tv (M : Mem) : D → Bool → Prop
  | non : Tv M .non false
  | bl (b : Bool) : Tv M (.bl b) b
  | int (i : Int) : Tv M (.int i) (i != 0)
  | str {x : Str} (h : x.length ≤ 16777216) : Tv M (.str x) ((x.length : Int) != 0)
  | seq {d : D} {xs : List D} (h : Sv M d xs) : Tv M d (!xs.isEmpty)
theorem Reps.isEmpty {xs : List D} {vs : List V} (r : Reps K S xs vs) : vs.isEmpty = xs.isEmpty := by cases r <;> rfl
theorem Tv.of (s : Sim K S H M) {d : D} {v : V} {b : Bool} (h : Tv M d b) (r : Rep K S d v) : TruV K v H b := by
  cases h with
  | non => cases r; rfl
  | bl b => cases r; rfl
  | int i => cases r; rfl
  | str h => cases r; exact ⟨big h, rfl⟩
  | seq h =>
    obtain ⟨a, vs, rfl, q, rs⟩ := h.of s r
    rcases q with q | q
    · exact .inl ⟨vs, q, by rw [rs.isEmpty]⟩
    · exact .inr (.inl ⟨vs, q, by rw [rs.isEmpty]⟩)
def tTru' (K : PySem.W.Frag) (ta : TE) : TT := fun σ H Q => ta σ H fun x H' => ∃ k, TruV K x H' k ∧ Q k H'
theorem t_tru (h : wpe K W te ρ M Ψ fun d M' => ∃ b, Tv M' d b ∧ Θ b M') : wpt K W (fun σ H Q => te σ H fun x H' => ∃ k, TruV K x H' k ∧ Q k H') ρ M Ψ Θ := fun S H σ e s x Q k =>
  h S H σ e s x _ fun d M1 v S1 H1 h1 e1 s1 r1 => by
    obtain ⟨b, tb, q⟩ := h1
    exact ⟨b, tb.of s1 r1, k b M1 S1 H1 q e1 s1⟩
/-- a branch by a known answer, by cases -/
theorem e_ite (h : wpt K W t ρ M Ψ fun b M' => (b = true → wpe K W ta ρ M' Ψ Φ) ∧ (b = false → wpe K W tb ρ M' Ψ Φ)) : wpe K W (tIf t ta tb) ρ M Ψ Φ := fun S H σ e s x Q k =>
  h S H σ e s x _ fun b M1 S1 H1 h1 e1 s1 => by
    cases b with
    | true => exact h1.1 rfl S1 H1 σ (e.mono e1) s1 (x.mono e1) Q (k.mono e1)
    | false => exact h1.2 rfl S1 H1 σ (e.mono e1) s1 (x.mono e1) Q (k.mono e1)
theorem e_and (h : wpe K W ta ρ M Ψ fun d M' => ∃ b, d = .bl b ∧ (b = true → wpe K W tb ρ M' Ψ Φ) ∧ (b = false → Φ (.bl false) M')) : wpe K W (tAndV ta tb) ρ M Ψ Φ := fun S H σ e s x Q k =>
  h S H σ e s x _ fun d M1 v S1 H1 h1 e1 s1 r1 => by
    obtain ⟨b, rfl, q1, q2⟩ := h1
    cases r1
    refine ⟨b, rfl, ?_⟩
    cases b with
    | true => exact q1 rfl S1 H1 σ (e.mono e1) s1 (x.mono e1) Q (k.mono e1)
    | false => exact k _ M1 _ S1 H1 (q2 rfl) e1 s1 (.bl _)
theorem e_or (h : wpe K W ta ρ M Ψ fun d M' => ∃ b, d = .bl b ∧ (b = true → Φ (.bl true) M') ∧ (b = false → wpe K W tb ρ M' Ψ Φ)) : wpe K W (tOrV ta tb) ρ M Ψ Φ := fun S H σ e s x Q k =>
  h S H σ e s x _ fun d M1 v S1 H1 h1 e1 s1 r1 => by
    obtain ⟨b, rfl, q1, q2⟩ := h1
    cases r1
    refine ⟨b, rfl, ?_⟩
    cases b with
    | true => exact k _ M1 _ S1 H1 (q1 rfl) e1 s1 (.bl _)
    | false => exact q2 rfl S1 H1 σ (e.mono e1) s1 (x.mono e1) Q (k.mono e1)
theorem e_not (h : wpe K W ta ρ M Ψ fun d M' => ∃ b, d = .bl b ∧ Φ (.bl (!b)) M') : wpe K W (tNotV ta) ρ M Ψ Φ := fun S H σ e s x Q k =>
  h S H σ e s x _ fun d M1 v S1 H1 h1 e1 s1 r1 => by
    obtain ⟨b, rfl, q⟩ := h1
    cases r1
    exact ⟨b, rfl, k _ M1 _ S1 H1 q e1 s1 (.bl _)⟩
theorem e_notT (h : wpe K W ta ρ M Ψ fun d M' => ∃ b, Tv M' d b ∧ Φ (.bl (!b)) M') : wpe K W (tNotT K ta) ρ M Ψ Φ := fun S H σ e s x Q k =>
  h S H σ e s x _ fun d M1 v S1 H1 h1 e1 s1 r1 => by
    obtain ⟨b, tb, q⟩ := h1
    exact ⟨b, tb.of s1 r1, k _ M1 _ S1 H1 q e1 s1 (.bl _)⟩

/-! ### arguments, displays -/
variable {Λ : LP} {tr : TA}
theorem a_nil (q : Λ [] M) : wpa K W tNil ρ M Ψ Λ := fun S H σ e s x Q k => k [] M [] S H q (Same.refl S) s .nil
theorem a_cons (h : wpe K W ta ρ M Ψ fun d M1 => wpa K W tr ρ M1 Ψ fun ds M2 => Λ (d :: ds) M2) : wpa K W (tCons ta tr) ρ M Ψ Λ := fun S H σ e s x Q k =>
  h S H σ e s x _ fun d M1 v S1 H1 h1 e1 s1 r1 => h1 S1 H1 σ (e.mono e1) s1 (x.mono e1) _ fun ds M2 vs S2 H2 h2 e2 s2 r2 => k (d :: ds) M2 (v :: vs) S2 H2 h2 (e1.trans e2) s2 (.cons (r1.mono e2) r2)
theorem e_tup (h : wpa K W tr ρ M Ψ fun ds M1 => ds.length ≤ 16777216 ∧ Φ (.tup ds) M1) : wpe K W (tTup tr) ρ M Ψ Φ := fun S H σ e s x Q k =>
  h S H σ e s x _ fun ds M1 vs S1 H1 h1 e1 s1 r1 => ⟨big (by rw [← r1.length]; exact h1.1), (k.mono e1).newT s1 r1 h1.2⟩
theorem e_lst (h : wpa K W tr ρ M Ψ fun ds M1 => ds.length ≤ 16777216 ∧ NewL Φ M1 ds) : wpe K W (tLst tr) ρ M Ψ Φ := fun S H σ e s x Q k =>
  h S H σ e s x _ fun ds M1 vs S1 H1 h1 e1 s1 r1 => ⟨big (by rw [← r1.length]; exact h1.1), (k.mono e1).newL s1 r1 h1.2⟩

/-! ### subscripts -/
theorem Reps.atI {ds : List D} {vs : List V} {i : Int} {d : D} (rs : Reps K S ds vs) (h : L2.atI ds i = some d) : ∃ v, L2.atI vs i = some v ∧ Rep K S d v := by
  unfold L2.atI at h ⊢
  rw [← rs.length]
  cases e : ixN ds.length i with
  | none => rw [e] at h; cases h
  | some j =>
    rw [e] at h
    exact rs.get h
theorem o_ix {x : D} {xs : List D} {i : Int} {d : D} (l : Sv M x xs) (h : L2.atI xs i = some d) (q : Φ d M) : wp2 K (rIx K) x (.int i) M Φ := fun S H v u s a b Q k => by
  obtain ⟨p, vs, rfl, sq, rs⟩ := l.of s a
  cases b
  obtain ⟨w, e, rd⟩ := rs.atI h
  have fin := k d M w S H q (Same.refl S) s rd
  rcases sq with sq | sq
  · exact .inl ⟨p, vs, i, w, rfl, rfl, sq, e, fin⟩
  · exact .inr (.inl ⟨p, vs, i, w, rfl, rfl, sq, e, fin⟩)
theorem p_none {Θ : Option Int → Mem → Prop} (q : Θ none M) : wpo K W tNoPart ρ M Ψ Θ := fun S H σ e s x Q k => k none M S H q (Same.refl S) s
theorem p_some {Θ : Option Int → Mem → Prop} (h : wpe K W te ρ M Ψ fun d M' => ∃ i, d = .int i ∧ Θ (some i) M') : wpo K W (tPart te) ρ M Ψ Θ := fun S H σ e s x Q k =>
  h S H σ e s x _ fun d M1 v S1 H1 h1 e1 s1 r1 => by
    obtain ⟨i, rfl, q⟩ := h1
    cases r1
    exact ⟨i, rfl, k _ M1 S1 H1 q e1 s1⟩
def cutD (xs : List D) (lo hi : Option Int) : List D := (xs.drop (HT.sIx xs.length 0 lo)).take (HT.sIx xs.length xs.length hi - HT.sIx xs.length 0 lo)
theorem Reps.cut {ds : List D} {vs : List V} (lo hi : Option Int) (rs : Reps K S ds vs) : Reps K S (cutD ds lo hi) (cutV vs lo hi) := by
  unfold cutD cutV
  rw [← rs.length]
  exact (rs.drop _).take _
/-- a slice by values -/
def wps3 (K : PySem.W.Frag) (r : V → Option Int → Option Int → Hp → VK → Prop) (x : D) (lo hi : Option Int) (M : Mem) (Φ : DP) : Prop := ∀ S H v, Sim K S H M → Rep K S x v → ∀ Q : VK, End K S Φ Q → r v lo hi H Q
theorem e_sl {r : V → Option Int → Option Int → Hp → VK → Prop} {tl th : TO} (h : wpe K W te ρ M Ψ fun x M1 => wpo K W tl ρ M1 Ψ fun lo M2 => wpo K W th ρ M2 Ψ fun hi M3 => wps3 K r x lo hi M3 Φ) : wpe K W (tSl r te tl th) ρ M Ψ Φ := fun S H σ e s x Q k =>
  h S H σ e s x _ fun d M1 v S1 H1 h1 e1 s1 r1 => h1 S1 H1 σ (e.mono e1) s1 (x.mono e1) _ fun lo M2 S2 H2 h2 e2 s2 => h2 S2 H2 σ (e.mono (e1.trans e2)) s2 (x.mono (e1.trans e2)) _ fun hi M3 S3 H3 h3 e3 s3 =>
    h3 S3 H3 v s3 (r1.mono (e2.trans e3)) Q (k.mono (e1.trans (e2.trans e3)))
def rSlU (K : PySem.W.Frag) : V → Option Int → Option Int → Hp → VK → Prop := fun x lo hi H Q => rSlL K x lo hi H Q ∨ (rSlA K x lo hi H Q ∨ rSlS x lo hi H Q)
theorem sl_U {X : Cx} : SlR X (rSlU X.K) := SlR.or sl_list (SlR.or sl_tupA sl_str)
theorem sl_L {x : D} {xs : List D} {lo hi : Option Int} (l : Kv M x xs) (q : NewL Φ M (cutD xs lo hi)) : wps3 K (rSlU K) x lo hi M Φ := fun S H v s a Q k => .inl (by
  obtain ⟨p, vs, rfl, e, rs⟩ := l.of s a
  exact ⟨p, vs, rfl, e, k.newL s (rs.cut lo hi) q⟩)
theorem sl_T {xs : List D} {lo hi : Option Int} (q : Φ (.tup (cutD xs lo hi)) M) : wps3 K (rSlU K) (.tup xs) lo hi M Φ := fun S H v s a Q k => .inr (.inl (by
  cases a with
  | @tup p vs _ e rs =>
    refine ⟨p, vs, rfl, Same.sqT s.sub e, fun h => ?_, fun _ => k.newT s (rs.cut lo hi) q⟩
    have : cutD xs lo hi = xs := by
      unfold cutD
      rw [← rs.length] at h
      rw [h.1, h.2]
      simp
    rw [this] at q
    exact k _ M _ S H q (Same.refl S) s (.tup e rs)))
theorem sl_S {z : Str} {lo hi : Option Int} (hz : z.length ≤ 16777216) (q : Φ (.str (cutS z lo hi)) M) : wps3 K (rSlU K) (.str z) lo hi M Φ := fun S H v s a Q k => .inr (.inr (by
  cases a
  exact ⟨z, rfl, big hz, k _ M _ S H q (Same.refl S) s (.str _)⟩))

/-! ### built-ins called, methods called -/
theorem e_cb {r : List V → Hp → VK → Prop} (h : wpa K W tr ρ M Ψ fun ds M1 => wpn K r ds M1 Φ) : wpe K W (tCB r tr) ρ M Ψ Φ := fun S H σ e s x Q k =>
  h S H σ e s x _ fun ds M1 vs S1 H1 h1 e1 s1 r1 => h1 S1 H1 vs s1 r1 Q (k.mono e1)
theorem Reps.one_inv {d : D} {vs : List V} (r : Reps K S [d] vs) : ∃ v, vs = [v] ∧ Rep K S d v := by
  cases r with
  | cons h t => cases t; exact ⟨_, rfl, h⟩
theorem Reps.two_inv {d e : D} {vs : List V} (r : Reps K S [d, e] vs) : ∃ v u, vs = [v, u] ∧ Rep K S d v ∧ Rep K S e u := by
  cases r with
  | cons h t =>
    obtain ⟨u, rfl, q⟩ := Reps.one_inv t
    exact ⟨_, _, rfl, h, q⟩
def rLenU (K : PySem.W.Frag) : List V → Hp → VK → Prop := fun xs H Q => (∃ x n, xs = [x] ∧ LenV K x H n ∧ Q (.int n) H) ∨ ∃ a kvs, xs = [V.ref a] ∧ H a = some (.dK kvs) ∧ Q (.int kvs.length) H
theorem call_or {X : Cx} {f : Value} {r q : List V → Hp → VK → Prop} (h : CallR X f r) (h' : CallR X f q) : CallR X f (fun xs H Q => r xs H Q ∨ q xs H Q) := fun pins s σ H xs us Q I rx z => z.elim (h pins s σ H xs us Q I rx) (h' pins s σ H xs us Q I rx)
theorem call_lenU {X : Cx} : CallR X (.builtin "len") (rLenU X.K) := call_or call_len call_lenD
theorem c_len {x : D} {xs : List D} (l : Sv M x xs) (q : Φ (.int xs.length) M) : wpn K (rLenU K) [x] M Φ := fun S H vs s a Q k => by
  obtain ⟨v, rfl, rv⟩ := a.one_inv
  obtain ⟨p, us, rfl, sq, rs⟩ := l.of s rv
  have fin : Q (.int (us.length : Nat)) H := k _ M _ S H q (Same.refl S) s (by rw [rs.length]; exact .int _)
  refine .inl ⟨_, us.length, rfl, ?_, fin⟩
  rcases sq with sq | sq
  · exact .inl ⟨us, sq, rfl⟩
  · exact .inr ⟨us, sq, rfl⟩
theorem c_lenS {x : Str} (hz : x.length ≤ 16777216) (q : Φ (.int x.length) M) : wpn K (rLenU K) [.str x] M Φ := fun S H vs s a Q k => by
  obtain ⟨v, rfl, rv⟩ := a.one_inv
  cases rv
  exact .inl ⟨_, x.length, rfl, ⟨big hz, rfl⟩, k _ M _ S H q (Same.refl S) s (.int _)⟩
theorem RepKV.length {kvs : List (Key × D)} {ws : List (Key × V)} (r : RepKV K S kvs ws) : kvs.length = ws.length := by
  induction r with
  | nil => rfl
  | cons _ _ ih => simp [ih]
theorem c_lenD {a : Addr} {kvs : List (Key × D)} (hm : M a = some (.dic kvs)) (q : Φ (.int kvs.length) M) : wpn K (rLenU K) [.ref a] M Φ := fun S H vs s c Q k => by
  obtain ⟨v, rfl, rv⟩ := c.one_inv
  cases rv
  obtain ⟨_, ws, e, rs⟩ := s.cells _ _ hm
  exact .inr ⟨a, ws, rfl, e, k _ M _ S H q (Same.refl S) s (by rw [← rs.length]; exact .int _)⟩
def rIntU : List V → Hp → VK → Prop := fun xs H Q => (∃ i, xs = [.int i] ∧ Q (.int i) H) ∨ ∃ k, xs = [.bl k] ∧ Q (.int (if k then 1 else 0)) H
theorem c_intI {i : Int} (q : Φ (.int i) M) : wpn K rIntU [.int i] M Φ := fun S H vs s a Q k => by
  obtain ⟨v, rfl, rv⟩ := a.one_inv
  cases rv
  exact .inl ⟨i, rfl, k _ M _ S H q (Same.refl S) s (.int _)⟩
theorem c_intB {b : Bool} (q : Φ (.int (if b then 1 else 0)) M) : wpn K rIntU [.bl b] M Φ := fun S H vs s a Q k => by
  obtain ⟨v, rfl, rv⟩ := a.one_inv
  cases rv
  exact .inr ⟨b, rfl, k _ M _ S H q (Same.refl S) s (.int _)⟩
theorem c_str {i : Int} (h : i.natAbs.log2 < 1920) (q : Φ (.str (toString i)) M) : wpn K (fun xs H Q => ∃ i : Int, xs = [.int i] ∧ i.natAbs.log2 < 1920 ∧ Q (.str (toString i)) H) [.int i] M Φ := fun S H vs s a Q k => by
  obtain ⟨v, rfl, rv⟩ := a.one_inv
  cases rv
  exact ⟨i, rfl, h, k _ M _ S H q (Same.refl S) s (.str _)⟩
theorem c_list {x : D} {xs : List D} (l : Sv M x xs) (q : NewL Φ M xs) : wpn K (fun xs H Q => ∃ p ys, xs = [.ref p] ∧ (SqL K H p ys ∨ SqT K H p ys) ∧ ∀ l, H l = none → Q (.ref l) (upd H l (.lst ys))) [x] M Φ := fun S H vs s a Q k => by
  obtain ⟨v, rfl, rv⟩ := a.one_inv
  obtain ⟨p, us, rfl, sq, rs⟩ := l.of s rv
  exact ⟨p, us, rfl, sq, k.newL s rs q⟩
theorem c_tupleL {x : D} {xs : List D} (l : Kv M x xs) (q : Φ (.tup xs) M) : wpn K (fun xs H Q => ∃ p ys, xs = [.ref p] ∧ ((SqL K H p ys ∧ ∀ l, H l = none → Q (.ref l) (upd H l (.tup ys))) ∨ (SqT K H p ys ∧ Q (.ref p) H))) [x] M Φ := fun S H vs s a Q k => by
  obtain ⟨v, rfl, rv⟩ := a.one_inv
  obtain ⟨p, us, rfl, sq, rs⟩ := l.of s rv
  exact ⟨p, us, rfl, .inl ⟨sq, k.newT s rs q⟩⟩
theorem c_tupleT {xs : List D} (q : Φ (.tup xs) M) : wpn K (fun xs H Q => ∃ p ys, xs = [.ref p] ∧ ((SqL K H p ys ∧ ∀ l, H l = none → Q (.ref l) (upd H l (.tup ys))) ∨ (SqT K H p ys ∧ Q (.ref p) H))) [.tup xs] M Φ := fun S H vs s a Q k => by
  obtain ⟨v, rfl, rv⟩ := a.one_inv
  cases rv with
  | @tup p us _ e rs => exact ⟨p, us, rfl, .inr ⟨Same.sqT s.sub e, k _ M _ S H q (Same.refl S) s (.tup e rs)⟩⟩
theorem c_max2 {i j : Int} (q : Φ (.int (if j > i then j else i)) M) : wpn K (fun xs H Q => ∃ i j : Int, xs = [.int i, .int j] ∧ Q (.int (if j > i then j else i)) H) [.int i, .int j] M Φ := fun S H vs s a Q k => by
  obtain ⟨v, u, rfl, rv, ru⟩ := a.two_inv
  cases rv; cases ru
  exact ⟨i, j, rfl, k _ M _ S H q (Same.refl S) s (.int _)⟩
theorem c_min2 {i j : Int} (q : Φ (.int (if j < i then j else i)) M) : wpn K (fun xs H Q => ∃ i j : Int, xs = [.int i, .int j] ∧ Q (.int (if j < i then j else i)) H) [.int i, .int j] M Φ := fun S H vs s a Q k => by
  obtain ⟨v, u, rfl, rv, ru⟩ := a.two_inv
  cases rv; cases ru
  exact ⟨i, j, rfl, k _ M _ S H q (Same.refl S) s (.int _)⟩

/-! ### isinstance -/
def tyD : D → Option String
  | .non => some "NoneType" | .bl _ => some "bool" | .int _ => some "int" | .str _ => some "str" | .lst _ => some "list" | .scr _ => some "list" | .tup _ => some "tuple" | _ => none
/-- the type of a value, cells too -/
inductive Yv (M : Mem) : D → String → Prop
  | non : Yv M .non "NoneType"
  | bl (b : Bool) : Yv M (.bl b) "bool"
  | int (i : Int) : Yv M (.int i) "int"
  | str (x : Str) : Yv M (.str x) "str"
  | lst (ds : List D) : Yv M (.lst ds) "list"
  | tup (ds : List D) : Yv M (.tup ds) "tuple"
  | cell {a : Addr} {ds : List D} (h : M a = some (.lst ds)) : Yv M (.ref a) "list"
  | dic {a : Addr} {kvs : List (Key × D)} (h : M a = some (.dic kvs)) : Yv M (.ref a) "dict"
theorem tyX_T {a : Addr} {vs : List V} (h : SqT K H a vs) : TyX K H (.ref a) (.type "tuple") := by
  rcases h with (h | ⟨o, h⟩) | ⟨o, its, n, e, c, _⟩
  · exact .base (.tup h)
  · exact .fTuple h
  · exact .kTuple e c
theorem Yv.of (s : Sim K S H M) {d : D} {v : V} {n : String} (y : Yv M d n) (r : Rep K S d v) : TyX K H v (.type n) := by
  cases y with
  | non => cases r; exact .base .non
  | bl b => cases r; exact .base (.bl b)
  | int i => cases r; exact .base (.int i)
  | str x => cases r; exact .base (.str x)
  | lst ds => cases r with
    | lst h q => exact .base (.lst (s.sub _ _ h))
  | tup ds => cases r with
    | tup h q => exact tyX_T (Same.sqT s.sub h)
  | cell h =>
    cases r
    obtain ⟨_, vs, e, _⟩ := s.cells _ _ h
    exact .base (.lst e)
  | dic h =>
    cases r
    obtain ⟨_, vs, e, _⟩ := s.cells _ _ h
    exact .base (.dK e)
theorem c_isi {x : D} {n m : String} {b : Bool} (y : Yv M x n) (h : kitB n m = some b) (q : Φ (.bl b) M) : wpn K (rIsi K) [x, .ty m] M Φ := fun S H vs s a Q k => by
  obtain ⟨v, u, rfl, rv, ru⟩ := a.two_inv
  cases ru
  exact ⟨v, _, _, _, b, rfl, .ty m, y.of s rv, kit_ty h, k _ M _ S H q (Same.refl S) s (.bl _)⟩

/-! ### statements -/
variable {E : DE} {ts tu : TS} {g : TG}
theorem s_seq (h : wps K W ts ρ M { E with nx := fun ρ' M' => wps K W tu ρ' M' E }) : wps K W (tSeq ts tu) ρ M E := fun S H σ D' e s i =>
  h S H σ { D' with nx := tu D' } e s ⟨fun ρ' M' σ' S' H' q e' en s' => q S' H' σ' D' en s' (i.mono e'), i.bk, i.ct, i.rt, i.ex⟩
theorem s_next (q : E.nx ρ M) : wps K W tNext ρ M E := fun S H σ D' e s i => i.nx ρ M σ S H q (Same.refl S) e s
theorem s_brk (q : E.bk ρ M) : wps K W tBreak ρ M E := fun S H σ D' e s i => i.bk ρ M σ S H q (Same.refl S) e s
theorem s_cont (q : E.ct ρ M) : wps K W tCont ρ M E := fun S H σ D' e s i => i.ct ρ M σ S H q (Same.refl S) e s
theorem s_drop (h : wpe K W te ρ M (E.ex ρ) fun _ M' => E.nx ρ M') : wps K W (tDrop te) ρ M E := fun S H σ D' e s i =>
  h S H σ e s (i.ex ρ σ S (Same.refl S) e) _ fun d M' v S' H' q e' s' _ => i.nx ρ M' σ S' H' q e' (e.mono e') s'
theorem s_ret (h : wpe K W te ρ M (E.ex ρ) E.rt) : wps K W (tRet te) ρ M E := fun S H σ D' e s i => h S H σ e s (i.ex ρ σ S (Same.refl S) e) _ i.rt
theorem s_retN (h : E.rt .non M) : wps K W tRetN ρ M E := fun S H σ D' e s i => i.rt .non M .non S H h (Same.refl S) s .non
theorem s_if (h : wpt K W t ρ M (E.ex ρ) fun b M' => (b = true → wps K W ts ρ M' E) ∧ (b = false → wps K W tu ρ M' E)) : wps K W (tIfS t ts tu) ρ M E := fun S H σ D' e s i =>
  h S H σ e s (i.ex ρ σ S (Same.refl S) e) _ fun b M' S' H' q e' s' => by
    cases b with
    | true => exact q.1 rfl S' H' σ D' (e.mono e') s' (i.mono e')
    | false => exact q.2 rfl S' H' σ D' (e.mono e') s' (i.mono e')
theorem s_asg (h : wpe K W te ρ M (E.ex ρ) fun d M' => wpg K W g d ρ M' (E.ex ρ) E.nx) : wps K W (tAsg te g) ρ M E := fun S H σ D' e s i =>
  h S H σ e s (i.ex ρ σ S (Same.refl S) e) _ fun d M' v S' H' q e' s' r' => q S' H' σ v (e.mono e') s' ((i.ex ρ σ S (Same.refl S) e).mono e') r' _ fun ρ2 M2 σ2 S2 H2 p e2 en2 s2 => i.nx ρ2 M2 σ2 S2 H2 p (e'.trans e2) en2 s2
theorem s_fg {ρ' : List (Option D)} (f : Fg ρ ρ') (h : wps K W ts ρ' M E) : wps K W ts ρ M E := fun S H σ D' e s i => h S H σ D' (e.fg f) s i
/-- fewer cells are told from here on -/
theorem s_less {M' : Mem} (h : Sub M' M) (q : wps K W ts ρ M' E) : wps K W ts ρ M E := fun S H σ D' e s i => q S H σ D' e (s.less h) i
theorem wps.imp {E' : DE} (h : wps K W ts ρ M E) (nx : ∀ ρ' M', E.nx ρ' M' → E'.nx ρ' M') (rt : ∀ d M', E.rt d M' → E'.rt d M') (bk : ∀ ρ' M', E.bk ρ' M' → E'.bk ρ' M') (ct : ∀ ρ' M', E.ct ρ' M' → E'.ct ρ' M')
    (ex : ∀ ρ' c ns ds M', E.ex ρ' c ns ds M' → E'.ex ρ' c ns ds M') : wps K W ts ρ M E' := fun S H σ D' e s i => h S H σ D' e s
  ⟨fun ρ' M' σ' S' H' q => i.nx ρ' M' σ' S' H' (nx _ _ q), fun ρ' M' σ' S' H' q => i.bk ρ' M' σ' S' H' (bk _ _ q), fun ρ' M' σ' S' H' q => i.ct ρ' M' σ' S' H' (ct _ _ q), fun d M' v S' H' q => i.rt d M' v S' H' (rt _ _ q),
    fun ρ' σ' S' e' en c ns ds M' dd S2 H2 q => i.ex ρ' σ' S' e' en c ns ds M' dd S2 H2 (ex _ _ _ _ _ q)⟩
/-- a cell that no longer changes becomes data that stays: the slot i -/
theorem EnvR.swap {i : Nat} {p : Addr} {ds : List D} {S S' : Hp} (hS : Same S S') (hr : Rep K S' (.lst ds) (.ref p)) : ∀ {ρ : List (Option D)} {σ : L2.St} {i : Nat}, EnvR K S ρ σ → ρ[i]? = some (some (.ref p)) → EnvR K S' (ρ.set i (some (.lst ds))) σ
  | _, _, _, .nil, e => by simp at e
  | _, _, 0, .skip _, e => by simp at e
  | _, _, 0, .cons h r, e => by
    simp at e
    subst e
    cases h
    exact .cons hr (EnvR.mono hS r)
  | _, _, i + 1, .skip r, e => .skip (EnvR.swap (i := i) hS hr r (by simpa using e))
  | _, _, i + 1, .cons h r, e => .cons (h.mono hS) (EnvR.swap (i := i) hS hr r (by simpa using e))
theorem s_frz {i : Nat} {p : Addr} {ds : List D} (h1 : ρ[i]? = some (some (.ref p))) (h2 : M p = some (.lst ds)) (h : wps K W ts (ρ.set i (some (.lst ds))) (mdel M p) E) : wps K W ts ρ M E := fun S H σ D' e s i' => by
  obtain ⟨sp, vs, eH, rs⟩ := s.cells _ _ h2
  have e1 : Same S (upd S p (.lst vs)) := same_new sp
  have hr : Rep K (upd S p (.lst vs)) (.lst ds) (.ref p) := .lst upd_same (rs.mono e1)
  exact h _ H σ D' (EnvR.swap (i := i) (p := p) e1 hr e h1) (s.freeze h2 eH) (i'.mono e1)

/-! ### targets -/
variable {Ω : EP'}
theorem g_name {i : Nat} {d : D} (q : Ω (ρ.set i (some d)) M) : wpg K W (gName i) d ρ M Ψ Ω := fun S H σ v e s x r Q k => k _ M _ S H q (Same.refl S) (e.set r i) s
theorem g_nil (q : Ω ρ M) : wpgs K W gNil [] ρ M Ψ Ω := fun S H σ vs e s x r Q k => by
  cases r
  exact ⟨rfl, k ρ M σ S H q (Same.refl S) e s⟩
theorem XOk.at {σ' : L2.St} (h : ∀ cls dd σ σ' H, W cls dd σ H → W cls dd σ' H) (x : XOk K W Ψ S σ') (σ : L2.St) : XOk K W Ψ S σ := fun c ns ds M' dd S' H' q e s r => h _ _ _ _ _ (x c ns ds M' dd S' H' q e s r)
theorem g_cons {i : Nat} {us : TGs} {d : D} {ds : List D} (q : wpgs K (fun _ _ _ _ => False) us ds (ρ.set i (some d)) M xno Ω) : wpgs K W (gCons (gName i) us) (d :: ds) ρ M Ψ Ω := fun S H σ vs e s x r Q k => by
  cases r with
  | cons r1 r2 => exact ⟨_, _, rfl, q S H _ _ (e.set r1 i) s (fun _ _ _ _ _ _ _ z => z.elim) r2 Q k⟩
theorem g_tup {n : Nat} {us : TGs} {ds : List D} (hn : ds.length = n) (q : wpgs K W us ds ρ M Ψ Ω) : wpg K W (gTup K n us) (.tup ds) ρ M Ψ Ω := fun S H σ v e s x r Q k => by
  cases r with
  | tup h rs => exact ⟨_, _, rfl, Same.sqT s.sub h, by rw [← rs.length]; exact hn, q S H σ _ e s x rs Q k⟩
theorem s_par {i j : Nat} (h : wpa K W tr ρ M (E.ex ρ) fun ds M' => ∃ a b, ds = [a, b] ∧ E.nx ((ρ.set i (some a)).set j (some b)) M') : wps K W (tPar i j tr) ρ M E := fun S H σ D' e s i' =>
  h S H σ e s (i'.ex ρ σ S (Same.refl S) e) _ fun ds M' vs S' H' q e' s' r' => by
    obtain ⟨a, b, rfl, q⟩ := q
    obtain ⟨v, u, rfl, rv, ru⟩ := r'.two_inv
    exact ⟨v, u, rfl, i'.nx _ M' _ S' H' q e' (((e.mono e').set rv i).set ru j) s'⟩

/-! ### methods of lists -/
theorem e_bm {T : String} {r : V → List V → Hp → VK → Prop} (h : wpe K W te ρ M Ψ fun x M1 => (∀ S H v, Sim K S H M1 → Rep K S x v → tyV K T v H) ∧ wpa K W tr ρ M1 Ψ fun ds M2 => wpm K r x ds M2 Φ) : wpe K W (tBM K T r te tr) ρ M Ψ Φ := fun S H σ e s x Q k =>
  h S H σ e s x _ fun d M1 v S1 H1 h1 e1 s1 r1 => ⟨h1.1 S1 H1 v s1 r1, h1.2 S1 H1 σ (e.mono e1) s1 (x.mono e1) _ fun ds M2 vs S2 H2 h2 e2 s2 r2 => h2 S2 H2 v vs s2 (r1.mono e2) r2 Q (k.mono (e1.trans e2))⟩
theorem e_bm0 {T : String} {r : V → List V → Hp → VK → Prop} (h : wpe K W te ρ M Ψ fun x M1 => (∀ S H v, Sim K S H M1 → Rep K S x v → tyV K T v H) ∧ wpm K r x [] M1 Φ) : wpe K W (tBM0 K T r te) ρ M Ψ Φ := fun S H σ e s x Q k =>
  h S H σ e s x _ fun d M1 v S1 H1 h1 e1 s1 r1 => ⟨h1.1 S1 H1 v s1 r1, h1.2 S1 H1 v [] s1 r1 .nil Q (k.mono e1)⟩
theorem ty_cell {a : Addr} {xs : List D} (h : M a = some (.lst xs)) : ∀ S H v, Sim K S H M → Rep K S (.ref a) v → tyV K "list" v H := fun S H v s r => by
  cases r
  obtain ⟨_, vs, e, _⟩ := s.cells _ _ h
  exact .inl ⟨rfl, vs, .inl (.inl e)⟩
theorem ty_Kv {x : D} {xs : List D} (h : Kv M x xs) : ∀ S H v, Sim K S H M → Rep K S x v → tyV K "list" v H := fun S H v s r => by
  obtain ⟨a, vs, rfl, e, _⟩ := h.of s r
  exact .inl ⟨rfl, vs, e⟩
theorem ty_str {z : Str} : ∀ S H v, Sim K S H M → Rep K S (.str z) v → tyV K "str" v H := fun S H v s r => by
  cases r
  rfl
theorem m_append {a : Addr} {xs : List D} {d : D} (h : M a = some (.lst xs)) (hz : xs.length < 16777216) (q : Φ .non (mup M a (.lst (xs ++ [d])))) : wpm K rAppend (.ref a) [d] M Φ := fun S H v vs s r rs Q k => by
  cases r
  obtain ⟨u, rfl, ru⟩ := rs.one_inv
  obtain ⟨sp, us, e, q1⟩ := s.cells _ _ h
  exact ⟨a, us, u, rfl, rfl, e, big1 (by rw [← q1.length]; exact hz), k _ _ _ S _ q (Same.refl S) (s.write h ⟨_, upd_same, q1.append (Reps.one ru)⟩) .non⟩
theorem m_extend {a : Addr} {xs ys : List D} {d : D} (h : M a = some (.lst xs)) (l : Lv M d ys) (hz : xs.length + ys.length ≤ 16777216) (q : Φ .non (mup M a (.lst (xs ++ ys)))) : wpm K rExtend (.ref a) [d] M Φ := fun S H v vs s r rs Q k => by
  cases r
  obtain ⟨u, rfl, ru⟩ := rs.one_inv
  obtain ⟨sp, us, e, q1⟩ := s.cells _ _ h
  obtain ⟨b, ws, rfl, e2, q2⟩ := l.of s ru
  exact ⟨a, b, us, ws, rfl, rfl, e, e2, big (by rw [← q1.length, ← q2.length]; exact hz), k _ _ _ S _ q (Same.refl S) (s.write h ⟨_, upd_same, q1.append q2⟩) .non⟩
end
end DA

/-! DE: loops, comprehensions, calls of defs, a def by its body. -/
namespace DA
open PySem L2 PyProof.Rows
section
variable {K : PySem.W.Frag} {W : WX} {ρ : List (Option D)} {M : Mem} {Ψ : XP} {Φ : DP} {ta tb te : TE} {t u : TT} {r : R2} {S H : Hp} {Q : VK} {tr : TA}

/-! ### what is walked -/
structure WalkD (K : PySem.W.Frag) (J : It) (n : Nat) (item : Nat → D) (Gm : Mem → Prop) (S : Hp) : Prop where
  ex : ∃ (G : Hp → Prop) (Y : Nat → Hp → V → Hp → Prop), Walk J n G Y ∧ (∀ S2 H2 M2, Same S S2 → Sim K S2 H2 M2 → Gm M2 → G H2) ∧
    ∀ i H2 x H3 S2 M2, i < n → Same S S2 → Sim K S2 H2 M2 → Gm M2 → Y i H2 x H3 → ∃ S3, Same S2 S3 ∧ Sim K S3 H3 M2 ∧ Rep K S3 (item i) x
def wpi (K : PySem.W.Frag) (W : WX) (wi : TI) (ρ : List (Option D)) (M : Mem) (Ψ : XP) (Θ : Nat → (Nat → D) → (Mem → Prop) → Mem → Prop) : Prop :=
  ∀ S H σ, EnvR K S ρ σ → Sim K S H M → XOk K W Ψ S σ → ∀ R : It → Hp → Prop, (∀ n item Gm M' S' H' J, Θ n item Gm M' → Same S S' → Sim K S' H' M' → WalkD K J n item Gm S' → R J H') → wi σ H R
def nth (xs : List D) (i : Nat) : D := xs.getD i .non
theorem nth_get {xs : List D} {i : Nat} (h : i < xs.length) : xs[i]? = some (nth xs i) := by
  unfold nth
  rw [List.getD_eq_getElem?_getD, List.getElem?_eq_getElem h]
  rfl
variable {Θ : Nat → (Nat → D) → (Mem → Prop) → Mem → Prop}
theorem i_list (h : wpe K W te ρ M Ψ fun d M' => ∃ xs, d = .lst xs ∧ Θ xs.length (nth xs) (fun _ => True) M') : wpi K W (iList K te) ρ M Ψ Θ := fun S H σ e s x R k =>
  h S H σ e s x _ fun d M1 v S1 H1 h1 e1 s1 r1 => by
    obtain ⟨xs, rfl, q⟩ := h1
    cases r1 with
    | @lst a vs _ ha rs =>
      refine ⟨a, rfl, ⟨vs, .inl (.inl (s1.sub _ _ ha))⟩, k _ _ _ M1 S1 H1 _ q e1 s1 ⟨_, _, by rw [rs.length]; exact walk_list (K := K) (a := a) (xs := vs), fun S2 H2 M2 e2 s2 _ => SqL.of (s2.sub _ _ (e2 _ _ ha)), fun i H2 y H3 S2 M2 hi e2 s2 _ hy => ?_⟩⟩
      obtain ⟨rfl, hv⟩ := hy
      obtain ⟨u, h1, h2⟩ := rs.get (nth_get hi)
      rw [h1] at hv
      cases hv
      exact ⟨S2, Same.refl _, s2, h2.mono e2⟩
/-- over a list that is a cell: it stays as it is while it is walked -/
theorem i_cell (h : wpe K W te ρ M Ψ fun d M' => ∃ a xs, d = .ref a ∧ M' a = some (.lst xs) ∧ Θ xs.length (nth xs) (fun N => N a = some (.lst xs)) M') : wpi K W (iList K te) ρ M Ψ Θ := fun S H σ e s x R k =>
  h S H σ e s x _ fun d M1 v S1 H1 h1 e1 s1 r1 => by
    obtain ⟨a, xs, rfl, hm, q⟩ := h1
    cases r1
    obtain ⟨_, vs, ha, rs⟩ := s1.cells _ _ hm
    refine ⟨a, rfl, ⟨vs, .inl (.inl ha)⟩, k _ _ _ M1 S1 H1 (Itl K a) q e1 s1 ⟨fun H2 => ∃ us, SqL K H2 a us ∧ us.length = xs.length, fun i H2 y H3 => H3 = H2 ∧ ∀ us, SqL K H2 a us → us[i]? = some y, ⟨fun i H2 hi hG => ?_, fun H2 hG => ?_, fun i H2 y H3 hi hG hy => hy⟩, fun S2 H2 M2 e2 s2 hG => ?_, fun i H2 y H3 S2 M2 hi e2 s2 hG hy => ?_⟩⟩
    · obtain ⟨us, h1, h2⟩ := hG
      exact ⟨us, us[i]'(by omega), h1, by simp [show i < us.length by omega]⟩
    · obtain ⟨us, h1, h2⟩ := hG
      exact ⟨us, h1, by omega⟩
    · obtain ⟨_, us, h1, h2⟩ := s2.cells _ _ hG
      exact ⟨us, .inl (.inl h1), h2.length.symm⟩
    · obtain ⟨rfl, hv⟩ := hy
      obtain ⟨_, us, h1, h2⟩ := s2.cells _ _ hG
      obtain ⟨u, h3, h4⟩ := h2.get (nth_get hi)
      have := hv us (.inl (.inl h1))
      rw [h3] at this
      cases this
      exact ⟨S2, Same.refl _, s2, h4⟩
theorem i_tup (h : wpe K W te ρ M Ψ fun d M' => ∃ xs, d = .tup xs ∧ Θ xs.length (nth xs) (fun _ => True) M') : wpi K W (iTup K te) ρ M Ψ Θ := fun S H σ e s x R k =>
  h S H σ e s x _ fun d M1 v S1 H1 h1 e1 s1 r1 => by
    obtain ⟨xs, rfl, q⟩ := h1
    cases r1 with
    | @tup a vs _ ha rs =>
      refine ⟨a, rfl, ⟨vs, Same.sqT s1.sub ha⟩, k _ _ _ M1 S1 H1 _ q e1 s1 ⟨_, _, by rw [rs.length]; exact walk_tup (K := K) (a := a) (xs := vs), fun S2 H2 M2 e2 s2 _ => Same.sqT s2.sub (Same.sqT e2 ha), fun i H2 y H3 S2 M2 hi e2 s2 _ hy => ?_⟩⟩
      obtain ⟨rfl, hv⟩ := hy
      obtain ⟨u, h1, h2⟩ := rs.get (nth_get hi)
      rw [h1] at hv
      cases hv
      exact ⟨S2, Same.refl _, s2, h2.mono e2⟩
/-- a list or a tuple -/
def iSeq (K : PySem.W.Frag) (te : TE) : TI := fun σ H R => te σ H fun x H1 => (∃ a, x = .ref a ∧ (∃ xs, SqL K H1 a xs) ∧ R (Itl K a) H1) ∨ ∃ a, x = .ref a ∧ (∃ xs, SqT K H1 a xs) ∧ R (Itt K a) H1
theorem pi_seq {X : Cx} {tg l : Expr} {tl : TE} (hl : PE X l tl) : PI X tg l (iSeq X.K tl) := by
  refine ⟨fun pins s σ H R I h => ?_⟩
  refine thn (hl.run pins s σ H _ I h) fun v s1 ⟨x, H1, I1, r1, q1⟩ => ?_
  rcases q1 with ⟨a, e, ⟨xs, hq⟩, q⟩ | ⟨a, e, ⟨xs, hq⟩, q⟩
  · subst e
    cases r1
    obtain ⟨its, rv, p, hz⟩ := I1.list hq
    refine wpAny_pyIter_list p.isList ?_
    refine ⟨s1.heap.objs.size, [s1.heap.objs.size], _, _, H1, rfl, I1.kept (t' := s1.toks) fun b o e => Heap.get?_push_of_some _ e, turn_list a _, ⟨_, Heap.get?_push_size _ rfl, rfl, rfl⟩, fun b hb => ?_, q⟩
    have e : b = s1.heap.objs.size := by simpa using hb
    subst e
    exact I1.fpOk (Nat.le_refl _) (I1.hok.fresh (Nat.le_refl _))
  · subst e
    cases r1
    obtain ⟨its, rv, p, hz⟩ := I1.tuple hq
    refine wpAny_pyIter_tuple (show s1.heap.IsTuple a its.toArray from p) ?_
    refine ⟨s1.heap.objs.size, [s1.heap.objs.size], _, _, H1, rfl, I1.kept (t' := s1.toks) fun b o e => Heap.get?_push_of_some _ e, turn_tuple a _, ⟨_, Heap.get?_push_size _ rfl, rfl, rfl⟩, fun b hb => ?_, q⟩
    have e : b = s1.heap.objs.size := by simpa using hb
    subst e
    exact I1.fpOk (Nat.le_refl _) (I1.hok.fresh (Nat.le_refl _))
theorem iS_list (h : wpi K W (iList K te) ρ M Ψ Θ) (mono : ∀ σ H (Q Q' : VK), (∀ v H', Q v H' → Q' v H') → te σ H Q → te σ H Q') : wpi K W (iSeq K te) ρ M Ψ Θ := fun S H σ e s x R k => mono σ H _ _ (fun v H' q => .inl q) (h S H σ e s x R k)
/-- over data that stays: a list or a tuple -/
theorem i_seq (h : wpe K W te ρ M Ψ fun d M' => ∃ xs, (d = .lst xs ∨ d = .tup xs) ∧ Θ xs.length (nth xs) (fun _ => True) M') : wpi K W (iSeq K te) ρ M Ψ Θ := fun S H σ e s x R k =>
  h S H σ e s x _ fun d M1 v S1 H1 h1 e1 s1 r1 => by
    obtain ⟨xs, hd, q⟩ := h1
    rcases hd with rfl | rfl
    · cases r1 with
      | @lst a vs _ ha rs =>
        refine .inl ⟨a, rfl, ⟨vs, .inl (.inl (s1.sub _ _ ha))⟩, k _ _ _ M1 S1 H1 _ q e1 s1 ⟨_, _, by rw [rs.length]; exact walk_list (K := K) (a := a) (xs := vs), fun S2 H2 M2 e2 s2 _ => SqL.of (s2.sub _ _ (e2 _ _ ha)), fun i H2 y H3 S2 M2 hi e2 s2 _ hy => ?_⟩⟩
        obtain ⟨rfl, hv⟩ := hy
        obtain ⟨u, h1, h2⟩ := rs.get (nth_get hi)
        rw [h1] at hv
        cases hv
        exact ⟨S2, Same.refl _, s2, h2.mono e2⟩
    · cases r1 with
      | @tup a vs _ ha rs =>
        refine .inr ⟨a, rfl, ⟨vs, Same.sqT s1.sub ha⟩, k _ _ _ M1 S1 H1 _ q e1 s1 ⟨_, _, by rw [rs.length]; exact walk_tup (K := K) (a := a) (xs := vs), fun S2 H2 M2 e2 s2 _ => Same.sqT s2.sub (Same.sqT e2 ha), fun i H2 y H3 S2 M2 hi e2 s2 _ hy => ?_⟩⟩
        obtain ⟨rfl, hv⟩ := hy
        obtain ⟨u, h1, h2⟩ := rs.get (nth_get hi)
        rw [h1] at hv
        cases hv
        exact ⟨S2, Same.refl _, s2, h2.mono e2⟩
theorem i_rng1 (h : wpa K W tr ρ M Ψ fun ds M' => ∃ j : Int, ds = [.int j] ∧ (-(2 ^ 62) ≤ j ∧ j < 2 ^ 62) ∧ Θ j.toNat (fun i => .int (i : Int)) (fun _ => True) M') : wpi K W (iRng1 tr) ρ M Ψ Θ := fun S H σ e s x R k =>
  h S H σ e s x _ fun ds M1 vs S1 H1 h1 e1 s1 r1 => by
    obtain ⟨j, rfl, hj, q⟩ := h1
    obtain ⟨v, rfl, rv⟩ := r1.one_inv
    cases rv
    refine ⟨j, rfl, hj.1, hj.2, k _ _ _ M1 S1 H1 _ q e1 s1 ⟨_, _, walk_range (lo := 0) (n := j.toNat), fun _ _ _ _ _ _ => True.intro, fun i H2 y H3 S2 M2 hi e2 s2 _ hy => ?_⟩⟩
    obtain ⟨rfl, hv⟩ := hy
    subst hv
    refine ⟨S2, Same.refl _, s2, ?_⟩
    show Rep K S2 (.int (i : Int)) (.int ((0 : Int) + (i : Int)))
    rw [Int.zero_add]
    exact .int _
theorem i_rng2 (h : wpa K W tr ρ M Ψ fun ds M' => ∃ a b : Int, ds = [.int a, .int b] ∧ (-(2 ^ 62) ≤ a ∧ a < 2 ^ 62 ∧ -(2 ^ 62) ≤ b ∧ b < 2 ^ 62) ∧ Θ (b - a).toNat (fun i => .int (a + (i : Int))) (fun _ => True) M') : wpi K W (iRng2 tr) ρ M Ψ Θ := fun S H σ e s x R k =>
  h S H σ e s x _ fun ds M1 vs S1 H1 h1 e1 s1 r1 => by
    obtain ⟨a, b, rfl, hj, q⟩ := h1
    obtain ⟨v, w, rfl, rv, rw'⟩ := r1.two_inv
    cases rv; cases rw'
    refine ⟨a, b, rfl, hj, k _ _ _ M1 S1 H1 _ q e1 s1 ⟨_, _, walk_range (lo := a) (n := (b - a).toNat), fun _ _ _ _ _ _ => True.intro, fun i H2 y H3 S2 M2 hi e2 s2 _ hy => ?_⟩⟩
    obtain ⟨rfl, hv⟩ := hy
    subst hv
    exact ⟨S2, Same.refl _, s2, .int _⟩
theorem i_enum (h : wpa K W tr ρ M Ψ fun ds M' => ∃ xs, ds = [.lst xs] ∧ Θ xs.length (fun i => .tup [.int (i : Int), nth xs i]) (fun _ => True) M') : wpi K W (iEnum K tr) ρ M Ψ Θ := fun S H σ e s x R k =>
  h S H σ e s x _ fun ds M1 vs S1 H1 h1 e1 s1 r1 => by
    obtain ⟨xs, rfl, q⟩ := h1
    obtain ⟨v, rfl, rv⟩ := r1.one_inv
    cases rv with
    | @lst a vs _ ha rs =>
      refine ⟨a, vs, rfl, .inl (.inl (s1.sub _ _ ha)), k _ _ _ M1 S1 H1 _ q e1 s1 ⟨_, _, by rw [rs.length]; exact walk_enum (K := K) (a := a) (xs := vs), fun S2 H2 M2 e2 s2 _ => SqL.of (s2.sub _ _ (e2 _ _ ha)), fun i H2 y H3 S2 M2 hi e2 s2 _ hy => ?_⟩⟩
      obtain ⟨T, p, q, rfl, hT, rfl, h1, h2⟩ := hy
      cases h1
      obtain ⟨w, h3, h4⟩ := rs.get (nth_get hi)
      cases h3.symm.trans h2
      exact ⟨_, same_new (s2.freshS hT), s2.stays hT, .tup (.inl (.inl upd_same)) (.cons (.int _) (.cons (h4.mono (e2.trans (same_new (s2.freshS hT)))) .nil))⟩
theorem i_zip (h : wpa K W tr ρ M Ψ fun ds M' => ∃ xs ys, ds = [.lst xs, .lst ys] ∧ Θ (min xs.length ys.length) (fun i => .tup [nth xs i, nth ys i]) (fun _ => True) M') : wpi K W (iZip K tr) ρ M Ψ Θ := fun S H σ e s x R k =>
  h S H σ e s x _ fun ds M1 vs S1 H1 h1 e1 s1 r1 => by
    obtain ⟨xs, ys, rfl, q⟩ := h1
    obtain ⟨v, w, rfl, rv, rw'⟩ := r1.two_inv
    cases rv with
    | @lst a vs _ ha rs =>
      cases rw' with
      | @lst b us _ hb rt =>
        refine ⟨a, b, vs, us, rfl, .inl (.inl (s1.sub _ _ ha)), .inl (.inl (s1.sub _ _ hb)), k _ _ _ M1 S1 H1 _ q e1 s1 ⟨_, _, walk_zip (K := K) (a := a) (b := b) (xs := vs) (ys := us) (by rw [rs.length, rt.length]),
          fun S2 H2 M2 e2 s2 _ => ⟨.inl (.inl (s2.sub _ _ (e2 _ _ ha))), .inl (.inl (s2.sub _ _ (e2 _ _ hb)))⟩, fun i H2 y H3 S2 M2 hi e2 s2 _ hy => ?_⟩⟩
        obtain ⟨T, p, q, rfl, hT, rfl, h1, h2⟩ := hy
        obtain ⟨w, h3, h4⟩ := rs.get (nth_get (show i < xs.length by omega))
        obtain ⟨w2, h5, h6⟩ := rt.get (nth_get (show i < ys.length by omega))
        cases h3.symm.trans h1
        cases h5.symm.trans h2
        have en : Same S1 (upd S2 T (.tup [p, q])) := e2.trans (same_new (s2.freshS hT))
        exact ⟨_, same_new (s2.freshS hT), s2.stays hT, .tup (.inl (.inl upd_same)) (.cons (h4.mono en) (.cons (h6.mono en) .nil))⟩

/-! ### for -/
variable {E : DE} {ts tu : TS} {g : TG} {wi : TI}
theorem s_for (h : wpi K W wi ρ M (E.ex ρ) fun n item Gm M1 => ∃ I : Nat → List (Option D) → Mem → Prop, I 0 ρ M1 ∧ (∀ i ρ' M', i ≤ n → I i ρ' M' → Gm M') ∧
    (∀ i ρ' M', i < n → I i ρ' M' → wpg K W g (item i) ρ' M' (E.ex ρ') fun ρ2 M2 => wps K W ts ρ2 M2 { E with nx := I (i + 1), ct := I (i + 1), bk := E.nx }) ∧ ∀ ρ' M', I n ρ' M' → E.nx ρ' M') : wps K W (tFor wi g ts) ρ M E := fun S H σ D' e s im =>
  h S H σ e s (im.ex ρ σ S (Same.refl S) e) _ fun n item Gm M1 S1 H1 J q e1 s1 wk => by
    obtain ⟨I, h0, hG, hs, hd⟩ := q
    obtain ⟨G, Y, w, hg, hy⟩ := wk.ex
    have pv0 : ∃ ρ' M' S', I 0 ρ' M' ∧ Same S1 S' ∧ EnvR K S' ρ' σ ∧ Sim K S' H1 M' := ⟨ρ, M1, S1, h0, Same.refl _, e.mono e1, s1⟩
    refine for_it w (fun i σ' H' => ∃ ρ' M' S', I i ρ' M' ∧ Same S1 S' ∧ EnvR K S' ρ' σ' ∧ Sim K S' H' M') pv0 (fun i σ' H' hi p => ?_) (fun i x σ' H' H3 hi p hx => ?_) (fun σ' H' p => ?_)
    · obtain ⟨ρ', M', S', pI, eS, eE, sS⟩ := p
      exact hg S' H' M' eS sS (hG i ρ' M' hi pI)
    · obtain ⟨ρ', M', S', pI, eS, eE, sS⟩ := p
      obtain ⟨S3, e3, s3, r3⟩ := hy i H' x H3 S' M' hi eS sS (hG i ρ' M' (Nat.le_of_lt hi) pI) hx
      have im3 : Imp K W S3 E D' := im.mono (e1.trans (eS.trans e3))
      refine hs i ρ' M' hi pI S3 H3 σ' x (eE.mono e3) s3 (im3.ex ρ' σ' S3 (Same.refl _) (eE.mono e3)) r3 _ fun ρ2 M2 σ2 S4 H4 q4 e4 en4 s4 => ?_
      refine q4 S4 H4 σ2 { D' with nx := fun σ' H' => ∃ ρ' M' S', I (i + 1) ρ' M' ∧ Same S1 S' ∧ EnvR K S' ρ' σ' ∧ Sim K S' H' M', ct := fun σ' H' => ∃ ρ' M' S', I (i + 1) ρ' M' ∧ Same S1 S' ∧ EnvR K S' ρ' σ' ∧ Sim K S' H' M', bk := D'.nx } en4 s4 ?_
      have im4 := im3.mono e4
      exact ⟨fun ρ5 M5 σ5 S5 H5 q5 e5 en5 s5 => ⟨ρ5, M5, S5, q5, eS.trans (e3.trans (e4.trans e5)), en5, s5⟩, im4.nx, fun ρ5 M5 σ5 S5 H5 q5 e5 en5 s5 => ⟨ρ5, M5, S5, q5, eS.trans (e3.trans (e4.trans e5)), en5, s5⟩, im4.rt, im4.ex⟩
    · obtain ⟨ρ', M', S', pI, eS, eE, sS⟩ := p
      exact im.nx ρ' M' σ' S' H' (hd ρ' M' pI) (e1.trans eS) eE sS
/-- while: an invariant with a measure -/
theorem s_while (I : Nat → List (Option D) → Mem → Prop) (h0 : ∃ m, I m ρ M)
    (hs : ∀ m ρ' M', I m ρ' M' → wpt K W t ρ' M' (E.ex ρ') fun b M2 => (b = true → wps K W ts ρ' M2 { E with nx := fun ρ3 M3 => ∃ m', m' < m ∧ I m' ρ3 M3, ct := fun ρ3 M3 => ∃ m', m' < m ∧ I m' ρ3 M3, bk := E.nx }) ∧ (b = false → E.nx ρ' M2)) :
    wps K W (tWhile t ts) ρ M E := fun S H σ D' e s im => by
  refine ⟨fun m σ' H' => ∃ ρ' M' S', I m ρ' M' ∧ Same S S' ∧ EnvR K S' ρ' σ' ∧ Sim K S' H' M', ?_, fun m σ' H' p => ?_⟩
  · obtain ⟨m, hm⟩ := h0
    exact ⟨m, ρ, M, S, hm, Same.refl _, e, s⟩
  · obtain ⟨ρ', M', S', pI, eS, eE, sS⟩ := p
    have im2 := im.mono eS
    refine hs m ρ' M' pI S' H' σ' eE sS (im2.ex ρ' σ' S' (Same.refl _) eE) _ fun b M2 S2 H2 q e2 s2 => ?_
    cases b with
    | true =>
      rw [if_pos rfl]
      refine ⟨fun σ3 H3 => ∃ m', m' < m ∧ ∃ ρ' M' S', I m' ρ' M' ∧ Same S S' ∧ EnvR K S' ρ' σ3 ∧ Sim K S' H3 M', fun σ3 H3 q3 => q3, ?_⟩
      have im3 := im2.mono e2
      exact q.1 rfl S2 H2 σ' _ (eE.mono e2) s2 ⟨fun ρ5 M5 σ5 S5 H5 q5 e5 en5 s5 => let ⟨m', l, i'⟩ := q5; ⟨m', l, ρ5, M5, S5, i', eS.trans (e2.trans e5), en5, s5⟩, im3.nx, fun ρ5 M5 σ5 S5 H5 q5 e5 en5 s5 => let ⟨m', l, i'⟩ := q5; ⟨m', l, ρ5, M5, S5, i', eS.trans (e2.trans e5), en5, s5⟩, im3.rt, im3.ex⟩
    | false =>
      rw [if_neg Bool.false_ne_true]
      exact im2.nx ρ' M2 σ' S2 H2 (q.2 rfl) e2 (eE.mono e2) s2

/-! ### comprehensions -/
def dwipe (ρ : List (Option D)) : List Nat → List (Option D)
  | [] => ρ
  | v :: vs => (dwipe ρ vs).set v none
theorem EnvR.wipe {σ : L2.St} (e : EnvR K S ρ σ) : ∀ vs : List Nat, EnvR K S (DA.dwipe ρ vs) (L2.wipe σ vs)
  | [] => e
  | v :: vs => (EnvR.wipe e vs).unset v none
theorem wipe_set_not {σ : L2.St} {j : Nat} {x : Option V} : ∀ {vs : List Nat}, j ∉ vs → L2.wipe (σ.set j x) vs = (L2.wipe σ vs).set j x
  | [], _ => rfl
  | v :: vs, h => by
    show (L2.wipe (σ.set j x) vs).set v none = ((L2.wipe σ vs).set v none).set j x
    rw [wipe_set_not (fun z => h (List.mem_cons_of_mem _ z)), List.set_comm _ _ (fun z => h (by rw [z]; exact List.mem_cons_self))]
theorem wipe_set {σ : L2.St} {j : Nat} {x : Option V} : ∀ {vs : List Nat}, j ∈ vs → L2.wipe (σ.set j x) vs = L2.wipe σ vs
  | [], h => by cases h
  | v :: vs, h => by
    show (L2.wipe (σ.set j x) vs).set v none = (L2.wipe σ vs).set v none
    by_cases hj : j ∈ vs
    · rw [wipe_set hj]
    · have e : j = v := by
        rcases List.mem_cons.mp h with z | z
        · exact z
        · exact absurd z hj
      subst e
      rw [wipe_set_not hj, List.set_set]
theorem wipe_wipe {σ : L2.St} {ws : List Nat} : ∀ {vs : List Nat}, (∀ j ∈ vs, j ∈ ws) → L2.wipe (L2.wipe σ vs) ws = L2.wipe σ ws
  | [], _ => rfl
  | v :: vs, h => by
    show L2.wipe ((L2.wipe σ vs).set v none) ws = _
    rw [wipe_set (h v List.mem_cons_self), wipe_wipe fun j hj => h j (List.mem_cons_of_mem _ hj)]
/-- a target whose names are the block's own -/
def wpgl (K : PySem.W.Frag) (vs : List Nat) (g : TG) (d : D) (ρ : List (Option D)) (M : Mem) (Ω : EP') : Prop :=
  ∀ S H σ v, EnvR K S ρ σ → Sim K S H M → Rep K S d v → ∀ Q : L2.St → Hp → Prop, (∀ ρ' M' σ' S' H', Ω ρ' M' → L2.wipe σ' vs = L2.wipe σ vs → Same S S' → EnvR K S' ρ' σ' → Sim K S' H' M' → Q σ' H') → g v σ H Q
def wpgls (K : PySem.W.Frag) (vs : List Nat) (g : TGs) (ds : List D) (ρ : List (Option D)) (M : Mem) (Ω : EP') : Prop :=
  ∀ S H σ ws, EnvR K S ρ σ → Sim K S H M → Reps K S ds ws → ∀ Q : L2.St → Hp → Prop, (∀ ρ' M' σ' S' H', Ω ρ' M' → L2.wipe σ' vs = L2.wipe σ vs → Same S S' → EnvR K S' ρ' σ' → Sim K S' H' M' → Q σ' H') → g ws σ H Q
variable {vs : List Nat} {Ω : EP'}
theorem gl_name {i : Nat} {d : D} (hi : i ∈ vs) (q : Ω (ρ.set i (some d)) M) : wpgl K vs (gName i) d ρ M Ω := fun S H σ v e s r Q k => k _ M _ S H q (wipe_set hi) (Same.refl S) (e.set r i) s
theorem gl_nil (q : Ω ρ M) : wpgls K vs gNil [] ρ M Ω := fun S H σ ws e s r Q k => by
  cases r
  exact ⟨rfl, k ρ M σ S H q rfl (Same.refl S) e s⟩
theorem gl_cons {i : Nat} {us : TGs} {d : D} {ds : List D} (hi : i ∈ vs) (q : wpgls K vs us ds (ρ.set i (some d)) M Ω) : wpgls K vs (gCons (gName i) us) (d :: ds) ρ M Ω := fun S H σ ws e s r Q k => by
  cases r with
  | cons r1 r2 => exact ⟨_, _, rfl, q S H _ _ (e.set r1 i) s r2 Q fun ρ' M' σ' S' H' a b => k ρ' M' σ' S' H' a (b.trans (wipe_set hi))⟩
theorem gl_tup {n : Nat} {us : TGs} {ds : List D} (hn : ds.length = n) (q : wpgls K vs us ds ρ M Ω) : wpgl K vs (gTup K n us) (.tup ds) ρ M Ω := fun S H σ v e s r Q k => by
  cases r with
  | tup h rs => exact ⟨_, _, rfl, Same.sqT s.sub h, by rw [← rs.length]; exact hn, q S H σ _ e s rs Q k⟩
abbrev WF : WX := fun _ _ _ _ => False
theorem xf {σ : L2.St} : XOk K WF xno S σ := fun _ _ _ _ _ _ _ z => z.elim
/-- the new list is a cell while it is made: p; N: the other cells -/
theorem e_lc {tt : TT} (h : wpi K W wi ρ M Ψ fun n item Gm M1 => ∃ I : Nat → List D → Mem → Prop, I 0 [] M1 ∧ (∀ i acc N p, i ≤ n → I i acc N → N p = none → Gm (mup N p (.lst acc))) ∧
    (∀ i acc N p, i < n → I i acc N → N p = none → acc.length < 16777216 ∧ wpgl K vs g (item i) (DA.dwipe ρ vs) (mup N p (.lst acc)) fun ρ2 M2 => wpt K WF tt ρ2 M2 xno fun b M3 =>
      (b = true → wpe K WF te ρ2 M3 xno fun d M4 => ∃ N', N' p = none ∧ Sub (mup N' p (.lst acc)) M4 ∧ I (i + 1) (acc ++ [d]) N') ∧ (b = false → ∃ N', N' p = none ∧ Sub (mup N' p (.lst acc)) M3 ∧ I (i + 1) acc N')) ∧
    ∀ acc N, I n acc N → NewL Φ N acc) : wpe K W (tLc wi g tt te vs) ρ M Ψ Φ := fun S H σ e s x Q k =>
  h S H σ e s x _ fun n item Gm M1 S1 H1 J q e1 s1 wk p hp => by
    obtain ⟨I, h0, hG, hs, hd⟩ := q
    obtain ⟨G, Y, w, hg, hy⟩ := wk.ex
    refine lc_it w (fun i H' => ∃ acc N S', I i acc N ∧ N p = none ∧ Same S1 S' ∧ Sim K S' H' (mup N p (.lst acc))) ⟨[], M1, S1, h0, s1.fresh hp, Same.refl _, s1.cell hp ⟨[], upd_same, .nil⟩⟩ (fun i H' hi pv => ?_) (fun i y H' H3 hi pv hx => ?_) (fun H' pv => ?_)
    · obtain ⟨acc, N, S', pI, hN, eS, sS⟩ := pv
      exact hg S' H' _ eS sS (hG i acc N p hi pI hN)
    · obtain ⟨acc, N, S', pI, hN, eS, sS⟩ := pv
      obtain ⟨S3, e3, s3, r3⟩ := hy i H' y H3 S' _ hi eS sS (hG i acc N p (Nat.le_of_lt hi) pI hN) hx
      obtain ⟨hz, hw⟩ := hs i acc N p hi pI hN
      refine hw S3 H3 _ y (((e.mono e1).mono (eS.trans e3)).wipe vs) s3 r3 _ fun ρ2 M2 σ2 S4 H4 q4 hσ e4 en4 s4 => ⟨hσ.trans (wipe_wipe fun j hj => hj), ?_⟩
      refine q4 S4 H4 σ2 en4 s4 xf _ fun b M5 S5 H5 q5 e5 s5 => ?_
      cases b with
      | true =>
        rw [if_pos rfl]
        refine q5.1 rfl S5 H5 σ2 (en4.mono e5) s5 xf _ fun d M6 v S6 H6 q6 e6 s6 r6 => ?_
        obtain ⟨N', hN', hsub, pI'⟩ := q6
        have s7 := s6.less hsub
        obtain ⟨_, us, eu, ru⟩ := s7.cells p _ mup_same
        refine ⟨us, eu, big1 (by rw [← ru.length]; exact hz), acc ++ [d], N', S6, pI', hN', eS.trans (e3.trans (e4.trans (e5.trans e6))), ?_⟩
        have := s7.write (p := p) (o := .lst (us ++ [v])) (u := .lst (acc ++ [d])) mup_same ⟨_, upd_same, ru.append (Reps.one r6)⟩
        rw [mup_mup] at this
        exact this
      | false =>
        rw [if_neg Bool.false_ne_true]
        obtain ⟨N', hN', hsub, pI'⟩ := q5.2 rfl
        exact ⟨acc, N', S5, pI', hN', eS.trans (e3.trans (e4.trans e5)), s5.less hsub⟩
    · obtain ⟨acc, N, S', pI, hN, eS, sS⟩ := pv
      have hq := hd acc N pI
      obtain ⟨_, us, eu, ru⟩ := sS.cells p _ mup_same
      cases hq with
      | imm q =>
        have sf := sS.freeze (p := p) mup_same eu
        rw [mdel_mup hN] at sf
        have e2 : Same S' (upd S' p (.lst us)) := same_new (sS.cells p _ mup_same).1
        exact k _ N _ _ H' q (e1.trans (eS.trans e2)) sf (.lst upd_same (ru.mono e2))
      | cell q => exact k _ _ _ S' H' (q p hN) (e1.trans eS) sS (.ref p)
/-- each element from the item alone: no cell changes -/
theorem e_lcP {tt : TT} {f : Nat → Option D} (h : wpi K W wi ρ M Ψ fun n item Gm M1 => (∀ N, Sub M1 N → Gm N) ∧ n < 16777216 ∧
    (∀ i N, i < n → Sub M1 N → wpgl K vs g (item i) (DA.dwipe ρ vs) N fun ρ2 M2 => wpt K WF tt ρ2 M2 xno fun b M3 => (b = true → wpe K WF te ρ2 M3 xno fun d M4 => Sub N M4 ∧ f i = some d) ∧ (b = false → Sub N M3 ∧ f i = none)) ∧
    NewL Φ M1 ((List.range n).filterMap f)) : wpe K W (tLc wi g tt te vs) ρ M Ψ Φ := by
  refine e_lc fun S H σ e s x R k => h S H σ e s x R fun n item Gm M1 S' H' J q => k n item Gm M1 S' H' J ?_
  obtain ⟨hG, hn, hs, hd⟩ := q
  have fl : ∀ i, ((List.range i).filterMap f).length ≤ i := fun i => Nat.le_trans (List.length_filterMap_le _ _) (by rw [List.length_range]; exact Nat.le_refl _)
  have r1 : ∀ i, (List.range (i + 1)).filterMap f = (List.range i).filterMap f ++ (match f i with | some d => [d] | none => []) := fun i => by
    rw [List.range_succ, List.filterMap_append, List.filterMap_cons]
    cases f i <;> rfl
  refine ⟨fun i acc N => acc = (List.range i).filterMap f ∧ N = M1, ⟨rfl, rfl⟩, ?_, ?_, ?_⟩
  · rintro i acc N p hi ⟨rfl, rfl⟩ hN
    exact hG _ (Sub.new hN (Sub.refl _))
  · rintro i acc N p hi ⟨rfl, rfl⟩ hN
    refine ⟨Nat.lt_of_le_of_lt (fl i) (by omega), ?_⟩
    refine fun S2 H2 σ2 v2 en2 s2 r2 Q k2 => hs i _ hi (Sub.new hN (Sub.refl _)) S2 H2 σ2 v2 en2 s2 r2 Q fun ρ3 M3 σ3 S3 H3 q3 => k2 ρ3 M3 σ3 S3 H3 ?_
    refine q3.imp fun b M4 q4 => ⟨fun hb => (q4.1 hb).imp fun d M5 q5 => ⟨N, hN, q5.1, ?_, rfl⟩, fun hb => ⟨N, hN, (q4.2 hb).1, ?_, rfl⟩⟩
    · rw [r1, q5.2]
    · rw [r1, (q4.2 hb).2, List.append_nil]
  · rintro acc N ⟨rfl, rfl⟩
    exact hd

/-! ### calls of defs -/
/-- what a def does: from the arguments and the cells to the wishes of its value, of its exception -/
abbrev RD := List D → Mem → DP → XP → Prop
def spD (K : PySem.W.Frag) (R : RD) : Sp := fun vs H Q E => ∃ S M ds Φ Ψ, Sim K S H M ∧ Reps K S ds vs ∧ R ds M Φ Ψ ∧ End K S Φ Q ∧ ∀ cls ns fs M' dd S' H', Ψ cls ns fs M' → Same S S' → Sim K S' H' M' → ExD K S' dd ns fs → E cls dd H'
theorem e_call {R : RD} (h : wpa K W tr ρ M Ψ fun ds M1 => R ds M1 Φ Ψ) : wpe K W (tCallS (spD K R) (WE W) tr) ρ M Ψ Φ := fun S H σ e s x Q k =>
  h S H σ e s x _ fun ds M1 vs S1 H1 h1 e1 s1 r1 => ⟨S1, M1, ds, Φ, Ψ, s1, r1, h1, k.mono e1, fun cls ns fs M' dd S' H' q e2 s2 d2 => x cls ns fs M' dd S' H' q (e1.trans e2) s2 d2⟩
/-! cells seen as data -/
mutual
inductive Vw (M : Mem) : D → D → Prop
  | same (d : D) : Vw M d d
  | lst {ds es : List D} (h : Vws M ds es) : Vw M (.lst ds) (.lst es)
  | tup {ds es : List D} (h : Vws M ds es) : Vw M (.tup ds) (.tup es)
  | cell {a : Addr} {ds es : List D} (e : M a = some (.lst ds)) (h : Vws M ds es) : Vw M (.ref a) (.lst es)
inductive Vws (M : Mem) : List D → List D → Prop
  | nil : Vws M [] []
  | cons {d e : D} {ds es : List D} (h : Vw M d e) (r : Vws M ds es) : Vws M (d :: ds) (e :: es)
end
mutual
theorem Vw.rep (s : Sim K S H M) : ∀ {d e : D}, Vw M d e → ∀ {v : V}, Rep K S d v → Rep K H e v
  | _, _, .same d, _, r => r.mono s.sub
  | _, _, .lst h, _, r => by
    cases r with
    | lst e q => exact .lst (s.sub _ _ e) (Vws.rep s h q)
  | _, _, .tup h, _, r => by
    cases r with
    | tup e q => exact .tup (Same.sqT s.sub e) (Vws.rep s h q)
  | _, _, .cell e h, _, r => by
    cases r
    obtain ⟨_, vs, e2, q⟩ := s.cells _ _ e
    exact .lst e2 (Vws.rep s h q)
theorem Vws.rep (s : Sim K S H M) : ∀ {ds es : List D}, Vws M ds es → ∀ {vs : List V}, Reps K S ds vs → Reps K H es vs
  | _, _, .nil, _, r => by cases r; exact .nil
  | _, _, .cons h t, _, r => by
    cases r with
    | cons r1 r2 => exact .cons (Vw.rep s h r1) (Vws.rep s t r2)
end
theorem Vws.refl : ∀ ds : List D, Vws M ds ds
  | [] => .nil
  | d :: ds => .cons (.same d) (Vws.refl ds)
def isScal : D → Bool
  | .non => true | .bl _ => true | .int _ => true | .str _ => true | _ => false
theorem Rep.scal {S' : Hp} {d : D} {v : V} (h : isScal d = true) (r : Rep K S d v) : Rep K S' d v := by
  cases r with
  | non => exact .non
  | bl b => exact .bl b
  | int i => exact .int i
  | str x => exact .str x
  | _ => cases h
theorem sim0 (H : Hp) : Sim K H H m0 := ⟨Same.refl _, fun _ _ e => by cases e⟩
/-- more objects -/
theorem Sim.up {H' : Hp} (s : Sim K S H M) (e : Same H H') : Sim K S H' M := ⟨s.sub.trans e, fun a o h => ⟨(s.cells a o h).1, (s.cells a o h).2.stay (Same.refl S) fun u q => e _ _ q⟩⟩
/-- a def that changes nothing and hands back a number, a text, a bool, None: its arguments may be cells -/
theorem e_callV {R : RD} (h : wpa K W tr ρ M Ψ fun ds M1 => ∃ es, Vws M1 ds es ∧ R es m0 (fun d _ => isScal d = true ∧ Φ d M1) xno) : wpe K W (tCallS (spD K R) (WE W) tr) ρ M Ψ Φ := fun S H σ e s x Q k =>
  h S H σ e s x _ fun ds M1 vs S1 H1 h1 e1 s1 r1 => by
    obtain ⟨es, hv, hR⟩ := h1
    exact ⟨H1, m0, es, _, xno, sim0 H1, hv.rep s1 r1, hR, fun d M' v S' H' q e2 s2 r2 => k d M1 v S1 H' q.2 e1 (s1.up (e2.trans s2.sub)) (r2.scal q.1), fun _ _ _ _ _ _ _ z => z.elim⟩

/-! ### a def by its body -/
variable {P : Program} {w : World} {mg : Str → Option Value} {base : Heap}
theorem fn0 {x qual : Str} {st : Stmt} {f : Addr} {fd : FuncData} {N ps : List Str} {k : Nat} {R : RD} (F : Fun K x qual st f fd) (Sc : FnScope N ps (defScope st)) (hl : ∀ ds M Φ Ψ, R ds M Φ Ψ → ds.length = ps.length)
    (hb : ∀ (cdv : Value) (A : Around) (outer : List Env) (s : Shared) (H : Hp) (E : XK), Room k (A.deeper (envOfC qual (defScope st) s.heap.objs.size f cdv)) →
      ∃ t, PSs (cxOf CX0 P w K mg base N qual (defScope st) f cdv A outer s H E).nox (defBody st) t ∧ ∀ ds M Φ Ψ, R ds M Φ Ψ → wps K WF t (ds.map some ++ List.replicate (N.length - ps.length) none) M { nx := fun _ M' => Φ .non M', rt := Φ }) :
    FnOk P w K mg base CX0 (k + 1) f fd ps (spD K R) := by
  have hlen : ∀ vs H Q E, spD K R vs H Q E → vs.length = ps.length := fun vs H Q E ⟨S, M, ds, Φ, Ψ, _, rs, hR, _⟩ => by rw [← rs.length]; exact hl _ _ _ _ hR
  refine F.ok Sc hlen fun cdv A outer s H vs Q E hr h => ?_
  obtain ⟨t, ht, hw⟩ := hb cdv A outer s H E hr
  refine ⟨t, ht, ?_⟩
  have hv := hlen _ _ _ _ h
  obtain ⟨S, M, ds, Φ, Ψ, sm, rs, hR, hE, _⟩ := h
  refine hw ds M Φ Ψ hR S H _ _ ?_ sm ⟨fun ρ' M' σ' S' H' q e en s' => hE _ _ _ _ _ q e s' .non, fun _ _ _ _ _ z => z.elim, fun _ _ _ _ _ z => z.elim, hE, fun _ _ _ _ _ _ _ _ _ _ _ _ z => z.elim⟩
  unfold L2.start
  rw [hv]
  exact EnvR.start _ rs
theorem fnX {x qual : Str} {st : Stmt} {f : Addr} {fd : FuncData} {N ps : List Str} {k : Nat} {R : RD} (F : Fun K x qual st f fd) (Sc : FnScope N ps (defScope st)) (hl : ∀ ds M Φ Ψ, R ds M Φ Ψ → ds.length = ps.length)
    (hb : ∀ (cdv : Value) (A : Around) (outer : List Env) (s : Shared) (H : Hp) (E : XK), Room k (A.deeper (envOfC qual (defScope st) s.heap.objs.size f cdv)) →
      ∃ t, PSs (cxOf (L2.CX P w) P w K mg base N qual (defScope st) f cdv A outer s H E) (defBody st) t ∧ ∀ ds M Φ Ψ, R ds M Φ Ψ → wps K (fun cls d _ H' => E cls d H') t (ds.map some ++ List.replicate (N.length - ps.length) none) M { nx := fun _ M' => Φ .non M', rt := Φ, ex := fun _ => Ψ }) :
    FnOk P w K mg base (L2.CX P w) (k + 1) f fd ps (spD K R) := by
  have hlen : ∀ vs H Q E, spD K R vs H Q E → vs.length = ps.length := fun vs H Q E ⟨S, M, ds, Φ, Ψ, _, rs, hR, _⟩ => by rw [← rs.length]; exact hl _ _ _ _ hR
  refine F.okX Sc hlen fun cdv A outer s H vs Q E hr h => ?_
  obtain ⟨t, ht, hw⟩ := hb cdv A outer s H E hr
  refine ⟨t, ht, ?_⟩
  have hv := hlen _ _ _ _ h
  obtain ⟨S, M, ds, Φ, Ψ, sm, rs, hR, hE, hX⟩ := h
  refine hw ds M Φ Ψ hR S H _ _ ?_ sm ⟨fun ρ' M' σ' S' H' q e en s' => hE _ _ _ _ _ q e s' .non, fun _ _ _ _ _ z => z.elim, fun _ _ _ _ _ z => z.elim, hE, fun ρ' σ' S' e _ cls ns fs M' dd S2 H2 q e2 s2 d2 => hX cls ns fs M' dd S2 H2 q (e.trans e2) s2 d2⟩
  unfold L2.start
  rw [hv]
  exact EnvR.start _ rs
theorem pass0At {X : Cx} {σ : L2.St} {E : XK} : PassesAt CX0 X σ E := fun _ _ _ _ _ _ z => z.elim
end
end DA

/-! DF: f-strings, in, dicts, instances, op=, stores by place, raise. -/
namespace DA
open PySem L2 PyProof.Rows
section
variable {K : PySem.W.Frag} {W : WX} {ρ : List (Option D)} {M : Mem} {Ψ : XP} {Φ : DP} {ta tb te td ty tx tv : TE} {t u : TT} {r : R2} {S H : Hp} {Q : VK} {tr : TA} {E : DE}

/-! ### f-strings -/
theorem e_fmt (h : wpe K W te ρ M Ψ fun d M' => (∃ y : Str, d = .str y ∧ y.length ≤ 16777216 ∧ Φ (.str y) M') ∨ ∃ i : Int, d = .int i ∧ i.natAbs.log2 < 1920 ∧ Φ (.str (toString i)) M') : wpe K W (tFmt te) ρ M Ψ Φ := fun S H σ e s x Q k =>
  h S H σ e s x _ fun d M1 v S1 H1 h1 e1 s1 r1 => by
    rcases h1 with ⟨y, rfl, hz, q⟩ | ⟨i, rfl, hz, q⟩
    · cases r1
      exact .inl ⟨y, rfl, big hz, k _ M1 _ S1 H1 q e1 s1 (.str _)⟩
    · cases r1
      exact .inr ⟨i, rfl, hz, k _ M1 _ S1 H1 q e1 s1 (.str _)⟩
theorem e_fmtI (h : wpe K W te ρ M Ψ fun d M' => ∃ i : Int, d = .int i ∧ i.natAbs.log2 < 1920 ∧ Φ (.str (toString i)) M') : wpe K W (tFmt te) ρ M Ψ Φ := e_fmt (h.imp fun _ _ q => .inr q)
theorem e_fmtS (h : wpe K W te ρ M Ψ fun d M' => ∃ y : Str, d = .str y ∧ y.length ≤ 16777216 ∧ Φ (.str y) M') : wpe K W (tFmt te) ρ M Ψ Φ := e_fmt (h.imp fun _ _ q => .inl q)
def wpj (K : PySem.W.Frag) (W : WX) (ts : List TE) (acc : Str) (ρ : List (Option D)) (M : Mem) (Ψ : XP) (Φ : Str → Mem → Prop) : Prop :=
  ∀ S H σ, EnvR K S ρ σ → Sim K S H M → XOk K W Ψ S σ → ∀ Q : Str → Hp → Prop, (∀ out M' S' H', Φ out M' → Same S S' → Sim K S' H' M' → Q out H') → tJs ts acc σ H Q
variable {Ξ : Str → Mem → Prop}
theorem j_nil {acc : Str} (q : Ξ acc M) : wpj K W [] acc ρ M Ψ Ξ := fun S H σ e s x Q k => k acc M S H q (Same.refl S) s
theorem j_cons {acc : Str} {ts : List TE} (h : wpe K W te ρ M Ψ fun d M1 => ∃ y : Str, d = .str y ∧ (acc ++ y).length ≤ 16777216 ∧ wpj K W ts (acc ++ y) ρ M1 Ψ Ξ) : wpj K W (te :: ts) acc ρ M Ψ Ξ := fun S H σ e s x Q k =>
  h S H σ e s x _ fun d M1 v S1 H1 h1 e1 s1 r1 => by
    obtain ⟨y, rfl, hz, q⟩ := h1
    cases r1
    exact ⟨y, rfl, big hz, q S1 H1 σ (e.mono e1) s1 (x.mono e1) Q fun out M2 S2 H2 q2 e2 s2 => k out M2 S2 H2 q2 (e1.trans e2) s2⟩
theorem e_joined {ts : List TE} (h : wpj K W ts Str.empty ρ M Ψ fun out M' => Φ (.str out) M') : wpe K W (fun σ H Q => tJs ts Str.empty σ H fun out H1 => Q (.str out) H1) ρ M Ψ Φ := fun S H σ e s x Q k =>
  h S H σ e s x _ fun out M1 S1 H1 q e1 s1 => k _ M1 _ S1 H1 q e1 s1 (.str _)

/-! ### in -/
def fV : D → V
  | .bl b => .bl b | .int i => .int i | .str x => .str x | _ => .non
def flatD : D → Bool
  | .non => true | .bl _ => true | .int _ => true | .str _ => true | _ => false
theorem Rep.flat {d : D} {v : V} (h : flatD d = true) (rp : Rep K S d v) : v = fV d ∧ flatV v = true := by
  cases rp with
  | non => exact ⟨rfl, rfl⟩
  | bl b => exact ⟨rfl, rfl⟩
  | int i => exact ⟨rfl, rfl⟩
  | str x => exact ⟨rfl, rfl⟩
  | _ => cases h
theorem Reps.flat : ∀ {ds : List D} {vs : List V}, ds.all flatD = true → Reps K S ds vs → vs = ds.map fV ∧ vs.all flatV = true
  | _, _, _, .nil => ⟨rfl, rfl⟩
  | _, _, h, .cons h1 r1 => by
    rw [List.all_cons, Bool.and_eq_true] at h
    obtain ⟨e1, e2⟩ := h1.flat h.1
    obtain ⟨e3, e4⟩ := Reps.flat h.2 r1
    exact ⟨by rw [List.map_cons, ← e1, ← e3], by rw [List.all_cons, e2, e4]; rfl⟩
def rInU (K : PySem.W.Frag) : R2 := rOr (rIn K false) (rInD K)
def rNInU (K : PySem.W.Frag) : R2 := rOr (rIn K true) (rNotInD K)
theorem op_inU {X : Cx} (hu : X.A.units + 65 < cLine) : OpR X (compareOp .In) (rInU X.K) := op_or op_in_seq (op_inD hu)
theorem op_ninU {X : Cx} (hu : X.A.units + 65 < cLine) : OpR X (compareOp .NotIn) (rNInU X.K) := op_or op_notIn_seq (op_notInD hu)
theorem o_in {x y : D} {ds : List D} {b : Bool} (l : Sv M y ds) (fx : flatD x = true) (fs : ds.all flatD = true) (hb : inV (fV x) (ds.map fV) = b) (q : Φ (.bl b) M) : wp2 K (rInU K) x y M Φ := o_l fun S H v u s a c Q k => by
  obtain ⟨p, us, rfl, sq, rs⟩ := l.of s c
  obtain ⟨rfl, f2⟩ := a.flat fx
  obtain ⟨rfl, f4⟩ := rs.flat fs
  exact ⟨p, _, rfl, sq, f2, f4, k (.bl b) M _ S H q (Same.refl S) s (by rw [if_neg Bool.false_ne_true, hb]; exact .bl _)⟩
theorem o_nin {x y : D} {ds : List D} {b : Bool} (l : Sv M y ds) (fx : flatD x = true) (fs : ds.all flatD = true) (hb : (!inV (fV x) (ds.map fV)) = b) (q : Φ (.bl b) M) : wp2 K (rNInU K) x y M Φ := o_l fun S H v u s a c Q k => by
  obtain ⟨p, us, rfl, sq, rs⟩ := l.of s c
  obtain ⟨rfl, f2⟩ := a.flat fx
  obtain ⟨rfl, f4⟩ := rs.flat fs
  exact ⟨p, _, rfl, sq, f2, f4, k (.bl b) M _ S H q (Same.refl S) s (by rw [if_pos rfl, hb]; exact .bl _)⟩
theorem o_inDt {x y : D} {p : PyData} {ps : List PyData} {b : Bool} (hx : Pv M x p) (hy : Pv M y (.list ps)) (sx : SeqAt.shaped p = true) (sy : SeqAt.shaped (.list ps) = true) (hb : (ps.any fun z => PyData.eqv z p) = b) (q : Φ (.bl b) M) : wp2 K (rInU K) x y M Φ := o_r fun S H v u s a c Q k =>
  ⟨p, ps, hx.dp s a, hy.dp s c, sx, sy, k (.bl b) M _ S H q (Same.refl S) s (by rw [hb]; exact .bl _)⟩
theorem o_ninDt {x y : D} {p : PyData} {ps : List PyData} {b : Bool} (hx : Pv M x p) (hy : Pv M y (.list ps)) (sx : SeqAt.shaped p = true) (sy : SeqAt.shaped (.list ps) = true) (hb : (!ps.any fun z => PyData.eqv z p) = b) (q : Φ (.bl b) M) : wp2 K (rNInU K) x y M Φ := o_r fun S H v u s a c Q k =>
  ⟨p, ps, hx.dp s a, hy.dp s c, sx, sy, k (.bl b) M _ S H q (Same.refl S) s (by rw [hb]; exact .bl _)⟩
theorem inV_str (x : Str) : ∀ xs : List Str, inV (.str x) (xs.map V.str) = decide (x ∈ xs)
  | [] => by simp [inV]
  | y :: ys => by
    have ih := inV_str x ys
    unfold inV at ih ⊢
    rw [List.map_cons, List.any_cons, ih]
    show ((y == x) || decide (x ∈ ys)) = decide (x ∈ y :: ys)
    by_cases h : y = x
    · subst h; simp
    · have : ¬ x = y := fun z => h z.symm
      simp [h, this]
theorem inV_int (x : Int) : ∀ xs : List Int, inV (.int x) (xs.map V.int) = decide (x ∈ xs)
  | [] => by simp [inV]
  | y :: ys => by
    have ih := inV_int x ys
    unfold inV at ih ⊢
    rw [List.map_cons, List.any_cons, ih]
    show ((y == x) || decide (x ∈ ys)) = decide (x ∈ y :: ys)
    by_cases h : y = x
    · subst h; simp
    · have : ¬ x = y := fun z => h z.symm
      simp [h, this]

/-! ### o[i] = v, x op= v -/
variable {Ω : EP'}
theorem g_setL {d : D} (h : wpe K W ta ρ M Ψ fun o M1 => wpe K W tb ρ M1 Ψ fun i M2 => ∃ a xs k j, o = .ref a ∧ i = .int k ∧ M2 a = some (.lst xs) ∧ ixN xs.length k = some j ∧ Ω ρ (mup M2 a (.lst (xs.set j d)))) : wpg K W (gSub ta tb rSetL) d ρ M Ψ Ω := fun S H σ v e s x rd Q k =>
  h S H σ e s x _ fun o M1 ov S1 H1 h1 e1 s1 r1 => h1 S1 H1 σ (e.mono e1) s1 (x.mono e1) _ fun i M2 iv S2 H2 h2 e2 s2 r2 => by
    obtain ⟨a, xs, kk, j, rfl, rfl, hm, hj, q⟩ := h2
    cases r1; cases r2
    obtain ⟨_, us, eu, ru⟩ := s2.cells _ _ hm
    exact ⟨a, us, kk, j, rfl, rfl, eu, by rw [← ru.length]; exact hj, k ρ _ σ S2 _ q (e1.trans e2) (e.mono (e1.trans e2)) (s2.write hm ⟨_, upd_same, Reps.set (rd.mono (e1.trans e2)) j ru⟩)⟩
theorem s_aug {i : Nat} {x : D} {ti : TIp} (hx : ρ[i]? = some (some x)) (h : wpe K W te ρ M (E.ex ρ) fun y M1 => wp2 K ti x y M1 fun z M2 => E.nx (ρ.set i (some z)) M2) : wps K W (tAug i te ti) ρ M E := fun S H σ D' e s im => by
  obtain ⟨v, h1, h2⟩ := e.get hx
  refine ⟨v, h1, h S H σ e s (im.ex ρ σ S (Same.refl S) e) _ fun y M1 u S1 H1 q e1 s1 r1 => q S1 H1 v u s1 (h2.mono e1) r1 _ fun z M2 w S2 H2 q2 e2 s2 r2 => ?_⟩
  exact im.nx _ M2 _ S2 H2 q2 (e1.trans e2) ((e.mono (e1.trans e2)).set r2 i) s2
theorem o_ip {f : Int → Int → Int} {i j : Int} (q : Φ (.int (f i j)) M) : wp2 K (ipI f) (.int i) (.int j) M Φ := fun S H v u s a b Q k => by
  cases a; cases b
  exact ⟨i, j, rfl, rfl, k _ M _ S H q (Same.refl S) s (.int _)⟩

/-! ### dicts -/
section
variable {κ : Type} [DecidableEq κ] {β : Type}
def valD (kvs : List (κ × β)) (k : κ) : Option β := (kvs.find? fun kv => decide (kv.1 = k)).map (·.2)
def putD (kvs : List (κ × β)) (k : κ) (v : β) : List (κ × β) :=
  if (kvs.any fun kv => decide (kv.1 = k)) = true then kvs.map (fun kv => if kv.1 = k then (kv.1, v) else kv) else kvs ++ [(k, v)]
end
theorem RepKV.val : ∀ {kvs : List (Key × D)} {ws : List (Key × V)} (k : Key), RepKV K S kvs ws → (valD kvs k = none ∧ valV ws k = none) ∨ ∃ d v, valD kvs k = some d ∧ valV ws k = some v ∧ Rep K S d v
  | _, _, k, .nil => .inl ⟨rfl, rfl⟩
  | (a, d) :: _, (_, v) :: _, k, .cons h q => by
    by_cases e : a = k
    · exact .inr ⟨d, v, by simp [valD, e], by simp [valV, e], h⟩
    · rcases RepKV.val k q with ⟨h1, h2⟩ | ⟨d', v', h1, h2, h3⟩
      · refine .inl ⟨?_, ?_⟩
        · simpa [valD, e] using h1
        · simpa [valV, e] using h2
      · refine .inr ⟨d', v', ?_, ?_, h3⟩
        · simpa [valD, e] using h1
        · simpa [valV, e] using h2
theorem RepKV.any : ∀ {kvs : List (Key × D)} {ws : List (Key × V)} (k : Key), RepKV K S kvs ws → (kvs.any fun kv => decide (kv.1 = k)) = (ws.any fun kv => decide (kv.1 = k))
  | _, _, k, .nil => rfl
  | _, _, k, .cons h q => by rw [List.any_cons, List.any_cons, RepKV.any k q]
theorem RepKV.app : ∀ {a b : List (Key × D)} {c d : List (Key × V)}, RepKV K S a c → RepKV K S b d → RepKV K S (a ++ b) (c ++ d)
  | _, _, _, _, .nil, r => r
  | _, _, _, _, .cons h q, r => .cons h (RepKV.app q r)
theorem RepKV.put {k : Key} {d : D} {v : V} (rd : Rep K S d v) {kvs : List (Key × D)} {ws : List (Key × V)} (rs : RepKV K S kvs ws) : RepKV K S (putD kvs k d) (putK ws k v) := by
  unfold putD putK
  rw [RepKV.any k rs]
  by_cases e : (ws.any fun kv => decide (kv.1 = k)) = true
  · rw [if_pos e, if_pos e]
    clear e
    induction rs with
    | nil => exact .nil
    | @cons a d' v' _ _ h q ih =>
      rw [List.map_cons, List.map_cons]
      by_cases e : a = k
      · rw [if_pos e, if_pos e]; exact .cons rd ih
      · rw [if_neg e, if_neg e]; exact .cons h ih
  · rw [if_neg e, if_neg e]
    exact rs.app (.cons rd .nil)
def kD : Key → D
  | .inl i => .int i
  | .inr x => .str x
theorem rep_kD {k : Key} {v : V} (rp : Rep K S (kD k) v) : v = kV k := by
  cases k with
  | inl i => cases rp; rfl
  | inr x => cases rp; rfl
theorem e_dnew (q : ∀ p, M p = none → Φ (.ref p) (mup M p (.dic []))) : wpe K W tDNewK ρ M Ψ Φ := fun S H σ e s x Q k p hp => k _ _ _ S _ (q p (s.fresh hp)) (Same.refl S) (s.cell hp ⟨[], upd_same, .nil⟩) (.ref p)
theorem e_dget (h : wpe K W td ρ M Ψ fun x M1 => wpe K W ty ρ M1 Ψ fun y M2 => ∃ a kvs k v, x = .ref a ∧ M2 a = some (.dic kvs) ∧ y = kD k ∧ valD kvs k = some v ∧ Φ v M2) : wpe K W (tDGet td ty) ρ M Ψ Φ := fun S H σ e s x Q k =>
  h S H σ e s x _ fun o M1 ov S1 H1 h1 e1 s1 r1 => h1 S1 H1 σ (e.mono e1) s1 (x.mono e1) _ fun y M2 iv S2 H2 h2 e2 s2 r2 => by
    obtain ⟨a, kvs, kk, v, rfl, hm, rfl, hv, q⟩ := h2
    cases r1
    obtain rfl := rep_kD r2
    obtain ⟨_, ws, ew, rw'⟩ := s2.cells _ _ hm
    rcases RepKV.val kk rw' with ⟨z, _⟩ | ⟨d', v', z1, z2, z3⟩
    · rw [hv] at z; cases z
    · rw [hv] at z1
      cases z1
      exact ⟨a, v', rfl, by rw [← z2]; exact DGet.k ew, k _ M2 _ S2 H2 q (e1.trans e2) s2 z3⟩
theorem e_dget2 (h : wpe K W td ρ M Ψ fun x M1 => ∃ a kvs, x = .ref a ∧ M1 a = some (.dic kvs) ∧ wpe K W ty ρ M1 Ψ fun y M2 => wpe K W tx ρ M2 Ψ fun z M3 => ∃ kvs' k, M3 a = some (.dic kvs') ∧ y = kD k ∧ Φ ((valD kvs' k).getD z) M3) : wpe K W (tDGet2 td ty tx) ρ M Ψ Φ := fun S H σ e s x Q k =>
  h S H σ e s x _ fun o M1 ov S1 H1 h1 e1 s1 r1 => by
    obtain ⟨a, kvs, rfl, hm1, h1⟩ := h1
    cases r1
    obtain ⟨_, ws1, ew1, _⟩ := s1.cells _ _ hm1
    refine ⟨a, rfl, .inl ⟨ws1, .inl ew1⟩, h1 S1 H1 σ (e.mono e1) s1 (x.mono e1) _ fun y M2 iv S2 H2 h2 e2 s2 r2 => h2 S2 H2 σ (e.mono (e1.trans e2)) s2 (x.mono (e1.trans e2)) _ fun z M3 zv S3 H3 h3 e3 s3 r3 => ?_⟩
    obtain ⟨kvs', kk, hm, rfl, q⟩ := h3
    obtain rfl := rep_kD r2
    obtain ⟨_, ws, ew, rw'⟩ := s3.cells _ _ hm
    refine ⟨valV ws kk, DGet.k ew, ?_⟩
    have en := e1.trans (e2.trans e3)
    rcases RepKV.val kk rw' with ⟨z1, z2⟩ | ⟨d', v', z1, z2, z3⟩
    · rw [z1] at q
      rw [z2]
      exact k _ M3 _ S3 H3 q en s3 r3
    · rw [z1] at q
      rw [z2]
      exact k _ M3 _ S3 H3 q en s3 z3
theorem e_dget1 (h : wpe K W td ρ M Ψ fun x M1 => ∃ a kvs, x = .ref a ∧ M1 a = some (.dic kvs) ∧ wpe K W ty ρ M1 Ψ fun y M2 => ∃ kvs' k, M2 a = some (.dic kvs') ∧ y = kD k ∧ Φ ((valD kvs' k).getD .non) M2) : wpe K W (tDGet1 td ty) ρ M Ψ Φ := fun S H σ e s x Q k =>
  h S H σ e s x _ fun o M1 ov S1 H1 h1 e1 s1 r1 => by
    obtain ⟨a, kvs, rfl, hm1, h1⟩ := h1
    cases r1
    obtain ⟨_, ws1, ew1, _⟩ := s1.cells _ _ hm1
    refine ⟨a, rfl, .inl ⟨ws1, .inl ew1⟩, h1 S1 H1 σ (e.mono e1) s1 (x.mono e1) _ fun y M2 iv S2 H2 h2 e2 s2 r2 => ?_⟩
    obtain ⟨kvs', kk, hm, rfl, q⟩ := h2
    obtain rfl := rep_kD r2
    obtain ⟨_, ws, ew, rw'⟩ := s2.cells _ _ hm
    refine ⟨valV ws kk, DGet.k ew, ?_⟩
    have en := e1.trans e2
    rcases RepKV.val kk rw' with ⟨z1, z2⟩ | ⟨d', v', z1, z2, z3⟩
    · rw [z1] at q
      rw [z2]
      exact k _ M2 _ S2 H2 q en s2 .non
    · rw [z1] at q
      rw [z2]
      exact k _ M2 _ S2 H2 q en s2 z3
theorem e_din (h : wpe K W ty ρ M Ψ fun y M1 => wpe K W td ρ M1 Ψ fun x M2 => ∃ a kvs k, x = .ref a ∧ M2 a = some (.dic kvs) ∧ y = kD k ∧ Φ (.bl (valD kvs k).isSome) M2) : wpe K W (tDIn ty td) ρ M Ψ Φ := fun S H σ e s x Q k =>
  h S H σ e s x _ fun y M1 yv S1 H1 h1 e1 s1 r1 => h1 S1 H1 σ (e.mono e1) s1 (x.mono e1) _ fun o M2 ov S2 H2 h2 e2 s2 r2 => by
    obtain ⟨a, kvs, kk, rfl, hm, rfl, q⟩ := h2
    cases r2
    obtain rfl := rep_kD r1
    obtain ⟨_, ws, ew, rw'⟩ := s2.cells _ _ hm
    refine ⟨a, valV ws kk, rfl, DGet.k ew, k _ M2 _ S2 H2 q (e1.trans e2) s2 ?_⟩
    rcases RepKV.val kk rw' with ⟨z1, z2⟩ | ⟨d', v', z1, z2, z3⟩
    · rw [z1, z2]; exact .bl _
    · rw [z1, z2]; exact .bl _
theorem s_dput (h : wpe K W tv ρ M (E.ex ρ) fun d M1 => wpe K W td ρ M1 (E.ex ρ) fun x M2 => wpe K W ty ρ M2 (E.ex ρ) fun y M3 => ∃ a kvs k, x = .ref a ∧ M3 a = some (.dic kvs) ∧ y = kD k ∧ kvs.length < 16777216 ∧ E.nx ρ (mup M3 a (.dic (putD kvs k d)))) : wps K W (sDPut td ty tv) ρ M E := fun S H σ D' e s im => by
  have x := im.ex ρ σ S (Same.refl S) e
  refine h S H σ e s x _ fun d M1 v S1 H1 h1 e1 s1 r1 => h1 S1 H1 σ (e.mono e1) s1 (x.mono e1) _ fun o M2 ov S2 H2 h2 e2 s2 r2 => h2 S2 H2 σ (e.mono (e1.trans e2)) s2 (x.mono (e1.trans e2)) _ fun y M3 yv S3 H3 h3 e3 s3 r3 => ?_
  obtain ⟨a, kvs, kk, rfl, hm, rfl, hl, q⟩ := h3
  cases r2
  obtain rfl := rep_kD r3
  obtain ⟨_, ws, ew, rw'⟩ := s3.cells _ _ hm
  have en := e1.trans (e2.trans e3)
  exact ⟨a, _, rfl, DPut.k ew (big1 (by rw [← rw'.length]; exact hl)), im.nx ρ _ σ S3 _ q en (e.mono en) (s3.write hm ⟨_, upd_same, rw'.put (r1.mono (e2.trans e3))⟩)⟩
/-- one of two ways to read an expression -/
def tOrE (t1 t2 : TE) : TE := fun σ H Q => t1 σ H Q ∨ t2 σ H Q
theorem pe_orE {X : Cx} {e : Expr} {t1 t2 : TE} (h1 : PE X e t1) (h2 : PE X e t2) : PE X e (tOrE t1 t2) := ⟨fun pins s σ H Q I h => h.elim (h1.run pins s σ H Q I) (h2.run pins s σ H Q I)⟩
theorem pc_orE {X : Cx} {op : CmpOp} {a b : Expr} {t1 t2 : TE} (h1 : PC X op a b t1) (h2 : PC X op a b t2) : PC X op a b (tOrE t1 t2) := ⟨fun pins s σ H Q I h => h.elim (h1.run pins s σ H Q I) (h2.run pins s σ H Q I)⟩
theorem e_orL {t1 t2 : TE} (h : wpe K W t1 ρ M Ψ Φ) : wpe K W (tOrE t1 t2) ρ M Ψ Φ := fun S H σ e s x Q k => .inl (h S H σ e s x Q k)
theorem e_orR {t1 t2 : TE} (h : wpe K W t2 ρ M Ψ Φ) : wpe K W (tOrE t1 t2) ρ M Ψ Φ := fun S H σ e s x Q k => .inr (h S H σ e s x Q k)
def tOrS (t1 t2 : TS) : TS := fun D σ H => t1 D σ H ∨ t2 D σ H
theorem ps_orS {X : Cx} {e : Stmt} {t1 t2 : TS} (h1 : PS X e t1) (h2 : PS X e t2) : PS X e (tOrS t1 t2) := ⟨fun pins s σ H D I h => h.elim (h1.run pins s σ H D I) (h2.run pins s σ H D I)⟩
theorem s_orL {t1 t2 : TS} (h : wps K W t1 ρ M E) : wps K W (tOrS t1 t2) ρ M E := fun S H σ D' e s i => .inl (h S H σ D' e s i)
theorem s_orR {t1 t2 : TS} (h : wps K W t2 ρ M E) : wps K W (tOrS t1 t2) ρ M E := fun S H σ D' e s i => .inr (h S H σ D' e s i)

/-! ### instances of own classes -/
inductive Iv (M : Mem) : D → Addr → List Str → List D → Prop
  | imm (C : Addr) (ns : List Str) (ds : List D) : Iv M (.ins C ns ds) C ns ds
  | cell {a C : Addr} {ns : List Str} {ds : List D} (h : M a = some (.ins C ns ds)) : Iv M (.ref a) C ns ds
theorem Iv.of (s : Sim K S H M) {d : D} {v : V} {C : Addr} {ns : List Str} {ds : List D} (l : Iv M d C ns ds) (rp : Rep K S d v) : ∃ a dx fs, v = .ref a ∧ H a = some (.ins C dx fs) ∧ RepF K S ns ds fs := by
  cases l with
  | imm => cases rp with
    | ins h n q => exact ⟨_, _, _, rfl, s.sub _ _ h, n, q⟩
  | cell h =>
    cases rp
    obtain ⟨_, dx, fs, e, q⟩ := s.cells _ _ h
    exact ⟨_, dx, fs, rfl, e, q⟩
def lookD : List Str → List D → Str → Option D
  | n :: ns, d :: ds, f => if f = n then some d else lookD ns ds f
  | _, _, _ => none
theorem look_rep {f : Str} : ∀ {ns : List Str} {ds : List D} {fs : List (Str × V)}, RepF K S ns ds fs → (lookD ns ds f = none ∧ fs.lookup f = none) ∨ ∃ d v, lookD ns ds f = some d ∧ fs.lookup f = some v ∧ Rep K S d v
  | ns, ds, [], h => by
    obtain ⟨h1, h2⟩ := h
    cases h1
    cases h2
    exact .inl ⟨rfl, rfl⟩
  | ns, ds, (g, v) :: fs, h => by
    obtain ⟨h1, h2⟩ := h
    subst h1
    cases h2 with
    | @cons d ds' _ _ h3 h4 =>
      have lk : ((g, v) :: fs).lookup f = if f = g then some v else fs.lookup f := by
        by_cases e : f = g
        · subst e; simp [List.lookup]
        · have : (f == g) = false := by simpa using e
          rw [if_neg e]; simp [List.lookup, this]
      by_cases e : f = g
      · refine .inr ⟨d, v, by simp [lookD, e], by rw [lk, if_pos e], h3⟩
      · rcases look_rep (f := f) (ns := fs.map (·.1)) (ds := ds') (fs := fs) ⟨rfl, h4⟩ with ⟨z1, z2⟩ | ⟨d', v', z1, z2, z3⟩
        · exact .inl ⟨by simpa [lookD, e] using z1, by rw [lk, if_neg e]; exact z2⟩
        · exact .inr ⟨d', v', by simpa [lookD, e] using z1, by rw [lk, if_neg e]; exact z2, z3⟩
theorem e_fld {f : Str} (h : wpe K W te ρ M Ψ fun d M' => ∃ C ns ds v, Iv M' d C ns ds ∧ Cls K C ∧ NoAttr K C f ∧ lookD ns ds f = some v ∧ Φ v M') : wpe K W (tFld K te f) ρ M Ψ Φ := fun S H σ e s x Q k =>
  h S H σ e s x _ fun d M1 v S1 H1 h1 e1 s1 r1 => by
    obtain ⟨C, ns, ds, w, iv, hc, hn, hl, q⟩ := h1
    obtain ⟨a, dx, fs, rfl, eH, rf⟩ := iv.of s1 r1
    rcases look_rep (f := f) rf with ⟨z1, _⟩ | ⟨d', v', z1, z2, z3⟩
    · rw [hl] at z1; cases z1
    · rw [hl] at z1
      cases z1
      exact ⟨a, C, dx, fs, v', rfl, eH, hc, hn, z2, k _ M1 _ S1 H1 q e1 s1 z3⟩
theorem putF_new {f : Str} {v : V} : ∀ {fs : List (Str × V)}, f ∉ fs.map (·.1) → putF f v fs = fs ++ [(f, v)]
  | [], _ => rfl
  | (g, w) :: fs, h => by
    have h1 : ¬ g = f := fun e => h (by rw [e]; exact List.mem_cons_self)
    have h2 : f ∉ fs.map (·.1) := fun m => h (List.mem_cons_of_mem _ m)
    show (if g = f then (g, v) :: fs else (g, w) :: putF f v fs) = _
    rw [if_neg h1, putF_new h2]
    rfl
theorem s_fld {f : Str} (h : wpe K W tv ρ M (E.ex ρ) fun y M1 => wpe K W ta ρ M1 (E.ex ρ) fun o M2 => ∃ a C ns ds, o = .ref a ∧ M2 a = some (.ins C ns ds) ∧ Cls K C ∧ NoAttr K C f ∧ f ∉ ns ∧ ns.length < 1000 ∧ E.nx ρ (mup M2 a (.ins C (ns ++ [f]) (ds ++ [y])))) : wps K W (sFld K ta tv f) ρ M E := fun S H σ D' e s im => by
  have x := im.ex ρ σ S (Same.refl S) e
  refine h S H σ e s x _ fun y M1 v S1 H1 h1 e1 s1 r1 => h1 S1 H1 σ (e.mono e1) s1 (x.mono e1) _ fun o M2 ov S2 H2 h2 e2 s2 r2 => ?_
  obtain ⟨a, C, ns, ds, rfl, hm, hc, hn, hf, hl, q⟩ := h2
  cases r2
  obtain ⟨_, dx, fs, eH, rf⟩ := s2.cells _ _ hm
  have hf' : f ∉ fs.map (·.1) := by rw [rf.1]; exact hf
  have en := e1.trans e2
  refine ⟨a, C, dx, fs, rfl, eH, hc, hn, by rw [← List.length_map (f := (·.1)) (as := fs), rf.1]; exact hl, im.nx ρ _ σ S2 _ q en (e.mono en) (s2.write hm ⟨dx, putF f v fs, upd_same, ?_⟩)⟩
  rw [putF_new hf']
  exact ⟨by rw [List.map_append, rf.1]; rfl, by rw [List.map_append]; exact rf.2.append (Reps.one (r1.mono e2))⟩
/-- o.m(..): R from the instance and the arguments -/
theorem e_meth {C : Addr} {m : Str} {R : RD} {EX : XK} (h : wpe K W te ρ M Ψ fun o M1 => ∃ ns ds, Iv M1 o C ns ds ∧ lookD ns ds m = none ∧ wpa K W tr ρ M1 Ψ fun es M2 => R (o :: es) M2 Φ xno) : wpe K W (tMeth C m (spD K R) [] EX te tr) ρ M Ψ Φ := fun S H σ e s x Q k =>
  h S H σ e s x _ fun o M1 v S1 H1 h1 e1 s1 r1 => by
    obtain ⟨ns, ds, iv, hl, h1⟩ := h1
    obtain ⟨a, dx, fs, rfl, eH, rf⟩ := iv.of s1 r1
    refine ⟨a, dx, fs, rfl, eH, ?_, h1 S1 H1 σ (e.mono e1) s1 (x.mono e1) _ fun es M2 vs S2 H2 h2 e2 s2 r2 => ?_⟩
    · rcases look_rep (f := m) rf with ⟨_, z2⟩ | ⟨_, _, z1, _, _⟩
      · exact z2
      · rw [hl] at z1; cases z1
    · rw [List.append_nil]
      exact ⟨S2, M2, o :: es, Φ, xno, s2, .cons (r1.mono e2) r2, h2, k.mono (e1.trans e2), fun _ _ _ _ _ _ _ z => z.elim⟩
theorem e_methX {C : Addr} {m : Str} {R : RD} {EX : XK} (hE : ∀ cls dd σ H, W cls dd σ H → EX cls dd H) (h : wpe K W te ρ M Ψ fun o M1 => ∃ ns ds, Iv M1 o C ns ds ∧ lookD ns ds m = none ∧ wpa K W tr ρ M1 Ψ fun es M2 => R (o :: es) M2 Φ Ψ) : wpe K W (tMeth C m (spD K R) [] EX te tr) ρ M Ψ Φ := fun S H σ e s x Q k =>
  h S H σ e s x _ fun o M1 v S1 H1 h1 e1 s1 r1 => by
    obtain ⟨ns, ds, iv, hl, h1⟩ := h1
    obtain ⟨a, dx, fs, rfl, eH, rf⟩ := iv.of s1 r1
    refine ⟨a, dx, fs, rfl, eH, ?_, h1 S1 H1 σ (e.mono e1) s1 (x.mono e1) _ fun es M2 vs S2 H2 h2 e2 s2 r2 => ?_⟩
    · rcases look_rep (f := m) rf with ⟨_, z2⟩ | ⟨_, _, z1, _, _⟩
      · exact z2
      · rw [hl] at z1; cases z1
    · rw [List.append_nil]
      exact ⟨S2, M2, o :: es, Φ, Ψ, s2, .cons (r1.mono e2) r2, h2, k.mono (e1.trans e2), fun cls ns fs M' dd S' H' q e3 s3 d3 => hE _ _ σ _ (x cls ns fs M' dd S' H' q ((e1.trans e2).trans e3) s3 d3)⟩
/-- C(..): the new instance, frozen behind __init__ -/
theorem e_make {C : Addr} {R : RD} {EX : XK} (hE : ∀ cls dd σ H, W cls dd σ H → EX cls dd H) (h : wpa K W tr ρ M Ψ fun es M1 => ∀ a, M1 a = none → R (.ref a :: es) (mup M1 a (.ins C [] [])) (fun d M' => d = .non ∧ ∃ ns ds, M' a = some (.ins C ns ds) ∧ Φ (.ins C ns ds) (mdel M' a)) Ψ) : wpe K W (tMake C (spD K R) [] EX tr) ρ M Ψ Φ := fun S H σ e s x Q k =>
  h S H σ e s x _ fun es M1 vs S1 H1 h1 e1 s1 r1 a dx ha hdx hne => by
    rw [List.append_nil]
    have s2 : Sim K S1 (upd H1 dx (.own a)) M1 := s1.up (same_new hdx)
    have ha2 : upd H1 dx (.own a) a = none := by rw [upd_ne hne.symm]; exact ha
    have s3 : Sim K S1 (upd (upd H1 dx (.own a)) a (.ins C dx [])) (mup M1 a (.ins C [] [])) := s2.cell ha2 ⟨dx, [], upd_same, rfl, .nil⟩
    refine ⟨S1, _, .ref a :: es, _, Ψ, s3, .cons (.ref a) r1, h1 a (s1.fresh ha), fun d M' v S' H' q e2 s4 r4 => ?_, fun cls ns fs M' dd S' H' q e3 s4 d4 => hE _ _ σ _ (x cls ns fs M' dd S' H' q (e1.trans e3) s4 d4)⟩
    obtain ⟨rfl, ns, ds, hm, q⟩ := q
    cases r4
    refine ⟨rfl, ?_⟩
    obtain ⟨sp, dy, fs, eH, rf⟩ := s4.cells _ _ hm
    have e5 : Same S' (upd S' a (.ins C dy fs)) := same_new sp
    exact k _ _ _ _ H' q (e1.trans (e2.trans e5)) (s4.freeze hm eH) (.ins upd_same rf.1 (rf.2.mono e5))

/-! ### raise -/
theorem s_raise0 {C : Value} (q : E.ex ρ C [] [] M) : wps K W (fun _ σ H => (fun (_ : L2.St) (H : Hp) (Q : XK) => Q C none H) σ H fun cls d H' => W cls d σ H') ρ M E := fun S H σ D' e s im =>
  im.ex ρ σ S (Same.refl S) e C [] [] M none S H q (Same.refl S) s ⟨rfl, rfl⟩
theorem s_never : (False) → wps K W tNever ρ M E := fun h => h.elim
end
end DA

/-! DG: defs of the text as callees. -/
namespace DA
open PySem L2 PyProof.Rows
/-- a def as it stands behind the top, without defaults -/
def FunAt (K : PySem.W.Frag) (mg : Str → Option Value) (x qual : Str) (st : Stmt) (ps : List Str) : Prop := ∃ f fd, Fun K x qual st f fd ∧ mg x = some (.ref f) ∧ Binds K fd ps []
/-- a def that keeps R -/
structure Cal (P : Program) (w : World) (K : PySem.W.Frag) (mg : Str → Option Value) (base : Heap) (CX : CXT) (k : Nat) (x : Str) (ps : List Str) (R : RD) : Prop where
  ex : ∃ f fd, FnOk P w K mg base CX k f fd ps (spD K R) ∧ mg x = some (.ref f) ∧ PySem.W.keepIn K (.ref f) = true ∧ Binds K fd ps []
abbrev Cal0 (P : Program) (w : World) (K : PySem.W.Frag) (mg : Str → Option Value) (base : Heap) (k : Nat) (x : Str) (ps : List Str) (R : RD) : Prop := Cal P w K mg base CX0 k x ps R
abbrev CalX (P : Program) (w : World) (K : PySem.W.Frag) (mg : Str → Option Value) (base : Heap) (k : Nat) (x : Str) (ps : List Str) (R : RD) : Prop := Cal P w K mg base (L2.CX P w) k x ps R
section
variable {P : Program} {w : World} {K : PySem.W.Frag} {mg : Str → Option Value} {base : Heap}
theorem cal0 {x qual : Str} {st : Stmt} {N ps : List Str} {k : Nat} {R : RD} (F : FunAt K mg x qual st ps) (Sc : FnScope N ps (defScope st)) (hl : ∀ ds M Φ Ψ, R ds M Φ Ψ → ds.length = ps.length)
    (hb : ∀ (f : Addr) (cdv : Value) (A : Around) (outer : List Env) (s : Shared) (H : Hp) (E : XK), Room k (A.deeper (envOfC qual (defScope st) s.heap.objs.size f cdv)) →
      ∃ t, PSs (cxOf CX0 P w K mg base N qual (defScope st) f cdv A outer s H E).nox (defBody st) t ∧ ∀ ds M Φ Ψ, R ds M Φ Ψ → wps K WF t (ds.map some ++ List.replicate (N.length - ps.length) none) M { nx := fun _ M' => Φ .non M', rt := Φ }) :
    Cal0 P w K mg base (k + 1) x ps R := by
  obtain ⟨f, fd, F, hm, hbd⟩ := F
  exact ⟨f, fd, fn0 F Sc hl (hb f), hm, F.kp, hbd⟩
theorem calX {x qual : Str} {st : Stmt} {N ps : List Str} {k : Nat} {R : RD} (F : FunAt K mg x qual st ps) (Sc : FnScope N ps (defScope st)) (hl : ∀ ds M Φ Ψ, R ds M Φ Ψ → ds.length = ps.length)
    (hb : ∀ (f : Addr) (cdv : Value) (A : Around) (outer : List Env) (s : Shared) (H : Hp) (E : XK), Room k (A.deeper (envOfC qual (defScope st) s.heap.objs.size f cdv)) →
      ∃ t, PSs (cxOf (L2.CX P w) P w K mg base N qual (defScope st) f cdv A outer s H E) (defBody st) t ∧ ∀ ds M Φ Ψ, R ds M Φ Ψ → wps K (fun cls d _ H' => E cls d H') t (ds.map some ++ List.replicate (N.length - ps.length) none) M { nx := fun _ M' => Φ .non M', rt := Φ, ex := fun _ => Ψ }) :
    CalX P w K mg base (k + 1) x ps R := by
  obtain ⟨f, fd, F, hm, hbd⟩ := F
  exact ⟨f, fd, fnX F Sc hl (hb f), hm, F.kp, hbd⟩
end
section
variable {X : Cx} {W : WX} {k : Nat} {x : Str} {p pos : Pos} {e : Expr} {es : List Expr} {t : TA} {ps : List Str} {R : RD}
theorem pe_cal (C : Cal0 X.prog X.w X.K X.mg X.base k x ps R) (hr : Room k X.A) (hg : Gl X x) (ha : PA X (e :: es) t) (hdb : (x == ("__debug__" : Str)) = false := by decide) (he : starEach (e :: es) X.env = (false, eval e X.env) :: starEach es X.env := by rfl)
    (hpl : (backTo pos (starEach es X.env)).any (·.1) = false := by rfl) : PE X (.Call (.Name x p) (e :: es) [] pos) (tCallS (spD X.K R) (WE W) t) := by
  obtain ⟨f, fd, F, hm, hk, hb⟩ := C.ex
  exact pe_callS F hr hg hm hk hb (fun _ => pass0At) ha hdb he hpl
theorem pe_calX (C : CalX X.prog X.w X.K X.mg X.base k x ps R) (tk : Takes X W) (hr : Room k X.A) (hg : Gl X x) (ha : PA X (e :: es) t) (hdb : (x == ("__debug__" : Str)) = false := by decide) (he : starEach (e :: es) X.env = (false, eval e X.env) :: starEach es X.env := by rfl)
    (hpl : (backTo pos (starEach es X.env)).any (·.1) = false := by rfl) : PE X (.Call (.Name x p) (e :: es) [] pos) (tCallS (spD X.K R) (WE W) t) := by
  obtain ⟨f, fd, F, hm, hk, hb⟩ := C.ex
  exact pe_callS F hr hg hm hk hb (fun σ => passAt tk σ) ha hdb he hpl
theorem Cal.lift {P : Program} {w : World} {K : PySem.W.Frag} {mg : Str → Option Value} {base : Heap} {CX : CXT} {j : Nat} (C : Cal P w K mg base CX j x ps R) (h : j ≤ k) : Cal P w K mg base CX k x ps R := by
  obtain ⟨f, fd, F, r⟩ := C.ex
  exact ⟨f, fd, F.mono h, r⟩
/-- a weaker word -/
theorem Cal.imp {P : Program} {w : World} {K : PySem.W.Frag} {mg : Str → Option Value} {base : Heap} {CX : CXT} {R' : RD} (C : Cal P w K mg base CX k x ps R) (h : ∀ ds M Φ Ψ, R' ds M Φ Ψ → R ds M Φ Ψ) : Cal P w K mg base CX k x ps R' := by
  obtain ⟨f, fd, F, r⟩ := C.ex
  exact ⟨f, fd, F.imp (fun vs H Q E ⟨S, M, ds, Φ, Ψ, s, rs, hR, q⟩ => ⟨S, M, ds, Φ, Ψ, s, rs, h _ _ _ _ hR, q⟩), r⟩
end
end DA

/-! DH: small facts for the steps. -/
namespace DA
open PySem L2 PyProof.Rows
theorem _root_.L2.Room.units65 {k : Nat} {A : Around} (r : Room k A) : A.units + 65 < cLine := by have := r.un; omega
theorem cx_nox {CX : CXT} {P : Program} {w : World} {K : PySem.W.Frag} {mg : Str → Option Value} {base : Heap} {N : List Str} {qual : Str} {scope : Scope} {f : Addr} {cd : Value} {A : Around} {outer : List Env} {s : Shared} {H : Hp} {E : XK} : (cxOf CX P w K mg base N qual scope f cd A outer s H E).nox.K = K := rfl
theorem cx_k {CX : CXT} {P : Program} {w : World} {K : PySem.W.Frag} {mg : Str → Option Value} {base : Heap} {N : List Str} {qual : Str} {scope : Scope} {f : Addr} {cd : Value} {A : Around} {outer : List Env} {s : Shared} {H : Hp} {E : XK} : (cxOf CX P w K mg base N qual scope f cd A outer s H E).K = K := rfl
theorem cx_blk {X : Cx} {s : Shared} {H : Hp} {scope : Scope} {cenv : PySem.Env} {fp : List Addr} : (X.blk s H scope cenv fp).K = X.K := rfl
theorem cx_nox2 {X : Cx} : X.nox.K = X.K := rfl
theorem kt_NoneType_int : kitB "NoneType" "int" = some false := by decide +kernel
theorem kt_NoneType_bool : kitB "NoneType" "bool" = some false := by decide +kernel
theorem kt_NoneType_str : kitB "NoneType" "str" = some false := by decide +kernel
theorem kt_NoneType_tuple : kitB "NoneType" "tuple" = some false := by decide +kernel
theorem kt_NoneType_list : kitB "NoneType" "list" = some false := by decide +kernel
theorem kt_NoneType_dict : kitB "NoneType" "dict" = some false := by decide +kernel
theorem kt_bool_int : kitB "bool" "int" = some true := by decide +kernel
theorem kt_bool_bool : kitB "bool" "bool" = some true := by decide +kernel
theorem kt_bool_str : kitB "bool" "str" = some false := by decide +kernel
theorem kt_bool_tuple : kitB "bool" "tuple" = some false := by decide +kernel
theorem kt_bool_list : kitB "bool" "list" = some false := by decide +kernel
theorem kt_bool_dict : kitB "bool" "dict" = some false := by decide +kernel
theorem kt_int_int : kitB "int" "int" = some true := by decide +kernel
theorem kt_int_bool : kitB "int" "bool" = some false := by decide +kernel
theorem kt_int_str : kitB "int" "str" = some false := by decide +kernel
theorem kt_int_tuple : kitB "int" "tuple" = some false := by decide +kernel
theorem kt_int_list : kitB "int" "list" = some false := by decide +kernel
theorem kt_int_dict : kitB "int" "dict" = some false := by decide +kernel
theorem kt_str_int : kitB "str" "int" = some false := by decide +kernel
theorem kt_str_bool : kitB "str" "bool" = some false := by decide +kernel
theorem kt_str_str : kitB "str" "str" = some true := by decide +kernel
theorem kt_str_tuple : kitB "str" "tuple" = some false := by decide +kernel
theorem kt_str_list : kitB "str" "list" = some false := by decide +kernel
theorem kt_str_dict : kitB "str" "dict" = some false := by decide +kernel
theorem kt_list_int : kitB "list" "int" = some false := by decide +kernel
theorem kt_list_bool : kitB "list" "bool" = some false := by decide +kernel
theorem kt_list_str : kitB "list" "str" = some false := by decide +kernel
theorem kt_list_tuple : kitB "list" "tuple" = some false := by decide +kernel
theorem kt_list_list : kitB "list" "list" = some true := by decide +kernel
theorem kt_list_dict : kitB "list" "dict" = some false := by decide +kernel
theorem kt_tuple_int : kitB "tuple" "int" = some false := by decide +kernel
theorem kt_tuple_bool : kitB "tuple" "bool" = some false := by decide +kernel
theorem kt_tuple_str : kitB "tuple" "str" = some false := by decide +kernel
theorem kt_tuple_tuple : kitB "tuple" "tuple" = some true := by decide +kernel
theorem kt_tuple_list : kitB "tuple" "list" = some false := by decide +kernel
theorem kt_tuple_dict : kitB "tuple" "dict" = some false := by decide +kernel
section
variable {X : Cx} {x : Str} {pos : Pos}
theorem pe_gS {s : Str} (hg : Gl X x) (hm : ∃ t, X.mg x = some (.str s t)) (hd : (x == ("__debug__" : Str)) = false := by decide) : PE X (.Name x pos) (tC (.str s)) := by
  obtain ⟨t, h⟩ := hm
  exact pe_glob hg h ⟨t, rfl⟩ hd
theorem pe_gI {i : Int} (hg : Gl X x) (hm : ∃ t, X.mg x = some (.int i t)) (hd : (x == ("__debug__" : Str)) = false := by decide) : PE X (.Name x pos) (tC (.int i)) := by
  obtain ⟨t, h⟩ := hm
  exact pe_glob hg h ⟨t, rfl⟩ hd
end
section
variable {K : PySem.W.Frag} {W : WX} {ρ : List (Option D)} {M : Mem} {Ψ : XP} {Φ : DP} {te : TE} {tr : TA} {t : TA}
theorem two_t {A B : Prop} (k : A) : (true = true → A) ∧ (true = false → B) := ⟨fun _ => k, fun h => (nomatch h)⟩
theorem two_f {A B : Prop} (k : B) : (false = true → A) ∧ (false = false → B) := ⟨fun h => (nomatch h), fun _ => k⟩
theorem two_nt {A B : Prop} (k : B) : ((!true) = true → A) ∧ ((!true) = false → B) := ⟨fun h => (nomatch h), fun _ => k⟩
theorem two_nf {A B : Prop} (k : A) : ((!false) = true → A) ∧ ((!false) = false → B) := ⟨fun _ => k, fun h => (nomatch h)⟩
/-- a branch whose answer is known by a fact -/
theorem two_is {b c : Bool} {A B : Prop} (h : b = c) (k1 : c = true → A) (k2 : c = false → B) : (b = true → A) ∧ (b = false → B) := by subst h; exact ⟨k1, k2⟩
theorem two_yes {b : Bool} {A B : Prop} (h : b = true) (k : A) : (b = true → A) ∧ (b = false → B) := ⟨fun _ => k, fun z => by rw [h] at z; cases z⟩
theorem two_no {b : Bool} {A B : Prop} (h : b = false) (k : B) : (b = true → A) ∧ (b = false → B) := ⟨fun z => (by rw [h] at z; cases z), fun _ => k⟩
/-- lists that will change -/
def tLstC (t : TA) : TE := tLst t
theorem pe_lstC {X : Cx} {es : List Expr} {pos : Pos} (h : PA X es t) : PE X (.List es pos) (tLstC t) := pe_lst h
theorem e_lstC (h : wpa K W tr ρ M Ψ fun ds M1 => ds.length ≤ 16777216 ∧ ∀ p, M1 p = none → Φ (.ref p) (mup M1 p (.lst ds))) : wpe K W (tLstC tr) ρ M Ψ Φ := e_lst fun S H σ e s x Q k => h S H σ e s x Q fun ds M' vs S' H' q => k ds M' vs S' H' ⟨q.1, .cell q.2⟩
def rListC (K : PySem.W.Frag) : List V → Hp → VK → Prop := fun xs H Q => ∃ p ys, xs = [.ref p] ∧ (SqL K H p ys ∨ SqT K H p ys) ∧ ∀ l, H l = none → Q (.ref l) (upd H l (.lst ys))
theorem call_listC {X : Cx} : CallR X (.type "list") (rListC X.K) := call_list_of
theorem c_listC {x : D} {xs : List D} (l : Sv M x xs) (q : ∀ p, M p = none → Φ (.ref p) (mup M p (.lst xs))) : wpn K (rListC K) [x] M Φ := c_list l (.cell q)
/-- a name whose list is handed on: as data that stays, or as the cell that it is -/
theorem e_varF {i : Nat} {p : Addr} {ds : List D} (h1 : ρ[i]? = some (some (.ref p))) (h2 : M p = some (.lst ds)) (q : NewL Φ (mdel M p) ds) : wpe K W (tVar i) ρ M Ψ Φ := fun S H σ e s x Q k => by
  obtain ⟨v, e1, r1⟩ := e.get h1
  cases r1
  obtain ⟨sp, vs, eH, rs⟩ := s.cells _ _ h2
  refine ⟨_, e1, ?_⟩
  cases q with
  | imm q =>
    have en : Same S (upd S p (.lst vs)) := same_new sp
    exact k _ _ _ _ H q en (s.freeze h2 eH) (.lst upd_same (rs.mono en))
  | cell q =>
    have hq := q p mdel_same
    have : mup (mdel M p) p (.lst ds) = M := by
      funext b
      by_cases hb : b = p
      · subst hb; rw [mup_same, h2]
      · rw [mup_ne hb, mdel_ne hb]
    rw [this] at hq
    exact k _ _ _ S H hq (Same.refl S) s (.ref p)
theorem wpe.less {M' : Mem} (h : Sub M' M) (q : wpe K W te ρ M' Ψ Φ) : wpe K W te ρ M Ψ Φ := fun S H σ e s x Q k => q S H σ e (s.less h) x Q k
theorem wps.ret {i : Nat} {p : Addr} {ds : List D} {E : DE} {N : Mem} (h1 : ρ[i]? = some (some (.ref p))) (hs : Sub (mup N p (.lst ds)) M) (hp : N p = none) (q : NewL E.rt N ds) : wps K W (tRet (tVar i)) ρ M E :=
  s_ret (wpe.less hs (e_varF h1 mup_same (by rw [mdel_mup hp]; exact q)))
theorem mdel_mup_ne {M : Mem} {a b : Addr} {o : MO} (h : a ≠ b) : mdel (mup M a o) b = mup (mdel M b) a o := by
  funext c; unfold mdel mup
  by_cases e : c = b
  · subst e; simp [Ne.symm h]
  · simp [e]
theorem mup_comm {M : Mem} {a b : Addr} {o u : MO} (h : a ≠ b) : mup (mup M a o) b u = mup (mup M b u) a o := by
  funext c; unfold mup
  by_cases e : c = b
  · subst e; simp [Ne.symm h]
  · simp [e]
end
end DA

/-! DX: own exceptions over ValueError whose __init__ says super().__init__(e), then stores. -/
namespace DA
open PySem L2 PyProof.Rows PySem.W PySem.Calls

/-- the context of such an __init__ -/
def cxS (CX : CXT) (P : Program) (w : World) (K : PySem.W.Frag) (mg : Str → Option Value) (base : Heap) (N : List Str) (qual : Str) (scope : Scope) (f : Addr) (cd : Value) (cc : Addr) (A : Around) (outer : List Env) (s : Shared) (H : Hp) (E : XK) : Cx where
  prog := P
  w := w
  K := K
  mg := mg
  base := base
  A := A.deeper (ksEnv qual scope s.heap.objs.size f cd cc)
  N := N
  s_0 := s
  H_0 := H
  env := ksEnv qual scope s.heap.objs.size f cd cc
  outer := outer
  stack := ksEnv qual scope s.heap.objs.size f cd cc :: outer
  ex := []
  calm := true
  fn := fun _ => false
  pn := []
  xe := fun e s' => wpAny (model P w) (A.deeper (ksEnv qual scope s.heap.objs.size f cd cc)) (leaving (ksEnv qual scope s.heap.objs.size f cd cc) e) (fun _ s'' => CX outer H s E e s'') (fun e' s'' => CX outer H s E e' s'') s'

structure ScS (N ps : List Str) (sc : Scope) : Prop where
  kind : sc.kind = .function
  co : sc.isCoroutine = false
  gen : sc.isGenerator = false
  nd : N.Nodup
  pre : N.take ps.length = ps
  par : ∀ x ∈ ps, sc.names.lookup x = some .local
  nocell : ∀ x ∈ sc.names, x.2 ≠ .cell
  free : ∀ y ∈ sc.names, y.2 = .free → y.1 = "__class__"
  sup : sc.names.lookup ("super" : Str) = some .globalImplicit
  cls : sc.names.lookup ("__class__" : Str) = some .free

theorem zip_rev {x : Str} {u : Value} : ∀ {ps : List Str} {us : List Value} {i : Nat}, ps.Nodup → ps[i]? = some x → us[i]? = some u → (ps.zip us).reverse.lookup x = some u
  | [], _, _, _, h, _ => by simp at h
  | _ :: _, [], _, _, _, h => by simp at h
  | p :: ps, w :: us, 0, nd, h1, h2 => by
    simp at h1 h2
    subst h1 h2
    have e : (ps.zip us).reverse.lookup p = none := by
      rw [List.lookup_eq_none_iff]
      intro q hq
      have := (List.of_mem_zip (List.mem_reverse.mp hq)).1
      have hne : p ≠ q.1 := fun z => (List.nodup_cons.mp nd).1 (by rw [z]; exact this)
      simpa using hne
    rw [List.zip_cons_cons, List.reverse_cons, List.lookup_append, e]
    simp [List.lookup]
  | p :: ps, w :: us, i + 1, nd, h1, h2 => by
    have ih := zip_rev (ps := ps) (us := us) (i := i) (List.nodup_cons.mp nd).2 (by simpa using h1) (by simpa using h2)
    rw [List.zip_cons_cons, List.reverse_cons, List.lookup_append, ih]
    rfl

section
variable {CX : CXT} {P : Program} {w : World} {K : PySem.W.Frag} {mg : Str → Option Value} {base : Heap} {N ps : List Str} {qual : Str} {scope : Scope} {f cc D : Addr} {cd : Value} {A : Around} {outer : List Env} {s : Shared} {H : Hp} {E : XK} {us : List Value} {vs : List V}
theorem inv_sup {cl : Value} {cld : Option Addr} {csl : Array (Option Value)} (S : ScS N ps scope) (hd : A.handled = none) (e0 : Env0 P w K mg base A outer s H) (hl : vs.length = ps.length) (r : Vals vs us) {h1 : Heap} {tk : Nat}
    (hns : h1.Ns s.heap.objs.size (fun x => (ps.zip us).reverse.lookup x)) (hk : ∀ b o, s.heap.get? b = some o → h1.get? b = some o) (hcell : K.lookup cc = some ⟨cl, cld, .cell (some (.ref D)), csl⟩) :
    Inv (cxS CX P w K mg base N qual scope f cd cc A outer s H E) [] (L2.start N vs) H { s with heap := h1, toks := tk } := by
  have hpl : ps.length ≤ N.length := by have := congrArg List.length S.pre; rw [List.length_take] at this; omega
  have noA : ∀ b : Addr, b ∉ (cxS CX P w K mg base N qual scope f cd cc A outer s H E).ex := fun b z => absurd (show b ∈ ([] : List Addr) from z) (by simp)
  have bc : base.get? cc = some ⟨cl, cld, .cell (some (.ref D)), csl⟩ := e0.mod.kin _ _ hcell
  have look : ∀ x c, (cxS CX P w K mg base N qual scope f cd cc A outer s H E).env.cells.lookup x = some c → x = "__class__" ∧ c = cc := fun x c h => by
    have h' : List.lookup x [(("__class__" : Str), cc)] = some c := h
    by_cases e : x = "__class__"
    · subst e
      simp [List.lookup] at h'
      exact ⟨rfl, h'.symm⟩
    · have e' : (x == ("__class__" : Str)) = false := by simpa using e
      simp [List.lookup, e'] at h'
  refine ⟨⟨e0.mod, S.kind, rfl, rfl, Nat.le_refl _, fun y z c h1 h2 => ?_, fun y hy => ?_, fun y c q _ => ?_, fun _ => hd, Around.frames_deeper e0.frames, .inr ⟨rfl, rfl⟩, fun b z => absurd z (noA b), e0.bs, e0.bsz, fun b _ _ => noA b, fun b z => absurd z (noA b), e0.funs, e0.frf⟩,
    rfl, e0.bare, Un.kept hk, ⟨_, hns, fun i y v h1 h2 h3 => ?_⟩, fun y c h => ?_, e0.hok.fresh (Nat.le_refl _), fun y c h => ?_, fun p hp => absurd (show p ∈ ([] : List (Addr × Obj)) from hp) (by simp), e0.hok.kept hk, ?_⟩
  · rw [(look _ _ h1).1, (look _ _ h2).1]
  · have hy : scope.names.lookup y = some .cell ∨ scope.names.lookup y = some .free := hy
    rcases hy with hy | hy
    · exact absurd rfl (S.nocell _ (PySem.mem_of_lookup hy))
    · have e : y = "__class__" := S.free _ (PySem.mem_of_lookup hy) rfl
      subst e
      exact ⟨cc, by show List.lookup _ [(("__class__" : Str), cc)] = some cc; simp [List.lookup]⟩
  · exact absurd (show false = true from q) Bool.false_ne_true
  · have hi : i < vs.length := by
      unfold L2.start at h2
      by_cases hi : i < vs.length
      · exact hi
      · rw [List.getElem?_append_right (by simpa using hi)] at h2
        rw [List.getElem?_replicate] at h2
        split at h2 <;> cases h2
    have ha : vs[i]? = some v := by
      unfold L2.start at h2
      rw [List.getElem?_append_left (by simpa using hi), List.getElem?_map] at h2
      cases e : vs[i]? with
      | none => rw [e] at h2; cases h2
      | some a => rw [e] at h2; cases h2; rfl
    obtain ⟨u, hu, rv⟩ := r.get ha
    have hp : ps[i]? = some y := by
      rw [← S.pre, List.getElem?_take_of_lt (by omega)]; exact h1
    have ndP : ps.Nodup := by rw [← S.pre]; exact S.nd.sublist (List.take_sublist _ _)
    exact ⟨u, rv, .inl ⟨S.par y (List.mem_of_getElem? hp), zip_rev ndP hp hu⟩⟩
  · rw [(look _ _ h).2]
    exact ⟨_, _, hk _ _ (e0.bs _ _ bc).1, rfl⟩
  · rw [(look _ _ h).2]
    exact (e0.bs _ _ bc).2
  · unfold L2.start
    show _ = N.length
    rw [List.length_append, List.length_map, List.length_replicate]
    omega
end

/-- what the written part says of the class at C, its own __init__ at f -/
structure SupC (P : Program) (K : PySem.W.Frag) (mg : Str → Option Value) (C f : Addr) (qual : Str) (st : Stmt) (fd : FuncData) : Prop where
  ox : OexC K C
  fn : ∃ (oc : Value) (od : Option Addr) (osl : Array (Option Value)) (dV kV doc pm : Value) (an : Option Addr) (ct : Value) (cda cc : Addr),
    fd = ksFn "__init__" qual (defArgs st) (defBody st) (defScope st) dV kV doc pm an (.ref cda) ct cc ∧ K.lookup f = some ⟨oc, od, .func fd, osl⟩ ∧ codeIn K (.ref cda) qual = true ∧
    (∃ (ccl : Value) (cdd : Option Addr) (vs : Array Value) (ccs : Array (Option Value)) (file : Str) (tf : Tok), K.lookup cda = some ⟨ccl, cdd, .fields vs, ccs⟩ ∧ vs[2]? = some (.str file tf) ∧ ((P.main.file : Str) == file) = true) ∧
    (∃ (cl : Value) (cld : Option Addr) (csl : Array (Option Value)), K.lookup cc = some ⟨cl, cld, .cell (some (.ref C)), csl⟩)
  ini : findIn K (.ref C) "__init__" = some (some (.ref f))
  tyf : typeIn K (.ref f) = some (.type "function")
  mro : mroIn K C (.ref C) = some true
  sup : ks_superIn K C C "__init__" = some (some (.builtin "ValueError.__init__"))
  inV : subIn K (.ref C) (.type "ValueError") = some true
  opq : nsIn K cStatics "thirdparty.any" = some none
  sno : mg "super" = none
  top : (P.main.scope.names.lookup ("super" : Str)).isSome = false
section
variable {CX : CXT} {P : Program} {w : World} {K : PySem.W.Frag} {mg : Str → Option Value} {base : Heap} {N ps : List Str} {qual : Str} {k : Nat} {f C : Addr} {st : Stmt} {fd : FuncData} {sp : Sp} {ar : Arg}
theorem fn_sup (T : SupC P K mg C f qual st fd) (Sc : ScS N ps (defScope st)) {e : Expr} {rest : List Stmt} {p0 p1 p2 p3 p4 : Pos} (hbd : defBody st = .Expr (.Call (.Attribute (.Call (.Name "super" p0) [] [] p1) "__init__" p2) [e] [] p3) p4 :: rest)
    (hp : ((defArgs st).posonlyargs ++ (defArgs st).args).head? = some ar) (hps : ps[0]? = some ar.arg)
    (len : ∀ vs H Q E, sp vs H Q E → vs.length = ps.length)
    (hbody : ∀ (cd : Value) (cc : Addr) (A : Around) (outer : List Env) (s : Shared) (H : Hp) (vs : List V) (Q : VK) (E : XK), Room k (A.deeper (ksEnv qual (defScope st) s.heap.objs.size f cd cc)) → sp vs H Q E →
      ∃ (a : Addr) (ws : List V) (ta : TA) (tr : TS), vs = .ref a :: ws ∧ H a = some (exo a C none) ∧ PA (cxS CX P w K mg base N qual (defScope st) f cd cc A outer s H E) [e] ta ∧ PSs (cxS CX P w K mg base N qual (defScope st) f cd cc A outer s H E) rest tr ∧
        ta (L2.start N vs) H fun us H1 => us.length ≤ 1000 ∧ H1 a = some (exo a C none) ∧ tr { nx := fun _ H' => Q .non H', rt := Q } (L2.start N vs) H1)
    (hst : ∀ (cd : Value) (cc : Addr) (L : Addr), starEach [e] (ksEnv qual (defScope st) L f cd cc) = (false, eval e (ksEnv qual (defScope st) L f cd cc)) :: starEach [] (ksEnv qual (defScope st) L f cd cc) := by intro _ _ _; rfl)
    {pl : Value → Addr → Addr → Sem Bool} (hin : ∀ (cd : Value) (cc : Addr) (L : Addr), interactive (ksEnv qual (defScope st) L f cd cc) = false := by intro _ _ _; rfl)
    (hca : ∀ (cd : Value) (cc : Addr) (L : Addr), eval (.Call (.Attribute (.Call (.Name "super" p0) [] [] p1) "__init__" p2) [e] [] p3) (ksEnv qual (defScope st) L f cd cc) = (do
      let ov ← attributeBase (.Call (.Name "super" p0) [] [] p1) "__init__" (ksEnv qual (defScope st) L f cd cc) (eval (.Call (.Name "super" p0) [] [] p1) (ksEnv qual (defScope st) L f cd cc))
      standAt p2.atName
      let (fv, first) ← holding [ov] (getMethod ov "__init__" (pl cd cc L))
      callWith p3 fv first (backTo p3 (starEach [e] (ksEnv qual (defScope st) L f cd cc))) []) := by intro _ _ _; rfl)
    (hsw : ∀ (cd : Value) (cc : Addr) (L : Addr), swapsWith (.Call (.Attribute (.Call (.Name "super" p0) [] [] p1) "__init__" p2) [e] [] p3) none p4.line (ksEnv qual (defScope st) L f cd cc) = pure false := by intro _ _ _; rfl) :
    FnOk P w K mg base CX (k + 1) f fd ps sp := by
  obtain ⟨oc, od, osl, dV, kV, doc, pm, an, ct, cda, cc, rfl, lk, hcd, ⟨ccl, cdd, vc, ccs, file, tf, hcode, hvs, hfile⟩, cl, cld, csl, hcell⟩ := T.fn
  rw [hbd] at lk ⊢
  refine ⟨len, fun A outer s H args us vs Q E hr e0 hb r hsp => ?_⟩
  have hl := len _ _ _ _ hsp
  have KX : K.In s.heap := e0.mod.kin.keeps fun b o e => (e0.bs b o e).1
  have lim : s.heap.NoLimit := e0.mod.nolimit.keeps fun b o e => (e0.bs b o e).1
  refine ks_codeAny_call_defAt (fd := ksFn "__init__" qual (defArgs st) (.Expr (.Call (.Attribute (.Call (.Name "super" p0) [] [] p1) "__init__" p2) [e] [] p3) p4 :: rest) (defScope st) dV kV doc pm an (.ref cda) ct cc) (binds := ps.zip us) hr.depth (KX _ _ lk) rfl lim (PySem.W.codeRec_of KX hcd) rfl hb Sc.nocell (fun y hy => Sc.par _ (List.of_mem_zip hy).1) (fun h₁ hns hk => ?_) Sc.co Sc.gen Sc.kind
  obtain ⟨a, ws, ta, tr, rfl, ha, hA, hR, h⟩ := hbody (.ref cda) cc A outer s H vs Q E (hr.deeper _) hsp
  have I : Inv (cxS CX P w K mg base N qual (defScope st) f (.ref cda) cc A outer s H E) [] (L2.start N (.ref a :: ws)) H { s with heap := h₁, toks := s.toks + (ps.zip us).length } := inv_sup Sc hr.hd e0 hl r hns hk hcell
  obtain ⟨nm, qn, Nn, bs, bm, sn, sub, ab, col, dd, k0, k1, k2, k3, k5, hC, hbm⟩ := T.ox.cls
  have hcl : clsIn K C = some { name := nm, bases := bs, mro := .ref C :: bm, ns := Nn, qualname := qn, hasDict := true, slotNames := sn, subclasses := sub, abstract := ab, collection := col, hasDel := false } := by unfold clsIn; rw [hC] <;> rfl
  obtain ⟨hh, g, d, tk, os⟩ := s
  have hK1 : K.In h₁ := KX.keeps hk
  obtain ⟨t1, hoe⟩ : ∃ t1 : Addr, h₁.get? a = some ({ cls := .ref C, dict := none, data := .fields #[.ref t1, .none, .none, .none, .bool false, .none] } : Obj) := exo_at I.hok ha
  have hself : (fun x => (ps.zip us).reverse.lookup x) ar.arg = some (.ref a) := by
    have ndP : ps.Nodup := by rw [← Sc.pre]; exact Sc.nd.sublist (List.take_sublist _ _)
    obtain ⟨u, hu, ru⟩ := r.get (i := 0) (x := .ref a) rfl
    obtain rfl : u = Value.ref a := ru
    exact zip_rev ndP hps hu
  have hpar : (defScope st).names.lookup ar.arg = some .local := Sc.par _ (List.mem_of_getElem? hps)
  have bk : ∀ b o, base.get? b = some o → h₁.get? b = some o := I.bk
  obtain ⟨mb, hmb, hbt⟩ := e0.mod.blt
  have hCo : h₁.get? C = some (excClassObj nm qn C Nn bs bm true sn sub ab col dd k0 k1 k2 k3 k5 "ValueError.__new__") := hK1 _ _ hC
  refine ks_wpAt_execs_cons ?_
  refine ks_wpAt_Expr_any (ks_wpAt_MethodCall (ks_wpAt_super_base (env := ksEnv qual (defScope st) hh.objs.size f (.ref cda) cc) Sc.sup Sc.cls (by decide) rfl (hK1 _ _ lk) rfl hp rfl (hK1 _ _ hcode) rfl hvs hfile T.top ?_) (hca _ _ _)) (hin _ _ _) (hsw _ _ _)
  refine ks_loadName_global Sc.kind Sc.sup (loadGlobal_builtin (env := ksEnv qual (defScope st) hh.objs.size f (.ref cda) cc) (e0.mod.glob.keeps bk) T.sno (hmb.keeps bk) ((hbt _ (by decide +kernel)).trans (by decide +kernel)) ⟨rfl, ?_⟩)
  refine wpAny_loadName_free Sc.kind Sc.cls rfl ⟨_, hK1 _ _ hcell, rfl⟩ ?_
  refine wpAny_loadName_local Sc.kind hpar hns hself ?_
  refine ks_wpAny_isType_cls hCo rfl ⟨rfl, ?_⟩
  refine ks_wpAny_call_super hCo rfl hoe rfl (fun c z => by cases z) (looks_mroIn hK1 T.mro) (fun h' hso k' => ?_)
  have K' : K.In h' := hK1.keeps k'
  have I' : InstAt h' a ({ cls := .ref C, dict := none, data := .fields #[.ref t1, .none, .none, .none, .bool false, .none] } : Obj) C none := ⟨k' _ _ hoe, rfl, rfl, trivial⟩
  refine kxs_getMethod kxs_ValueError hso (looks_opaque K' T.opq) (l₀ := .ref C :: bm) (fun A Q E s k q => wpAny_bind ((looks_clsIn K' hcl) A _ E s k (wpAny_pure q))) rfl K' (by have z := T.sup; unfold ks_superIn at z; rw [hcl] at z; exact z) (I'.type.andThen (looks_subIn K' T.inV)) (ks_ne K' I' hcl) (by decide) ?_
  have kk : ∀ b o, h₁.get? b = some o → (h'.push (kxs_mw "ValueError.__init__" a)).get? b = some o := fun b o z => Heap.get?_push_of_some _ (k' b o z)
  have J0 := I.kept (h' := h'.push (kxs_mw "ValueError.__init__" a)) (t' := tk + (ps.zip us).length + 1) kk
  have hu : (h'.push (kxs_mw "ValueError.__init__" a)).get? h'.objs.size = some (kxs_mw "ValueError.__init__" a) := Heap.get?_push_at rfl rfl
  have hge : h₁.objs.size ≤ h'.objs.size := Nat.le_of_lt (Heap.lt_size hso)
  have hun : H h'.objs.size = none := I.hok.fresh hge
  have J1 : Inv (cxS CX P w K mg base N qual (defScope st) f (.ref cda) cc A outer ⟨hh, g, d, tk, os⟩ H E) [(h'.objs.size, kxs_mw "ValueError.__init__" a)] (L2.start N (.ref a :: ws)) H ⟨h'.push (kxs_mw "ValueError.__init__" a), g, d, tk + (ps.zip us).length + 1, os⟩ :=
    J0.pins_of fun p hp => by
      obtain rfl := List.mem_singleton.mp hp
      exact ⟨hu, hun, fun z => absurd (Nat.lt_of_lt_of_le I.lt hge) (by rw [← z]; exact Nat.lt_irrefl _), I.nofs hge, fun v z => by cases z⟩
  show wpAny _ _ (callWith p3 (.ref h'.objs.size) [] (backTo p3 (starEach [e] (ksEnv qual (defScope st) hh.objs.size f (.ref cda) cc))) []) _ _ _
  rw [hst]
  refine kxs_callWith (i := "ValueError.__init__") (x := a) rfl ?_
  refine evalArgs_plain ?_
  have hA' := hA.run p3 _ _ _ _ _ J1 h
  rw [show starEach [e] (cxS CX P w K mg base N qual (defScope st) f (.ref cda) cc A outer ⟨hh, g, d, tk, os⟩ H E).env = _ from hst (.ref cda) cc hh.objs.size] at hA'
  refine thn hA' fun us2 s2 hz => ?_
  obtain ⟨ws2, H1, J, rv, hz1, ea, q⟩ := hz
  have hw := (J.pin (h'.objs.size, kxs_mw "ValueError.__init__" a) (List.mem_append_right _ (List.mem_singleton.mpr rfl))).1
  refine ⟨hw, ?_⟩
  obtain ⟨t2, hoe2⟩ := exo_at J.hok ea
  have hC2 := J.kIn _ _ hC
  have hlen : us2.length ≤ sizeLine := by
    rw [← Paired.length rv, sizeLine_eq]
    omega
  obtain ⟨g2, gg2, dd2, tk2, os2⟩ := s2
  refine wpAny_call (codeAny_of_tree ?_)
  show wpAny _ (Around.in1 _) (callAny (.ref h'.objs.size) ⟨us2, []⟩) _ _ _
  simp only [callAny]
  refine wpAny_bind (wpAny_load hw ?_)
  simp only [kxs_mw, show (Value.type "method-wrapper" == Value.type "method" || Value.type "method-wrapper" == Value.type "builtin_function_or_method" || Value.type "method-wrapper" == Value.type "method-wrapper") = true by decide, if_true]
  refine KFB.if_so (by decide) ?_
  refine wpAny_bind (check_bound_init F.excBase_ValueError.toExcCallFacts hC2 hoe2 rfl ?_)
  refine wpAny_bind (wpAny_pure (wpAny_pure ?_))
  refine ⟨plainId_quiet F.excBase_ValueError.init.plain _, codeAny_builtin F.excBase_ValueError.initEntry ?_⟩
  refine exc_init_tree (cls := .ref C) (t0 := t2) (dv := none) (c2 := .none) (c3 := .none) (b4 := .bool false) hoe2 hlen fun h3 k3 e3 _ => ?_
  have J3 := J.write (t' := tk2) (x := a) (e := a) (o := exo a C none) (by rw [ea]; exact True.intro) (.inl rfl) k3 ⟨_, e3⟩ (exo_ok e3)
  have eu : upd H1 a (exo a C none) = H1 := by
    funext b
    by_cases hb : b = a
    · rw [hb, upd_same, ea]
    · rw [upd_ne hb]
  rw [eu] at J3
  have J4 := J3.pins_of (pins' := []) fun p hp => absurd hp (by simp)
  refine wpAt_of_wpAny (wpAny_mono (hR.run [] _ _ H1 _ J4 q) (fun fl s' hs => ?_) fun e s' hs => hs)
  have fin : ∀ {σ' : L2.St} {H' : Hp} {v : V} {u : Value}, Inv (cxS CX P w K mg base N qual (defScope st) f (.ref cda) cc A outer ⟨hh, g, d, tk, os⟩ H E) [] σ' H' s' → RelV v u → Q v H' → CE outer P w H ⟨hh, g, d, tk, os⟩ Q u s' :=
    fun {σ' H' v u} J rv q => ⟨v, H', J.os, J.bare, J.base, J.hok, rv, q⟩
  cases fl with
  | ret u =>
    obtain ⟨v, σ', H', J, rv, q⟩ := hs
    exact fin J rv q
  | next =>
    obtain ⟨σ', H', J, q⟩ := hs
    exact fin (v := V.non) (u := Value.none) J rfl q
  | brk =>
    obtain ⟨_, _, _, q⟩ := hs
    exact False.elim q
  | cont =>
    obtain ⟨_, _, _, q⟩ := hs
    exact False.elim q
end

/-! ### such an __init__ as a callee: the exception at a, its arguments; its dict's fields are the arguments -/
def spE (K : PySem.W.Frag) (C : Addr) (ok : List D → Prop) (mkf : List V → List (Str × V)) : Sp := fun vs H Q _ => ∃ ds a ws, vs = .ref a :: ws ∧ H a = some (exo a C none) ∧ Reps K H ds ws ∧ ok ds ∧
  ∀ H1 dx, Same H H1 → H1 dx = none → dx ≠ a → Q .non (upd (upd H1 dx (exd dx (mkf ws))) a (exo a C (some dx)))
def mkf1 (x : Str) : List V → List (Str × V)
  | [v] => [(x, v)]
  | _ => []
def mkf2 (x y : Str) : List V → List (Str × V)
  | [v, u] => [(y, u), (x, v)]
  | _ => []
section
variable {P : Program} {w : World} {K : PySem.W.Frag} {mg : Str → Option Value} {base : Heap} {qual : Str} {k : Nat} {f C : Addr} {st : Stmt} {fd : FuncData} {ar : Arg} {ok : List D → Prop}
theorem init1 {y x : Str} {e : Expr} {p0 p1 p2 p3 p4 p5 p6 p7 p8 : Pos} (T : SupC P K mg C f qual st fd) (Sc : ScS [ar.arg, y] [ar.arg, y] (defScope st))
    (hbd : defBody st = [.Expr (.Call (.Attribute (.Call (.Name "super" p0) [] [] p1) "__init__" p2) [e] [] p3) p4, .Assign [.Attribute (.Name ar.arg p5) x p6] (.Name y p7) p8])
    (hp : ((defArgs st).posonlyargs ++ (defArgs st).args).head? = some ar) (hn1 : (ar.arg == ("__debug__" : Str)) = false := by decide) (hn2 : (ar.arg == ("__classdict__" : Str)) = false := by decide) (hn3 : (y == ("__debug__" : Str)) = false := by decide) (hn4 : (y == ("__classdict__" : Str)) = false := by decide)
    (hno : findIn K (.ref C) x = some none) (hok : ∀ ds, ok ds → ds.length = 1)
    (hE : ∀ (cd : Value) (cc : Addr) (A : Around) (outer : List Env) (s : Shared) (H : Hp) (E : XK), Room k (A.deeper (ksEnv qual (defScope st) s.heap.objs.size f cd cc)) →
      ∃ ta, PA (cxS CX0 P w K mg base [ar.arg, y] qual (defScope st) f cd cc A outer s H E) [e] ta ∧ ∀ a ds, ok ds → wpa K WF ta ((D.ref a :: ds).map some) m0 xno fun ds' _ => ds'.length ≤ 1000)
    (hst : ∀ (cd : Value) (cc : Addr) (L : Addr), starEach [e] (ksEnv qual (defScope st) L f cd cc) = (false, eval e (ksEnv qual (defScope st) L f cd cc)) :: starEach [] (ksEnv qual (defScope st) L f cd cc) := by intro _ _ _; rfl)
    {pl : Value → Addr → Addr → Sem Bool} (hin : ∀ (cd : Value) (cc : Addr) (L : Addr), interactive (ksEnv qual (defScope st) L f cd cc) = false := by intro _ _ _; rfl)
    (hca : ∀ (cd : Value) (cc : Addr) (L : Addr), eval (.Call (.Attribute (.Call (.Name "super" p0) [] [] p1) "__init__" p2) [e] [] p3) (ksEnv qual (defScope st) L f cd cc) = (do
      let ov ← attributeBase (.Call (.Name "super" p0) [] [] p1) "__init__" (ksEnv qual (defScope st) L f cd cc) (eval (.Call (.Name "super" p0) [] [] p1) (ksEnv qual (defScope st) L f cd cc))
      standAt p2.atName
      let (fv, first) ← holding [ov] (getMethod ov "__init__" (pl cd cc L))
      callWith p3 fv first (backTo p3 (starEach [e] (ksEnv qual (defScope st) L f cd cc))) []) := by intro _ _ _; rfl)
    (hsw : ∀ (cd : Value) (cc : Addr) (L : Addr), swapsWith (.Call (.Attribute (.Call (.Name "super" p0) [] [] p1) "__init__" p2) [e] [] p3) none p4.line (ksEnv qual (defScope st) L f cd cc) = pure false := by intro _ _ _; rfl) :
    FnOk P w K mg base CX0 (k + 1) f fd [ar.arg, y] (spE K C ok (mkf1 x)) := by
  have len : ∀ vs H Q E, spE K C ok (mkf1 x) vs H Q E → vs.length = [ar.arg, y].length := fun vs H Q E ⟨ds, a, ws, ev, _, rs, hk, _⟩ => by
    rw [ev, List.length_cons, ← rs.length, hok _ hk]
    rfl
  refine fn_sup T Sc hbd hp rfl len (fun cd cc A outer s H vs Q E hr hsp => ?_) hst hin hca hsw
  have hl := len _ _ _ _ hsp
  obtain ⟨ds, a, ws, rfl, ha, rs, hk, q⟩ := hsp
  obtain ⟨ta, hA, hw⟩ := hE cd cc A outer s H E hr
  refine ⟨a, ws, ta, _, rfl, ha, hA, pss_one (ps_ost (pe_var (i := 0) rfl (.inl (Sc.par _ (by simp))) hn1 hn2) (pe_var (i := 1) rfl (.inl (Sc.par _ (by simp))) hn3 hn4)), ?_⟩
  match ws, ds, rs, hl with
  | [v], [d], .cons r1 .nil, _ =>
    refine hw a [d] hk H H _ (.cons (.ref a) (.cons r1 .nil)) (sim0 H) (fun _ _ _ _ _ _ _ z => z.elim) _ fun ds' M' vs' S1 H1 h1 e1 s1 r2 => ?_
    refine ⟨by rw [← r2.length]; exact h1, s1.sub _ _ (e1 _ _ ha), v, rfl, .ref a, rfl, a, C, rfl, T.ox, hno, .inl ⟨s1.sub _ _ (e1 _ _ ha), fun dx n ne => q H1 dx (e1.trans s1.sub) n ne⟩⟩
theorem init2 {y x y' x' : Str} {e : Expr} {p0 p1 p2 p3 p4 p5 p6 p7 p8 p9 p10 p11 p12 : Pos} (T : SupC P K mg C f qual st fd) (Sc : ScS [ar.arg, y, y'] [ar.arg, y, y'] (defScope st))
    (hbd : defBody st = [.Expr (.Call (.Attribute (.Call (.Name "super" p0) [] [] p1) "__init__" p2) [e] [] p3) p4, .Assign [.Attribute (.Name ar.arg p5) x p6] (.Name y p7) p8, .Assign [.Attribute (.Name ar.arg p9) x' p10] (.Name y' p11) p12])
    (hp : ((defArgs st).posonlyargs ++ (defArgs st).args).head? = some ar) (hn1 : (ar.arg == ("__debug__" : Str)) = false := by decide) (hn2 : (ar.arg == ("__classdict__" : Str)) = false := by decide) (hn3 : (y == ("__debug__" : Str)) = false := by decide) (hn4 : (y == ("__classdict__" : Str)) = false := by decide)
    (hn5 : (y' == ("__debug__" : Str)) = false := by decide) (hn6 : (y' == ("__classdict__" : Str)) = false := by decide)
    (hno : findIn K (.ref C) x = some none) (hno' : findIn K (.ref C) x' = some none) (hok : ∀ ds, ok ds → ds.length = 2)
    (hE : ∀ (cd : Value) (cc : Addr) (A : Around) (outer : List Env) (s : Shared) (H : Hp) (E : XK), Room k (A.deeper (ksEnv qual (defScope st) s.heap.objs.size f cd cc)) →
      ∃ ta, PA (cxS CX0 P w K mg base [ar.arg, y, y'] qual (defScope st) f cd cc A outer s H E) [e] ta ∧ ∀ a ds, ok ds → wpa K WF ta ((D.ref a :: ds).map some) m0 xno fun ds' _ => ds'.length ≤ 1000)
    (hst : ∀ (cd : Value) (cc : Addr) (L : Addr), starEach [e] (ksEnv qual (defScope st) L f cd cc) = (false, eval e (ksEnv qual (defScope st) L f cd cc)) :: starEach [] (ksEnv qual (defScope st) L f cd cc) := by intro _ _ _; rfl)
    {pl : Value → Addr → Addr → Sem Bool} (hin : ∀ (cd : Value) (cc : Addr) (L : Addr), interactive (ksEnv qual (defScope st) L f cd cc) = false := by intro _ _ _; rfl)
    (hca : ∀ (cd : Value) (cc : Addr) (L : Addr), eval (.Call (.Attribute (.Call (.Name "super" p0) [] [] p1) "__init__" p2) [e] [] p3) (ksEnv qual (defScope st) L f cd cc) = (do
      let ov ← attributeBase (.Call (.Name "super" p0) [] [] p1) "__init__" (ksEnv qual (defScope st) L f cd cc) (eval (.Call (.Name "super" p0) [] [] p1) (ksEnv qual (defScope st) L f cd cc))
      standAt p2.atName
      let (fv, first) ← holding [ov] (getMethod ov "__init__" (pl cd cc L))
      callWith p3 fv first (backTo p3 (starEach [e] (ksEnv qual (defScope st) L f cd cc))) []) := by intro _ _ _; rfl)
    (hsw : ∀ (cd : Value) (cc : Addr) (L : Addr), swapsWith (.Call (.Attribute (.Call (.Name "super" p0) [] [] p1) "__init__" p2) [e] [] p3) none p4.line (ksEnv qual (defScope st) L f cd cc) = pure false := by intro _ _ _; rfl) :
    FnOk P w K mg base CX0 (k + 1) f fd [ar.arg, y, y'] (spE K C ok (mkf2 x x')) := by
  have len : ∀ vs H Q E, spE K C ok (mkf2 x x') vs H Q E → vs.length = [ar.arg, y, y'].length := fun vs H Q E ⟨ds, a, ws, ev, _, rs, hk, _⟩ => by
    rw [ev, List.length_cons, ← rs.length, hok _ hk]
    rfl
  refine fn_sup T Sc hbd hp rfl len (fun cd cc A outer s H vs Q E hr hsp => ?_) hst hin hca hsw
  have hl := len _ _ _ _ hsp
  obtain ⟨ds, a, ws, rfl, ha, rs, hk, q⟩ := hsp
  obtain ⟨ta, hA, hw⟩ := hE cd cc A outer s H E hr
  refine ⟨a, ws, ta, _, rfl, ha, hA, pss_cons (ps_ost (pe_var (i := 0) rfl (.inl (Sc.par _ (by simp))) hn1 hn2) (pe_var (i := 1) rfl (.inl (Sc.par _ (by simp))) hn3 hn4)) (pss_one (ps_ost (pe_var (i := 0) rfl (.inl (Sc.par _ (by simp))) hn1 hn2) (pe_var (i := 2) rfl (.inl (Sc.par _ (by simp))) hn5 hn6))), ?_⟩
  match ws, ds, rs, hl with
  | [v, u], [d, d'], .cons r1 (.cons r3 .nil), _ =>
    refine hw a [d, d'] hk H H _ (.cons (.ref a) (.cons r1 (.cons r3 .nil))) (sim0 H) (fun _ _ _ _ _ _ _ z => z.elim) _ fun ds' M' vs' S1 H1 h1 e1 s1 r2 => ?_
    refine ⟨by rw [← r2.length]; exact h1, s1.sub _ _ (e1 _ _ ha), v, rfl, .ref a, rfl, a, C, rfl, T.ox, hno, .inl ⟨s1.sub _ _ (e1 _ _ ha), fun dx n ne => ?_⟩⟩
    refine ⟨u, rfl, .ref a, rfl, a, C, rfl, T.ox, hno', .inr ⟨dx, [(x, v)], upd_same, by rw [upd_ne ne, upd_same], by simp, ?_⟩⟩
    have e : upd (upd (upd H1 dx (exd dx [(x, v)])) a (exo a C (some dx))) dx (exd dx [(x', u), (x, v)]) = upd (upd H1 dx (exd dx [(x', u), (x, v)])) a (exo a C (some dx)) := by
      funext b
      by_cases hb : b = dx
      · subst hb
        rw [upd_same, upd_ne ne, upd_same]
      · rw [upd_ne hb]
        by_cases hc : b = a
        · subst hc
          rw [upd_same, upd_same]
        · rw [upd_ne hc, upd_ne hc, upd_ne hb, upd_ne hb]
    show Q .non (upd (upd (upd H1 dx (exd dx [(x, v)])) a (exo a C (some dx))) dx (exd dx [(x', u), (x, v)]))
    rw [e]
    exact q H1 dx (e1.trans s1.sub) n ne
end

/-! ### the call of such a class -/
structure MakE (P : Program) (w : World) (K : PySem.W.Frag) (mg : Str → Option Value) (base : Heap) (k : Nat) (x : Str) (C : Addr) (ok : List D → Prop) (mkf : List V → List (Str × V)) : Prop where
  ex : ∃ f fd ps, OexC K C ∧ findIn K (.ref C) "__init__" = some (some (.ref f)) ∧ typeIn K (.ref f) = some (.type "function") ∧ FnOk P w K mg base CX0 k f fd ps (spE K C ok mkf) ∧ mg x = some (.ref C) ∧ Binds K fd ps []
section
variable {X : Cx} {k : Nat} {x : Str} {C : Addr} {ok : List D → Prop} {mkf : List V → List (Str × V)} {e : Expr} {es : List Expr} {ta : TA} {p pos : Pos}
theorem pmk_E (T : MakE X.prog X.w X.K X.mg X.base k x C ok mkf) (hr : Room (k + 1) X.A) (hg : Gl X x) (ha : PA X (e :: es) ta)
    (hdb : (x == ("__debug__" : Str)) = false := by decide) (he : starEach (e :: es) X.env = (false, eval e X.env) :: starEach es X.env := by rfl) (hpl : (backTo pos (starEach es X.env)).any (·.1) = false := by rfl) :
    PMk X (.Call (.Name x p) (e :: es) [] pos) (tMkO C (spE X.K C ok mkf) [] ta) := by
  obtain ⟨f, fd, ps, ox, ic, tf, F, hm, hb⟩ := T.ex
  exact pmk_oex ox ic tf F hr hb .nil (fun _ _ _ _ _ _ _ z => z.elim) hg hm ha hdb he hpl
end
section
variable {K : PySem.W.Frag} {W : WX} {ρ : List (Option D)} {M : Mem} {E : DE} {ta : TA} {C : Addr} {ok : List D → Prop} {mkf : List V → List (Str × V)} {nm : List Str} {val : List D → List D}
theorem s_mkE (hm : ∀ (S : Hp) ds vs, ok ds → Reps K S ds vs → RepF K S nm (val ds) (mkf vs)) (h : wpa K W ta ρ M (E.ex ρ) fun ds M1 => ok ds ∧ ds.length ≤ 1000 ∧ E.ex ρ (.ref C) nm (val ds) M1) :
    wps K W (fun _ σ H => tMkO C (spE K C ok mkf) [] ta σ H fun cls d H' => W cls d σ H') ρ M E := fun S H σ D' e s im =>
  h S H σ e s (im.ex ρ σ S (Same.refl S) e) _ fun ds M1 vs S1 H1 h1 e1 s1 r1 => by
    obtain ⟨hok, hz, q⟩ := h1
    refine ⟨by rw [← r1.length]; exact hz, fun a ha => ⟨ds, a, vs, by rw [List.append_nil], upd_same, (r1.mono (s1.sub.trans (same_new ha))), hok, fun H2 dx e2 n ne => ?_⟩⟩
    have h1dx : H1 dx = none := Same.free (same_new ha) (Same.free e2 n)
    refine ⟨rfl, dx, mkf vs, upd_same, by rw [upd_ne ne, upd_same], h1dx, ?_⟩
    have key : ∀ b u, H1 b = some u → upd (del (upd (upd H2 dx (exd dx (mkf vs))) a (exo a C (some dx))) a) dx (.xd (mkf vs)) b = some u := fun b u z => by
      have hb : b ≠ dx := ne_of_none z h1dx
      have hc : b ≠ a := ne_of_none z ha
      rw [upd_ne hb, del_ne hc, upd_ne hc, upd_ne hb]
      exact e2 _ _ (same_new ha _ _ z)
    have sm : Sim K (upd S1 dx (.xd (mkf vs))) (upd (del (upd (upd H2 dx (exd dx (mkf vs))) a (exo a C (some dx))) a) dx (.xd (mkf vs))) M1 := by
      refine ⟨fun b u z => ?_, fun b o z => ?_⟩
      · by_cases hb : b = dx
        · subst hb
          rw [upd_same] at z ⊢
          exact z
        · rw [upd_ne hb] at z
          exact key b u (s1.sub _ _ z)
      · obtain ⟨c1, c2⟩ := s1.cells b o z
        obtain ⟨u, hu⟩ := c2.tracked
        exact ⟨by rw [upd_ne (ne_of_none hu h1dx)]; exact c1, c2.stay (same_new (s1.freshS h1dx)) fun v hv => key b v hv⟩
    exact im.ex ρ σ S (Same.refl S) e (.ref C) nm (val ds) M1 (some dx) (upd S1 dx (.xd (mkf vs))) _ q (e1.trans (same_new (s1.freshS h1dx))) sm ⟨mkf vs, upd_same, (hm S1 ds vs hok r1).mono (same_new (s1.freshS h1dx))⟩
theorem mkf1_ok {x : Str} (S : Hp) (ds : List D) (vs : List V) (h : ds.length = 1) (r : Reps K S ds vs) : RepF K S [x] ds (mkf1 x vs) := by
  match ds, vs, h, r with
  | [d], [v], _, .cons r .nil => exact ⟨rfl, .cons r .nil⟩
theorem mkf2_ok {x y : Str} (S : Hp) (ds : List D) (vs : List V) (h : ds.length = 2) (r : Reps K S ds vs) : RepF K S [y, x] ds.reverse (mkf2 x y vs) := by
  match ds, vs, h, r with
  | [d, d'], [v, v'], _, .cons r (.cons r' .nil) => exact ⟨rfl, .cons r' (.cons r .nil)⟩
end
end DA

/-! DT: try/except with the field handed on; targets within targets; calls whose cells are seen as data. -/
namespace DA
open PySem L2 PyProof.Rows
theorem cx_tr {X : Cx} {pn : List (Addr × Obj)} {xe : Value → Shared → Prop} : (X.tr pn xe).K = X.K := rfl
theorem cx_suite {X : Cx} {a : Addr} {pn : List (Addr × Obj)} : (X.suite a pn).K = X.K := rfl
section
variable {K : PySem.W.Frag} {W : WX} {ρ : List (Option D)} {M : Mem} {Ψ : XP} {Φ : DP} {tr : TA} {E : DE} {S H : Hp}
theorem EnvR.len : ∀ {ρ : List (Option D)} {σ : L2.St}, EnvR K S ρ σ → σ.length = ρ.length
  | _, _, .nil => rfl
  | _, _, .skip r => by rw [List.length_cons, List.length_cons, EnvR.len r]
  | _, _, .cons _ r => by rw [List.length_cons, List.length_cons, EnvR.len r]
theorem xf_get {f : Str} {dv : D} : ∀ {ns : List Str} {ds : List D} {fs : List (Str × V)}, RepF K S ns ds fs → (ns.zip ds).lookup f = some dv → ∃ v, fs.lookup f = some v ∧ Rep K S dv v
  | [], _, _, _, h => by simp at h
  | _ :: _, [], _, _, h => by simp at h
  | n :: ns, d :: ds, [], ⟨h1, _⟩, _ => by simp at h1
  | n :: ns, d :: ds, (m, v) :: fs, ⟨h1, h2⟩, h => by
    rw [List.map_cons] at h1 h2
    have h3 := List.cons.inj h1
    have h4 := h3.2
    obtain rfl : m = n := h3.1
    cases h2 with
    | cons r rs =>
      rw [List.zip_cons_cons, List.lookup_cons] at h
      rw [List.lookup_cons]
      cases e : f == m with
      | true =>
        rw [e] at h
        cases h
        exact ⟨v, rfl, r⟩
      | false =>
        rw [e] at h
        exact xf_get (ns := ns) ⟨h4, rs⟩ h
/-- try: .. except x as e: a suite -/
theorem s_try {i : Nat} {c : Value} {tb : WX → TS} {ts : Addr → Value → Option Addr → TS} {Ψb : List (Option D) → XP} (hb : ∀ W1, wps K W1 (tb W1) ρ M { E with ex := Ψb })
    (hx : ∀ ρ' cls ns ds M', Ψb ρ' cls ns ds M' → (PySem.W.exmOne K cls c = some false ∧ E.ex ρ' cls ns ds M') ∨ (PySem.W.exmOne K cls c = some true ∧
      ∀ a d S H σ D', EnvR K S (ρ'.set i (some (.ref a))) σ → Sim K S H M' → ExD K S d ns ds → Imp K W S { E with nx := fun ρ3 M3 => E.nx (ρ3.set i none) M3, bk := fun ρ3 M3 => E.bk (ρ3.set i none) M3, ct := fun ρ3 M3 => E.ct (ρ3.set i none) M3, ex := fun _ => xno } D' → ts a cls d D' σ H)) :
    wps K W (fun D σ H => tb (wAs K c i ts W D) D σ H) ρ M E := fun S H σ D' e s im =>
  hb _ S H σ D' e s ⟨im.nx, im.bk, im.ct, im.rt, fun ρ' σ' S' e1 en cls ns ds M' dd S2 H2 q e2 s2 d2 => by
    rcases hx ρ' cls ns ds M' q with ⟨b, z⟩ | ⟨b, z⟩
    · exact ⟨false, b, fun w => (nomatch w), fun _ => im.ex ρ' σ' S' e1 en cls ns ds M' dd S2 H2 z e2 s2 d2⟩
    · refine ⟨true, b, fun _ a ha => ?_, fun w => (nomatch w)⟩
      have e3 := e1.trans e2
      refine z a dd S2 H2 _ _ ((en.mono e2).set (.ref a) i) s2 d2 ⟨fun ρ3 M3 σ3 S3 H3 q3 e4 n3 s3 => im.nx _ M3 _ S3 H3 q3 (e3.trans e4) (n3.unset i none) s3, fun ρ3 M3 σ3 S3 H3 q3 e4 n3 s3 => im.bk _ M3 _ S3 H3 q3 (e3.trans e4) (n3.unset i none) s3,
        fun ρ3 M3 σ3 S3 H3 q3 e4 n3 s3 => im.ct _ M3 _ S3 H3 q3 (e3.trans e4) (n3.unset i none) s3, im.rt.mono e3, fun _ _ _ _ _ _ _ _ _ _ _ _ w => w.elim⟩⟩
/-- .. return e.f -/
theorem s_tryF {i : Nat} {C : Addr} {f : Str} {tb : WX → TS} {Ψb : List (Option D) → XP} (hb : ∀ W1, wps K W1 (tb W1) ρ M { E with ex := Ψb })
    (hx : ∀ ρ' cls ns ds M', Ψb ρ' cls ns ds M' → i < ρ'.length ∧ cls = .ref C ∧ PySem.W.exmOne K cls (.ref C) = some true ∧ ∃ dv, (ns.zip ds).lookup f = some dv ∧ E.rt dv M') :
    wps K W (fun D σ H => tb (wAs K (.ref C) i (fun a cls d => tRet (tXf a cls d C f (tVar i))) W D) D σ H) ρ M E := by
  refine s_try hb fun ρ' cls ns ds M' q => .inr ?_
  obtain ⟨hi, ec, hm, dv, hl, hr⟩ := hx ρ' cls ns ds M' q
  refine ⟨hm, fun a d S H σ D' en s xd im => ?_⟩
  have hs : i < σ.length := by rw [en.len, List.length_set]; exact hi
  have hg : (ρ'.set i (some (.ref a)))[i]? = some (some (D.ref a)) := by rw [List.getElem?_set_self hi]
  obtain ⟨v, e1, r1⟩ := en.get hg
  cases r1
  cases d with
  | none =>
    obtain ⟨rfl, rfl⟩ := xd
    simp at hl
  | some dd =>
    obtain ⟨fs, hd, rf⟩ := xd
    obtain ⟨v, hv, rv⟩ := xf_get rf hl
    exact ⟨_, e1, rfl, ec, dd, fs, v, rfl, s.sub _ _ hd, hv, im.rt dv M' v S H hr (Same.refl S) s rv⟩

/-! ### targets -/
variable {Ω : EP'}
theorem g_consG {g : TG} {us : TGs} {d : D} {ds : List D} (q : wpg K WF g d ρ M xno fun ρ' M' => wpgs K WF us ds ρ' M' xno Ω) : wpgs K W (gCons g us) (d :: ds) ρ M Ψ Ω := fun S H σ vs e s x r Q k => by
  cases r with
  | cons r1 r2 => exact ⟨_, _, rfl, q S H σ _ e s xf r1 _ fun ρ' M' σ' S' H' z e1 en s1 => z S' H' σ' _ en s1 xf (r2.mono e1) Q fun ρ2 M2 σ2 S2 H2 z2 e2 => k ρ2 M2 σ2 S2 H2 z2 (e1.trans e2)⟩
variable {vs : List Nat}
theorem gl_consG {g : TG} {us : TGs} {d : D} {ds : List D} (q : wpgl K vs g d ρ M fun ρ' M' => wpgls K vs us ds ρ' M' Ω) : wpgls K vs (gCons g us) (d :: ds) ρ M Ω := fun S H σ ws e s r Q k => by
  cases r with
  | cons r1 r2 => exact ⟨_, _, rfl, q S H σ _ e s r1 _ fun ρ' M' σ' S' H' z b e1 en s1 => z S' H' σ' _ en s1 (r2.mono e1) Q fun ρ2 M2 σ2 S2 H2 z2 b2 e2 => k ρ2 M2 σ2 S2 H2 z2 (b2.trans b) (e1.trans e2)⟩

/-! ### calls: the cells seen as data -/
theorem Reps.scal {S' : Hp} : ∀ {ds : List D} {vs : List V}, ds.all isScal = true → Reps K S ds vs → Reps K S' ds vs
  | _, _, _, .nil => .nil
  | _, _, h, .cons r t => by
    rw [List.all_cons, Bool.and_eq_true] at h
    exact .cons (r.scal h.1) (Reps.scal h.2 t)
/-- what such a callee hands back: a scalar; a new list of scalars -/
def CallN (Φ : DP) (M : Mem) : DP := fun d N => (isScal d = true ∧ Φ d M) ∨ ∃ p xs, d = .ref p ∧ N p = some (.lst xs) ∧ xs.all isScal = true ∧ NewL Φ M xs
def CallNX (Ψ : XP) (M : Mem) : XP := fun cls ns fs _ => fs.all isScal = true ∧ Ψ cls ns fs M
theorem e_callN {R : RD} (h : wpa K W tr ρ M Ψ fun ds M1 => ∃ es, Vws M1 ds es ∧ R es m0 (CallN Φ M1) (CallNX Ψ M1)) : wpe K W (tCallS (spD K R) (WE W) tr) ρ M Ψ Φ := fun S H σ e s x Q k =>
  h S H σ e s x _ fun ds M1 vs S1 H1 h1 e1 s1 r1 => by
    obtain ⟨es, hv, hR⟩ := h1
    refine ⟨H1, m0, es, _, _, sim0 H1, hv.rep s1 r1, hR, fun d M' v S' H' q e2 s2 r2 => ?_, fun cls ns fs M' dd S' H' q e2 s2 xd => ?_⟩
    · rcases q with ⟨q1, q2⟩ | ⟨p, xs, rfl, hp, hs, hn⟩
      · exact k d M1 v S1 H' q2 e1 (s1.up (e2.trans s2.sub)) (r2.scal q1)
      · cases r2
        obtain ⟨hp1, us, hu, ru⟩ := s2.cells _ _ hp
        have hf : H1 p = none := e2.free hp1
        have sm := s1.up (e2.trans s2.sub)
        have ru' : Reps K S1 xs us := ru.scal hs
        cases hn with
        | imm q =>
          have en : Same S1 (upd S1 p (.lst us)) := same_new (s1.freshS hf)
          refine k (.lst xs) M1 _ (upd S1 p (.lst us)) H' q (e1.trans en) ⟨fun b o z => ?_, fun b o z => ?_⟩ (.lst upd_same (ru'.mono en))
          · by_cases hb : b = p
            · subst hb
              rw [upd_same] at z
              rw [hu]
              exact z
            · rw [upd_ne hb] at z
              exact sm.sub _ _ z
          · obtain ⟨c1, c2⟩ := sm.cells b o z
            have hb : b ≠ p := mne z (s1.fresh hf)
            exact ⟨by rw [upd_ne hb]; exact c1, c2.stay en fun _ w => w⟩
        | cell q =>
          refine k (.ref p) _ _ S1 H' (q p (s1.fresh hf)) e1 ⟨sm.sub, fun b o z => ?_⟩ (.ref p)
          by_cases hb : b = p
          · subst hb
            rw [mup_same] at z
            cases z
            exact ⟨s1.freshS hf, us, hu, ru'⟩
          · rw [mup_ne hb] at z
            exact sm.cells b o z
    · obtain ⟨q1, q2⟩ := q
      cases dd with
      | none => exact x cls ns fs M1 none S1 H' q2 e1 (s1.up (e2.trans s2.sub)) xd
      | some dx =>
        obtain ⟨gs, hd, rf⟩ := xd
        have sm := s1.up (e2.trans s2.sub)
        have es1 : Same S1 (upd S1 dx (.xd gs)) := fun b o z => by
          by_cases hb : b = dx
          · subst hb
            have := e2 _ _ (s1.sub _ _ z)
            rw [hd] at this
            rw [upd_same]
            exact this
          · rw [upd_ne hb]
            exact z
        refine x cls ns fs M1 (some dx) (upd S1 dx (.xd gs)) H' q2 (e1.trans es1) ⟨fun b o z => ?_, fun b o z => ?_⟩ ⟨gs, upd_same, rf.1, rf.2.scal q1⟩
        · by_cases hb : b = dx
          · subst hb
            rw [upd_same] at z
            cases z
            exact s2.sub _ _ hd
          · rw [upd_ne hb] at z
            exact sm.sub _ _ z
        · obtain ⟨c1, c2⟩ := sm.cells b o z
          have hb : b ≠ dx := by
            rintro rfl
            obtain ⟨c3, c4⟩ := s1.cells b o z
            cases o with
            | lst ds => obtain ⟨_, w, _⟩ := c4; have := e2 _ _ w; rw [hd] at this; cases this
            | dic kvs => obtain ⟨_, w, _⟩ := c4; have := e2 _ _ w; rw [hd] at this; cases this
            | ins C ns ds => obtain ⟨_, _, w, _⟩ := c4; have := e2 _ _ w; rw [hd] at this; cases this
          exact ⟨by rw [upd_ne hb]; exact c1, c2.stay es1 fun _ w => w⟩
end
end DA
namespace DA
open PySem L2 PyProof.Rows
theorem MakE.mg {P : Program} {w : World} {K : PySem.W.Frag} {mg : Str → Option Value} {base : Heap} {k : Nat} {x : Str} {C : Addr} {ok : List D → Prop} {mkf : List V → List (Str × V)} (T : MakE P w K mg base k x C ok mkf) : mg x = some (.ref C) := by
  obtain ⟨_, _, _, _, _, _, _, h, _⟩ := T.ex
  exact h
/-- a field of an exception in a suite -/
structure XfOk (K : PySem.W.Frag) (C : Addr) (f : Str) : Prop where
  c : XfC K C
  no : PySem.W.findIn K (.ref C) f = some none
  te : PySem.W.exmOne K (.ref C) (.ref C) = some true
end DA

/-! DU: == of data. -/
namespace DA
open PySem L2 PyProof.Rows
mutual
def toP : D → PyData
  | .non => .none
  | .bl b => .bool b
  | .int i => .int i
  | .str x => .str x
  | .lst ds => .list (toPs ds)
  | .tup ds => .tuple (toPs ds)
  | .scr ds => .list (toPs ds)
  | .ref _ => .none
  | .ty _ => .none
  | .ins _ _ _ => .none
def toPs : List D → List PyData
  | [] => []
  | d :: r => toP d :: toPs r
end
mutual
/-- data, its texts sound, at most n deep -/
def okd : Nat → D → Bool
  | _, .non => true
  | _, .bl _ => true
  | _, .int _ => true
  | _, .str x => PyData.strOk x
  | n, .lst ds => decide (0 < n) && okds (n - 1) ds
  | n, .tup ds => decide (0 < n) && okds (n - 1) ds
  | _, .scr _ => false
  | _, .ref _ => false
  | _, .ty _ => false
  | _, .ins _ _ _ => false
def okds : Nat → List D → Bool
  | _, [] => true
  | n, d :: r => okd n d && okds n r
end
mutual
/-- .. without bools -/
def cln : D → Bool
  | .bl _ => false
  | .lst ds => clns ds
  | .tup ds => clns ds
  | .scr _ => false
  | .ref _ => false
  | .ty _ => false
  | .ins _ _ _ => false
  | _ => true
def clns : List D → Bool
  | [] => true
  | d :: r => cln d && clns r
end
mutual
theorem pv_d (M : Mem) : ∀ {n : Nat} {d : D}, okd n d = true → Pv M d (toP d)
  | _, .non, _ => .non
  | _, .bl b, _ => .bl b
  | _, .int i, _ => .int i
  | _, .str x, _ => .str x
  | n, .lst ds, h => by
    unfold okd at h
    rw [Bool.and_eq_true] at h
    exact .lst (pvs_d M h.2)
  | n, .tup ds, h => by
    unfold okd at h
    rw [Bool.and_eq_true] at h
    exact .tup (pvs_d M h.2)
  | _, .scr _, h => by unfold okd at h; cases h
  | _, .ref _, h => by unfold okd at h; cases h
  | _, .ty _, h => by unfold okd at h; cases h
  | _, .ins _ _ _, h => by unfold okd at h; cases h
theorem pvs_d (M : Mem) : ∀ {n : Nat} {ds : List D}, okds n ds = true → Pvs M ds (toPs ds)
  | _, [], _ => .nil
  | n, d :: r, h => by
    unfold okds at h
    rw [Bool.and_eq_true] at h
    exact .cons (pv_d M h.1) (pvs_d M h.2)
end
mutual
theorem pv_of {M : Mem} : ∀ {x d : D}, Vw M x d → ∀ {n : Nat}, okd n d = true → Pv M x (toP d)
  | _, _, .same d, n, h => pv_d M h
  | _, _, .lst r, n, h => by
    unfold okd at h
    rw [Bool.and_eq_true] at h
    exact .lst (pvs_of r h.2)
  | _, _, .tup r, n, h => by
    unfold okd at h
    rw [Bool.and_eq_true] at h
    exact .tup (pvs_of r h.2)
  | _, _, .cell e r, n, h => by
    unfold okd at h
    rw [Bool.and_eq_true] at h
    exact .cell e (pvs_of r h.2)
theorem pvs_of {M : Mem} : ∀ {xs ds : List D}, Vws M xs ds → ∀ {n : Nat}, okds n ds = true → Pvs M xs (toPs ds)
  | _, _, .nil, _, _ => .nil
  | _, _, .cons h r, n, q => by
    unfold okds at q
    rw [Bool.and_eq_true] at q
    exact .cons (pv_of h q.1) (pvs_of r q.2)
end
mutual
theorem okd_lay : ∀ {n : Nat} {d : D}, okd n d = true → PyData.canLay0 (toP d) = true ∧ PyData.depth (toP d) ≤ n
  | n, .non, _ => by simp [toP, PyData.canLay0, PyData.depth]
  | n, .bl _, _ => by simp [toP, PyData.canLay0, PyData.depth]
  | n, .int _, _ => by simp [toP, PyData.canLay0, PyData.depth]
  | n, .str x, h => by
    unfold okd at h
    simp [toP, PyData.canLay0, PyData.depth, h]
  | n, .lst ds, h => by
    unfold okd at h
    rw [Bool.and_eq_true] at h
    have q := okds_lay h.2
    have z := of_decide_eq_true h.1
    simp only [toP, PyData.canLay0, PyData.depth]
    exact ⟨q.1, by omega⟩
  | n, .tup ds, h => by
    unfold okd at h
    rw [Bool.and_eq_true] at h
    have q := okds_lay h.2
    have z := of_decide_eq_true h.1
    simp only [toP, PyData.canLay0, PyData.depth]
    exact ⟨q.1, by omega⟩
  | _, .scr _, h => by unfold okd at h; cases h
  | _, .ref _, h => by unfold okd at h; cases h
  | _, .ty _, h => by unfold okd at h; cases h
  | _, .ins _ _ _, h => by unfold okd at h; cases h
theorem okds_lay : ∀ {n : Nat} {ds : List D}, okds n ds = true → PyData.canLayAll0 (toPs ds) = true ∧ PyData.depthAll (toPs ds) ≤ n
  | n, [], _ => by simp [toPs, PyData.canLayAll0, PyData.depthAll]
  | n, d :: r, h => by
    unfold okds at h
    rw [Bool.and_eq_true] at h
    have q1 := okd_lay h.1
    have q2 := okds_lay h.2
    simp only [toPs, PyData.canLayAll0, PyData.depthAll, q1.1, q2.1]
    exact ⟨rfl, by omega⟩
end
theorem shaped_d {n : Nat} {d : D} (h : okd n d = true) (hn : n ≤ 64) : SeqAt.shaped (toP d) = true := by
  obtain ⟨a, b⟩ := okd_lay h
  unfold SeqAt.shaped
  rw [a, decide_eq_true (Nat.le_trans b hn)]
  rfl
mutual
theorem eqv_self : ∀ {n : Nat} {d : D}, okd n d = true → PyData.eqv (toP d) (toP d) = true
  | _, .non, _ => by simp [toP, PyData.eqv]
  | _, .bl _, _ => by simp [toP, PyData.eqv]
  | _, .int _, _ => by simp [toP, PyData.eqv]
  | _, .str _, _ => by simp [toP, PyData.eqv]
  | n, .lst ds, h => by
    unfold okd at h
    rw [Bool.and_eq_true] at h
    simp only [toP, PyData.eqv]
    exact eqvs_self h.2
  | n, .tup ds, h => by
    unfold okd at h
    rw [Bool.and_eq_true] at h
    simp only [toP, PyData.eqv]
    exact eqvs_self h.2
  | _, .scr _, h => by unfold okd at h; cases h
  | _, .ref _, h => by unfold okd at h; cases h
  | _, .ty _, h => by unfold okd at h; cases h
  | _, .ins _ _ _, h => by unfold okd at h; cases h
theorem eqvs_self : ∀ {n : Nat} {ds : List D}, okds n ds = true → PyData.eqvAll (toPs ds) (toPs ds) = true
  | _, [], _ => by simp [toPs, PyData.eqvAll]
  | n, d :: r, h => by
    unfold okds at h
    rw [Bool.and_eq_true] at h
    simp only [toPs, PyData.eqvAll, eqv_self h.1, eqvs_self h.2]
    rfl
end
mutual
theorem eqv_cln : ∀ {d e : D}, cln d = true → cln e = true → (PyData.eqv (toP d) (toP e) = true ↔ d = e)
  | .non, e, _, h => by cases e <;> simp_all [toP, PyData.eqv, cln]
  | .int _, e, _, h => by cases e <;> simp_all [toP, PyData.eqv, cln]
  | .str _, e, _, h => by cases e <;> simp_all [toP, PyData.eqv, cln]
  | .lst ds, e, h1, h2 => by
    cases e with
    | lst es =>
      simp only [toP, PyData.eqv, D.lst.injEq]
      unfold cln at h1 h2
      exact eqvs_cln h1 h2
    | _ => first | (simp [toP, PyData.eqv]; done) | (unfold cln at h2; cases h2)
  | .tup ds, e, h1, h2 => by
    cases e with
    | tup es =>
      simp only [toP, PyData.eqv, D.tup.injEq]
      unfold cln at h1 h2
      exact eqvs_cln h1 h2
    | _ => first | (simp [toP, PyData.eqv]; done) | (unfold cln at h2; cases h2)
  | .bl _, _, h, _ => by unfold cln at h; cases h
  | .scr _, _, h, _ => by unfold cln at h; cases h
  | .ref _, _, h, _ => by unfold cln at h; cases h
  | .ty _, _, h, _ => by unfold cln at h; cases h
  | .ins _ _ _, _, h, _ => by unfold cln at h; cases h
theorem eqvs_cln : ∀ {ds es : List D}, clns ds = true → clns es = true → (PyData.eqvAll (toPs ds) (toPs es) = true ↔ ds = es)
  | [], [], _, _ => by simp [toPs, PyData.eqvAll]
  | [], _ :: _, _, _ => by simp [toPs, PyData.eqvAll]
  | _ :: _, [], _, _ => by simp [toPs, PyData.eqvAll]
  | d :: r, e :: s, h1, h2 => by
    unfold clns at h1 h2
    rw [Bool.and_eq_true] at h1 h2
    simp only [toPs, PyData.eqvAll, Bool.and_eq_true, List.cons.injEq]
    rw [eqv_cln h1.1 h2.1, eqvs_cln h1.2 h2.2]
end
section
variable {K : PySem.W.Frag} {M : Mem} {Φ : DP} {x y d e : D} {b : Bool} {n m : Nat}
theorem bool_of {p : Bool} (h1 : p = true ↔ d = e) (h2 : b = true ↔ d = e) : p = b := by
  rw [Bool.eq_iff_iff]
  exact h1.trans h2.symm
theorem o_eqSame (hx : Vw M x d) (hy : Vw M y d) (h : okd n d = true) (hn : n ≤ 64) (z : Φ (.bl true) M) : wp2 K (rEqU K) x y M Φ := o_eqD (pv_of hx h) (pv_of hy h) (shaped_d h hn) (shaped_d h hn) (eqv_self h) z
theorem o_neSame (hx : Vw M x d) (hy : Vw M y d) (h : okd n d = true) (hn : n ≤ 64) (z : Φ (.bl false) M) : wp2 K (rNeU K) x y M Φ := o_neD (pv_of hx h) (pv_of hy h) (shaped_d h hn) (shaped_d h hn) (by rw [eqv_self h]; rfl) z
theorem o_eqC (hx : Vw M x d) (hy : Vw M y e) (h1 : okd n d = true) (h2 : okd m e = true) (hn : n ≤ 64) (hm : m ≤ 64) (c1 : cln d = true) (c2 : cln e = true) (hb : b = true ↔ d = e) (z : Φ (.bl b) M) : wp2 K (rEqU K) x y M Φ :=
  o_eqD (pv_of hx h1) (pv_of hy h2) (shaped_d h1 hn) (shaped_d h2 hm) (bool_of (eqv_cln c1 c2) hb) z
theorem o_neC (hx : Vw M x d) (hy : Vw M y e) (h1 : okd n d = true) (h2 : okd m e = true) (hn : n ≤ 64) (hm : m ≤ 64) (c1 : cln d = true) (c2 : cln e = true) (hb : b = true ↔ d = e) (z : Φ (.bl (!b)) M) : wp2 K (rNeU K) x y M Φ :=
  o_neD (pv_of hx h1) (pv_of hy h2) (shaped_d h1 hn) (shaped_d h2 hm) (by rw [bool_of (eqv_cln c1 c2) hb]) z
end
theorem atI_map {α : Type} {f : α → D} {l : List α} {k : Nat} {x : α} (h : l[k]? = some x) : L2.atI (l.map f) (k : Int) = some (f x) := atI_nat (by rw [List.getElem?_map, h]; rfl)
theorem pe_cast {X : Cx} {e : Expr} {t' t : TE} (h : PE X e t') (q : t' = t) : PE X e t := q ▸ h
theorem pss_cast {X : Cx} {b : List Stmt} {t' t : TS} (h : PSs X b t') (q : t' = t) : PSs X b t := q ▸ h
theorem pts_cast {X : Cx} {es : List Expr} {t' t : TT} (h : PTs X es t') (q : t' = t) : PTs X es t := q ▸ h
theorem pg_cast {X : Cx} {e : Expr} {t' t : TG} (h : PG X e t') (q : t' = t) : PG X e t := q ▸ h
theorem cut_at {α : Type} (f : α → D) (ws : List α) (k n : Nat) : DA.cutD (ws.map f) (some (k : Int)) (some ((k : Int) + (n : Int))) = ((ws.drop k).take n).map f := by
  unfold DA.cutD
  rw [show ((k : Int) + (n : Int)) = ((k + n : Nat) : Int) by omega, HT.sIx_nat, HT.sIx_nat, List.length_map, List.map_take, List.map_drop]
  by_cases h : k ≤ ws.length
  · rw [Nat.min_eq_left h]
    by_cases h2 : k + n ≤ ws.length
    · rw [Nat.min_eq_left h2, show k + n - k = n by omega]
    · rw [Nat.min_eq_right (by omega)]
      rw [List.take_of_length_le (by rw [List.length_drop, List.length_map]; omega), List.take_of_length_le (by rw [List.length_drop, List.length_map]; omega)]
  · rw [Nat.min_eq_right (by omega), Nat.min_eq_right (by omega), Nat.sub_self, List.take_zero, List.drop_eq_nil_of_le (as := List.map f ws) (i := k) (by rw [List.length_map]; omega), List.take_nil]
theorem cut_to {α : Type} (f : α → D) (ws : List α) (n : Nat) : DA.cutD (ws.map f) none (some (n : Int)) = (ws.take n).map f := by
  unfold DA.cutD
  rw [HT.sIx_nat, HT.sIx_none, List.length_map, List.map_take, List.drop_zero, Nat.sub_zero]
  by_cases h : n ≤ ws.length
  · rw [Nat.min_eq_left h]
  · rw [Nat.min_eq_right (by omega), List.take_of_length_le (by rw [List.length_map]; omega), List.take_of_length_le (by rw [List.length_map]; omega)]
theorem cut_from {α : Type} (f : α → D) (ws : List α) (n : Nat) : DA.cutD (ws.map f) (some (n : Int)) none = (ws.drop n).map f := by
  unfold DA.cutD
  rw [HT.sIx_nat, HT.sIx_none, List.length_map, List.map_drop]
  by_cases h : n ≤ ws.length
  · rw [Nat.min_eq_left h, List.take_of_length_le (by rw [List.length_drop, List.length_map]; omega)]
  · rw [Nat.min_eq_right (by omega), Nat.sub_self, List.take_zero, List.drop_eq_nil_of_le (by rw [List.length_map]; omega)]
theorem cut_from2 {α : Type} (f : α → D) (ws : List α) (k n : Nat) : DA.cutD (ws.map f) (some ((k : Int) + (n : Int))) none = (ws.drop (k + n)).map f := by
  rw [show ((k : Int) + (n : Int)) = ((k + n : Nat) : Int) by omega, cut_from]
theorem atI_in {xs : List D} {v m : Int} (hm : m = (xs.length : Int)) (h0 : 0 < m) (hv : 0 ≤ v) : ∃ d, L2.atI xs (v.fmod m) = some d ∧ d ∈ xs := by
  have h1 : 0 ≤ v.fmod m := by rw [Int.fmod_eq_emod_of_nonneg _ (by omega)]; exact Int.emod_nonneg _ (by omega)
  have h2 : v.fmod m < m := by rw [Int.fmod_eq_emod_of_nonneg _ (by omega)]; exact Int.emod_lt_of_pos _ h0
  obtain ⟨j, hj⟩ := Int.eq_ofNat_of_zero_le h1
  have h3 : j < xs.length := by omega
  refine ⟨xs[j], ?_, List.getElem_mem _⟩
  rw [hj]
  exact atI_nat (List.getElem?_eq_getElem h3)
theorem o_ixMod {K : PySem.W.Frag} {M : Mem} {Φ : DP} {x : D} {xs : List D} {v m : Int} (l : Sv M x xs) (hm : m = (xs.length : Int)) (h0 : 0 < m) (hv : 0 ≤ v) (q : ∀ d, d ∈ xs → Φ d M) : wp2 K (rIx K) x (.int (v.fmod m)) M Φ := by
  obtain ⟨d, h, hd⟩ := atI_in hm h0 hv
  exact o_ix l h (q d hd)
theorem valD_put {β : Type} (k k' : Key) (v : β) : ∀ kvs : List (Key × β), valD (putD kvs k v) k' = if k' = k then some v else valD kvs k' := fun kvs => by
  unfold putD
  by_cases h : (kvs.any fun kv => decide (kv.1 = k)) = true
  · rw [if_pos h]
    induction kvs with
    | nil => simp at h
    | cons p r ih =>
      obtain ⟨a, b⟩ := p
      rw [List.map_cons]
      by_cases ha : a = k
      · subst ha
        by_cases hk : k' = a
        · subst hk
          simp [valD]
        · have e1 : ∀ l : List (Key × β), valD (l.map fun kv => if kv.1 = a then (kv.1, v) else kv) k' = valD l k' := fun l => by
            induction l with
            | nil => rfl
            | cons q l ih2 =>
              obtain ⟨c, d⟩ := q
              unfold valD at ih2 ⊢
              rw [List.map_cons]
              by_cases hc : c = a
              · subst hc
                simp only [if_true, List.find?_cons, show decide (c = k') = false from decide_eq_false (Ne.symm hk)]
                exact ih2
              · simp only [hc, if_false, List.find?_cons]
                by_cases hd : c = k'
                · simp [hd]
                · simp only [show decide (c = k') = false from decide_eq_false hd]
                  exact ih2
          rw [if_neg hk, if_pos rfl]
          have := e1 r
          unfold valD at this ⊢
          simp only [List.find?_cons, show decide (a = k') = false from decide_eq_false (Ne.symm hk)]
          exact this
      · have h2 : (r.any fun kv => decide (kv.1 = k)) = true := by
          rw [List.any_cons] at h
          simpa [ha] using h
        have ih2 := ih h2
        rw [if_neg ha]
        unfold valD at ih2 ⊢
        simp only [List.find?_cons]
        by_cases hd : a = k'
        · subst hd
          simp [ha]
        · simp only [show decide (a = k') = false from decide_eq_false hd]
          exact ih2
  · rw [if_neg h]
    have hn : kvs.find? (fun kv => decide (kv.1 = k)) = none := by
      rw [List.find?_eq_none]
      intro x hx hx2
      exact h (List.any_eq_true.mpr ⟨x, hx, hx2⟩)
    unfold valD
    rw [List.find?_append]
    by_cases hk : k' = k
    · subst hk
      rw [hn, if_pos rfl]
      simp
    · rw [if_neg hk]
      simp only [List.find?_cons, show decide (k = k') = false from decide_eq_false (Ne.symm hk), List.find?_nil, Option.or_none]
theorem putD_len {β : Type} (k : Key) (v : β) (kvs : List (Key × β)) : (putD kvs k v).length ≤ kvs.length + 1 := by
  unfold putD
  by_cases h : (kvs.any fun kv => decide (kv.1 = k)) = true
  · rw [if_pos h, List.length_map]
    omega
  · rw [if_neg h, List.length_append]
    simp
theorem cm_mod {x m : Int} (h : 0 < m) (h2 : m ≤ 2 ^ 64) : -(2 ^ 64) < x.fmod m ∧ x.fmod m < 2 ^ 64 := by
  have h1 : 0 ≤ x.fmod m := by rw [Int.fmod_eq_emod_of_nonneg _ (by omega)]; exact Int.emod_nonneg _ (by omega)
  have h3 : x.fmod m < m := by rw [Int.fmod_eq_emod_of_nonneg _ (by omega)]; exact Int.emod_lt_of_pos _ h
  exact ⟨by omega, by omega⟩
theorem mod_rng {x m : Int} (h : 0 < m) : 0 ≤ x.fmod m ∧ x.fmod m < m := by
  rw [Int.fmod_eq_emod_of_nonneg _ (by omega)]
  exact ⟨Int.emod_nonneg _ (by omega), Int.emod_lt_of_pos _ h⟩
theorem mod_nat {v : Int} {m : Int} (hm : 0 < m) : ∃ j : Nat, v.fmod m = j ∧ (j : Int) < m := by
  obtain ⟨h1, h2⟩ := mod_rng (x := v) hm
  obtain ⟨j, hj⟩ := Int.eq_ofNat_of_zero_le h1
  exact ⟨j, hj, by omega⟩
theorem nth_mem {xs : List D} {i : Nat} (h : i < xs.length) : nth xs i ∈ xs := List.mem_of_getElem? (nth_get h)
theorem mup_self {M : Mem} {a : Addr} {o : MO} (h : M a = some o) : mup M a o = M := by
  funext b
  by_cases e : b = a
  · rw [e, mup_same, h]
  · rw [mup_ne e]
theorem call_intU {X : Cx} : CallR X (.type "int") rIntU := call_int1
theorem mup3 {M : Mem} {a p : Addr} {x y u : MO} (h : a ≠ p) : mup (mup (mup M a x) p u) a y = mup (mup M a y) p u := by
  rw [mup_comm (Ne.symm h), mup_mup]
/-! numbers in texts -/
def NumOk (i : Int) : Prop := i = -1 ∨ (0 ≤ i ∧ i < 10 ^ 10)
theorem NumOk.len {i : Int} (h : NumOk i) : (Str.ofString (toString i)).length ≤ 10 := by
  rcases h with rfl | ⟨h1, h2⟩
  · decide +kernel
  · exact toString_length_le h1 (by decide) h2
theorem NumOk.log {i : Int} (h : NumOk i) : i.natAbs.log2 < 1920 := by
  have : i.natAbs < 2 ^ 1920 := by
    have h3 : i.natAbs < 10 ^ 10 := by rcases h with rfl | ⟨h1, h2⟩ <;> omega
    exact Nat.lt_trans h3 (by decide +kernel)
  by_cases z : i.natAbs = 0
  · rw [z]
    decide
  · exact (Nat.log2_lt z).mpr this
theorem NumOk.nat {n : Nat} (h : n < 10 ^ 10) : NumOk (n : Int) := .inr ⟨by omega, by omega⟩
/-! lists of data by map -/
theorem okds_map {α : Type} {f : α → D} {n : Nat} : ∀ {l : List α}, (∀ a ∈ l, okd n (f a) = true) → okds n (l.map f) = true
  | [], _ => by simp [okds]
  | a :: r, h => by
    simp only [List.map_cons, okds, h a List.mem_cons_self, okds_map (l := r) fun b hb => h b (List.mem_cons_of_mem _ hb)]
    rfl
theorem clns_map {α : Type} {f : α → D} : ∀ {l : List α}, (∀ a ∈ l, cln (f a) = true) → clns (l.map f) = true
  | [], _ => by simp [clns]
  | a :: r, h => by
    simp only [List.map_cons, clns, h a List.mem_cons_self, clns_map (l := r) fun b hb => h b (List.mem_cons_of_mem _ hb)]
    rfl
theorem map_inj {α β : Type} {f : α → β} (hf : ∀ a b, f a = f b → a = b) : ∀ {l m : List α}, l.map f = m.map f → l = m
  | [], [], _ => rfl
  | [], _ :: _, h => by simp at h
  | _ :: _, [], h => by simp at h
  | a :: l, b :: m, h => by
    rw [List.map_cons, List.map_cons, List.cons.injEq] at h
    rw [hf _ _ h.1, map_inj hf h.2]
end DA

namespace K64
open PySem L2 PyProof.Rows DA
local macro_rules | `(tactic| walk_at "isi") => `(tactic| first
  | ((with_reducible show wpn _ _ [(.non : D), _] _ _); first | with_reducible refine c_isi .non kt_NoneType_int ?_ | with_reducible refine c_isi .non kt_NoneType_bool ?_ | with_reducible refine c_isi .non kt_NoneType_str ?_ | with_reducible refine c_isi .non kt_NoneType_tuple ?_ | with_reducible refine c_isi .non kt_NoneType_list ?_ | with_reducible refine c_isi .non kt_NoneType_dict ?_ )
  | ((with_reducible show wpn _ _ [(.bl _ : D), _] _ _); first | with_reducible refine c_isi (.bl _) kt_bool_int ?_ | with_reducible refine c_isi (.bl _) kt_bool_bool ?_ | with_reducible refine c_isi (.bl _) kt_bool_str ?_ | with_reducible refine c_isi (.bl _) kt_bool_tuple ?_ | with_reducible refine c_isi (.bl _) kt_bool_list ?_ | with_reducible refine c_isi (.bl _) kt_bool_dict ?_ )
  | ((with_reducible show wpn _ _ [(.int _ : D), _] _ _); first | with_reducible refine c_isi (.int _) kt_int_int ?_ | with_reducible refine c_isi (.int _) kt_int_bool ?_ | with_reducible refine c_isi (.int _) kt_int_str ?_ | with_reducible refine c_isi (.int _) kt_int_tuple ?_ | with_reducible refine c_isi (.int _) kt_int_list ?_ | with_reducible refine c_isi (.int _) kt_int_dict ?_ )
  | ((with_reducible show wpn _ _ [(.str _ : D), _] _ _); first | with_reducible refine c_isi (.str _) kt_str_int ?_ | with_reducible refine c_isi (.str _) kt_str_bool ?_ | with_reducible refine c_isi (.str _) kt_str_str ?_ | with_reducible refine c_isi (.str _) kt_str_tuple ?_ | with_reducible refine c_isi (.str _) kt_str_list ?_ | with_reducible refine c_isi (.str _) kt_str_dict ?_ )
  | ((with_reducible show wpn _ _ [(.lst _ : D), _] _ _); first | with_reducible refine c_isi (.lst _) kt_list_int ?_ | with_reducible refine c_isi (.lst _) kt_list_bool ?_ | with_reducible refine c_isi (.lst _) kt_list_str ?_ | with_reducible refine c_isi (.lst _) kt_list_tuple ?_ | with_reducible refine c_isi (.lst _) kt_list_list ?_ | with_reducible refine c_isi (.lst _) kt_list_dict ?_ )
  | ((with_reducible show wpn _ _ [(.tup _ : D), _] _ _); first | with_reducible refine c_isi (.tup _) kt_tuple_int ?_ | with_reducible refine c_isi (.tup _) kt_tuple_bool ?_ | with_reducible refine c_isi (.tup _) kt_tuple_str ?_ | with_reducible refine c_isi (.tup _) kt_tuple_tuple ?_ | with_reducible refine c_isi (.tup _) kt_tuple_list ?_ | with_reducible refine c_isi (.tup _) kt_tuple_dict ?_ )
  | (first | refine c_isi (.cell (by walk_at "lk")) kt_list_int ?_ | refine c_isi (.cell (by walk_at "lk")) kt_list_bool ?_ | refine c_isi (.cell (by walk_at "lk")) kt_list_str ?_ | refine c_isi (.cell (by walk_at "lk")) kt_list_tuple ?_ | refine c_isi (.cell (by walk_at "lk")) kt_list_list ?_ | refine c_isi (.cell (by walk_at "lk")) kt_list_dict ?_ ))
local macro_rules | `(tactic| walk_at "ne") => `(tactic| first
  | assumption
  | exact Ne.symm (by assumption)
  | exact mne (by assumption) (by assumption)
  | exact Ne.symm (mne (by assumption) (by assumption)))
local macro_rules | `(tactic| walk_at "lk") => `(tactic| first
  | with_reducible exact mup_same
  | assumption
  | (refine Eq.trans (mup_ne (by walk_at "ne")) ?_; walk_at "lk"))
local macro_rules | `(tactic| walk_at "sz") => `(tactic| first
  | exact Nat.le_of_ble_eq_true rfl
  | assumption
  | omega
  | (simp only [List.length_append, List.length_map, List.length_cons, List.length_nil, List.length_replicate, List.length_take, List.length_drop]; omega)
  | (simp only [List.length_append, List.length_map, List.length_cons, List.length_nil, List.length_replicate] at *; omega))
local macro_rules | `(tactic| walk_at "ix") => `(tactic| first
  | exact rfl
  | assumption
  | exact atI_nat (by assumption)
  | exact atI_map (by assumption))
local macro_rules | `(tactic| walk_at "cm") => `(tactic| first
  | exact Or.inl ⟨by decide, by decide⟩
  | exact Or.inr ⟨by decide, by decide⟩
  | exact Or.inl ⟨by omega, by omega⟩
  | exact Or.inr ⟨by omega, by omega⟩
  | exact Or.inl (cm_mod (by decide) (by decide)))
local macro_rules | `(tactic| walk_at "sv") => `(tactic| first
  | with_reducible exact .lst (.imm _)
  | with_reducible exact .tup _
  | with_reducible exact .scr _
  | exact .lst (.cell (by walk_at "lk")))
local macro_rules | `(tactic| walk_at "kv") => `(tactic| first
  | with_reducible exact .lst (.imm _)
  | with_reducible exact .scr _
  | exact .lst (.cell (by walk_at "lk")))
local macro_rules | `(tactic| walk_at "lv") => `(tactic| first
  | with_reducible exact .imm _
  | exact .cell (by walk_at "lk"))
local macro_rules | `(tactic| walk_at "cl") => `(tactic| fail "no callee's word")
local macro_rules | `(tactic| walk_at "rs") => `(tactic| fail "no raise")
local macro_rules | `(tactic| walk_at "d_s") => `(tactic| first
  | with_reducible refine s_seq ?_
  | with_reducible refine s_asg ?_
  | with_reducible refine s_ret ?_
  | with_reducible refine s_if ?_
  | with_reducible refine s_drop ?_
  | with_reducible refine s_next ?_
  | with_reducible refine s_retN ?_
  | with_reducible refine s_brk ?_
  | with_reducible refine s_cont ?_
  | with_reducible refine s_dput ?_
  | with_reducible refine s_par ?_
  | walk_at "rs")
local macro_rules | `(tactic| walk_at "ec") => `(tactic| fail "no wish about calls")
local macro_rules | `(tactic| walk_at "d_e") => `(tactic| first
  | walk_at "ec"
  | ((with_reducible refine' e_var ?vh ?vk); (case vh => exact rfl))
  | with_reducible refine e_op ?_
  | with_reducible refine e_int ?_
  | with_reducible refine e_str ?_
  | with_reducible refine e_cb ?_
  | with_reducible refine e_call ?_
  | with_reducible refine e_tup ?_
  | with_reducible refine e_lst ?_
  | with_reducible refine e_sl ?_
  | with_reducible refine e_and ?_
  | with_reducible refine e_not ?_
  | with_reducible refine e_bl ?_
  | with_reducible refine e_non ?_
  | with_reducible refine e_or ?_
  | with_reducible refine e_ite ?_
  | with_reducible refine e_notT ?_
  | with_reducible refine e_ty ?_
  | with_reducible refine e_un ?_
  | with_reducible refine e_bm ?_
  | with_reducible refine e_joined ?_
  | with_reducible refine e_lstC ?_
  | with_reducible refine e_dget2 ?_
  | with_reducible refine e_dget ?_
  | with_reducible refine e_dget1 ?_
  | with_reducible refine e_din ?_
  | ((with_reducible refine e_dnew ?_); intro _ _)
  | with_reducible refine e_orL ?_)
local macro_rules | `(tactic| walk_at "d_t") => `(tactic| first
  | with_reducible refine t_test ?_
  | with_reducible refine t_not ?_
  | with_reducible refine t_and ?_
  | with_reducible refine t_or ?_
  | with_reducible refine t_yes ?_
  | with_reducible refine t_B ?_
  | with_reducible refine t_tru ?_)
local macro_rules | `(tactic| walk_at "d_2") => `(tactic| first
  | with_reducible refine o_addI ?_
  | with_reducible refine o_eqI ?_
  | with_reducible refine o_eqS ?_
  | ((with_reducible refine' o_ix ?xs1 ?xs2 ?xs3); (case xs1 => walk_at "sv"); (case xs2 => walk_at "ix"))
  | with_reducible refine o_neI ?_
  | with_reducible refine o_neS ?_
  | with_reducible refine o_lt ?_
  | with_reducible refine o_le ?_
  | with_reducible refine o_gt ?_
  | with_reducible refine o_ge ?_
  | with_reducible refine o_subI ?_
  | ((with_reducible refine o_mod ?md ?_); (case md => first | decide | omega | assumption))
  | ((with_reducible refine o_fdiv ?md ?_); (case md => first | decide | exact ⟨by omega, by omega⟩))
  | ((with_reducible refine o_mulI ?cm ?_); (case cm => walk_at "cm"))
  | ((with_reducible refine o_addT ?sz ?_); (case sz => walk_at "sz"))
  | ((with_reducible refine' o_addL ?l1 ?l2 ?sz ?n); (case l1 => walk_at "lv"); (case l2 => walk_at "lv"); (case sz => walk_at "sz"); (try simp only [← List.map_append]); first | assumption | refine .imm ?_)
  | ((with_reducible refine o_isN rfl ?_); try dsimp only)
  | ((with_reducible refine o_notN rfl ?_); try dsimp only)
  | with_reducible refine o_eqB ?_
  | with_reducible refine o_neB ?_
  | ((with_reducible refine o_pow ?cp ?_); (case cp => exact ⟨by decide, by decide, by decide⟩)))
local macro_rules | `(tactic| walk_at "d_n") => `(tactic| first
  | ((with_reducible refine' c_len ?xs1 ?xs3); (case xs1 => walk_at "sv"))
  | walk_at "isi"
  | ((with_reducible refine' c_list ?xs1 ?xs3); (case xs1 => walk_at "sv"); first | assumption | refine .imm ?_)
  | ((with_reducible refine' c_tupleL ?xs1 ?xs3); (case xs1 => walk_at "kv"))
  | with_reducible refine c_tupleT ?_
  | with_reducible refine c_intI ?_
  | with_reducible refine c_intB ?_
  | with_reducible refine c_max2 ?_
  | with_reducible refine c_min2 ?_
  | ((with_reducible refine' c_listC ?xs1 ?xs3); (case xs1 => walk_at "sv"); intro p hp))
local macro_rules | `(tactic| walk_at "d_m") => `(tactic| first
  | ((with_reducible refine' m_append ?lk ?sz ?q); (case lk => walk_at "lk"); (case sz => walk_at "sz"); try simp only [mup_mup])
  | ((with_reducible refine' m_extend ?lk ?lv ?sz ?q); (case lk => walk_at "lk"); (case lv => walk_at "lv"); (case sz => walk_at "sz"); try simp only [mup_mup]))
local macro_rules | `(tactic| walk_at "d_g") => `(tactic| first
  | ((with_reducible refine g_name ?_); try dsimp only [List.set_cons_succ, List.set_cons_zero])
  | (with_reducible refine g_tup rfl ?_)
  | (with_reducible refine g_setL ?_)
  | (with_reducible refine gl_tup rfl ?_)
  | ((with_reducible refine gl_name ?gm ?_); (case gm => decide); try dsimp only [DA.dwipe, List.set_cons_succ, List.set_cons_zero]))
local macro_rules | `(tactic| walk_at "d_h") => `(tactic| first
  | with_reducible refine g_nil ?_
  | ((with_reducible refine g_cons ?_); try dsimp only [List.set_cons_succ, List.set_cons_zero])
  | with_reducible refine g_consG ?_
  | with_reducible refine gl_nil ?_
  | ((with_reducible refine gl_cons ?gm ?_); (case gm => decide); try dsimp only [DA.dwipe, List.set_cons_succ, List.set_cons_zero])
  | with_reducible refine gl_consG ?_)
local macro_rules | `(tactic| walk_at "d_x") => `(tactic| first
  | with_reducible refine ⟨_, Tv.bl _, ?_⟩
  | ((with_reducible refine ⟨_, _, rfl, ?_⟩); try dsimp only [List.set_cons_succ, List.set_cons_zero])
  | ((with_reducible refine ⟨_, rfl, ?_⟩); try dsimp only)
  | with_reducible refine two_t ?_
  | with_reducible refine two_f ?_
  | with_reducible refine two_nt ?_
  | with_reducible refine two_nf ?_
  | ((with_reducible refine ⟨?szl, NewL.imm ?_⟩); (case szl => exact Nat.le_of_ble_eq_true rfl))
  | ((with_reducible refine ⟨?szl, fun p hp => ?_⟩); (case szl => exact Nat.le_of_ble_eq_true rfl))
  | ((with_reducible refine ⟨?szl, ?_⟩); (case szl => exact Nat.le_of_ble_eq_true rfl))
  | ((with_reducible refine' ⟨_, _, _, _, rfl, rfl, ?lk, ?ij, ?_⟩); (case lk => walk_at "lk"); (case ij => exact rfl); try dsimp only [List.set_cons_succ, List.set_cons_zero])
  | ((with_reducible refine' ⟨_, _, rfl, ?lk, ?_⟩); (case lk => walk_at "lk"))
  | ((with_reducible refine' ⟨_, .inr _, ?lk, rfl, ?_⟩); (case lk => walk_at "lk"))
  | ((with_reducible refine' ⟨_, .inl _, ?lk, rfl, ?_⟩); (case lk => walk_at "lk"))
  | ((with_reducible refine' ⟨_, _, .inr _, rfl, ?lk, rfl, ?sz, ?_⟩); (case lk => walk_at "lk"); (case sz => walk_at "sz"); try simp only [mup_mup])
  | ((with_reducible refine' ⟨_, _, .inl _, rfl, ?lk, rfl, ?sz, ?_⟩); (case lk => walk_at "lk"); (case sz => walk_at "sz"); try simp only [mup_mup])
  | ((with_reducible refine ⟨?tyc, ?_⟩); (case tyc => exact ty_cell (by walk_at "lk")))
  | walk_at "cl")
local macro_rules | `(tactic| walk_at "ds") => `(tactic| first
  | ((with_reducible show wpe _ _ _ _ _ _ _); walk_at "d_e")
  | ((with_reducible show wps _ _ _ _ _ _); walk_at "d_s")
  | ((with_reducible show wp2 _ _ _ _ _ _); walk_at "d_2")
  | ((with_reducible show wpa _ _ _ _ _ _ _); first | with_reducible refine a_cons ?_ | with_reducible refine a_nil ?_)
  | ((with_reducible show wpn _ _ _ _ _); walk_at "d_n")
  | ((with_reducible show wpt _ _ _ _ _ _ _); walk_at "d_t")
  | ((with_reducible show wpg _ _ _ _ _ _ _ _); walk_at "d_g")
  | ((with_reducible show wpgs _ _ _ _ _ _ _ _); walk_at "d_h")
  | ((with_reducible show wpgl _ _ _ _ _ _ _); walk_at "d_g")
  | ((with_reducible show wpgls _ _ _ _ _ _ _); walk_at "d_h")
  | ((with_reducible show wpm _ _ _ _ _ _); walk_at "d_m")
  | ((with_reducible show wpo _ _ _ _ _ _ _); first | with_reducible refine p_none ?_ | with_reducible refine p_some ?_)
  | ((with_reducible show wps3 _ _ _ _ _ _ _); first | ((with_reducible refine' sl_L ?kv ?q); (case kv => walk_at "kv"); (try simp only [cut_to, cut_from, cut_from2, cut_at, List.length_map]); first | assumption | refine .imm ?_) | ((with_reducible refine sl_T ?_); try simp only [cut_to, cut_from, cut_from2, cut_at, List.length_map]))
  | ((with_reducible show wp1 _ _ _ _ _); first | with_reducible refine u_neg ?_)
  | ((with_reducible show wpj _ _ _ _ _ _ _ _); first | with_reducible refine j_nil ?_ | with_reducible refine j_cons ?_)
  | walk_at "d_x"
  | dsimp only)
local macro_rules | `(tactic| walk_at "dr") => `(tactic| repeat (walk_at "ds"))

section P0
local macro_rules | `(tactic| walk_at "isi") => `(tactic| first
  | ((with_reducible show wpn _ _ [(.non : D), _] _ _); first | with_reducible refine c_isi .non kt_NoneType_int ?_ | with_reducible refine c_isi .non kt_NoneType_bool ?_ | with_reducible refine c_isi .non kt_NoneType_str ?_ | with_reducible refine c_isi .non kt_NoneType_tuple ?_ | with_reducible refine c_isi .non kt_NoneType_list ?_ | with_reducible refine c_isi .non kt_NoneType_dict ?_ )
  | ((with_reducible show wpn _ _ [(.bl _ : D), _] _ _); first | with_reducible refine c_isi (.bl _) kt_bool_int ?_ | with_reducible refine c_isi (.bl _) kt_bool_bool ?_ | with_reducible refine c_isi (.bl _) kt_bool_str ?_ | with_reducible refine c_isi (.bl _) kt_bool_tuple ?_ | with_reducible refine c_isi (.bl _) kt_bool_list ?_ | with_reducible refine c_isi (.bl _) kt_bool_dict ?_ )
  | ((with_reducible show wpn _ _ [(.int _ : D), _] _ _); first | with_reducible refine c_isi (.int _) kt_int_int ?_ | with_reducible refine c_isi (.int _) kt_int_bool ?_ | with_reducible refine c_isi (.int _) kt_int_str ?_ | with_reducible refine c_isi (.int _) kt_int_tuple ?_ | with_reducible refine c_isi (.int _) kt_int_list ?_ | with_reducible refine c_isi (.int _) kt_int_dict ?_ )
  | ((with_reducible show wpn _ _ [(.str _ : D), _] _ _); first | with_reducible refine c_isi (.str _) kt_str_int ?_ | with_reducible refine c_isi (.str _) kt_str_bool ?_ | with_reducible refine c_isi (.str _) kt_str_str ?_ | with_reducible refine c_isi (.str _) kt_str_tuple ?_ | with_reducible refine c_isi (.str _) kt_str_list ?_ | with_reducible refine c_isi (.str _) kt_str_dict ?_ )
  | ((with_reducible show wpn _ _ [(.lst _ : D), _] _ _); first | with_reducible refine c_isi (.lst _) kt_list_int ?_ | with_reducible refine c_isi (.lst _) kt_list_bool ?_ | with_reducible refine c_isi (.lst _) kt_list_str ?_ | with_reducible refine c_isi (.lst _) kt_list_tuple ?_ | with_reducible refine c_isi (.lst _) kt_list_list ?_ | with_reducible refine c_isi (.lst _) kt_list_dict ?_ )
  | ((with_reducible show wpn _ _ [(.tup _ : D), _] _ _); first | with_reducible refine c_isi (.tup _) kt_tuple_int ?_ | with_reducible refine c_isi (.tup _) kt_tuple_bool ?_ | with_reducible refine c_isi (.tup _) kt_tuple_str ?_ | with_reducible refine c_isi (.tup _) kt_tuple_tuple ?_ | with_reducible refine c_isi (.tup _) kt_tuple_list ?_ | with_reducible refine c_isi (.tup _) kt_tuple_dict ?_ )
  | (first | refine c_isi (.cell (by walk_at "lk")) kt_list_int ?_ | refine c_isi (.cell (by walk_at "lk")) kt_list_bool ?_ | refine c_isi (.cell (by walk_at "lk")) kt_list_str ?_ | refine c_isi (.cell (by walk_at "lk")) kt_list_tuple ?_ | refine c_isi (.cell (by walk_at "lk")) kt_list_list ?_ | refine c_isi (.cell (by walk_at "lk")) kt_list_dict ?_ ))
local macro_rules | `(tactic| walk_at "ne") => `(tactic| first
  | assumption
  | exact Ne.symm (by assumption)
  | exact mne (by assumption) (by assumption)
  | exact Ne.symm (mne (by assumption) (by assumption)))
local macro_rules | `(tactic| walk_at "lk") => `(tactic| first
  | with_reducible exact mup_same
  | assumption
  | (refine Eq.trans (mup_ne (by walk_at "ne")) ?_; walk_at "lk"))
local macro_rules | `(tactic| walk_at "sz") => `(tactic| first
  | exact Nat.le_of_ble_eq_true rfl
  | assumption
  | omega
  | (simp only [List.length_append, List.length_map, List.length_cons, List.length_nil, List.length_replicate, List.length_take, List.length_drop]; omega)
  | (simp only [List.length_append, List.length_map, List.length_cons, List.length_nil, List.length_replicate] at *; omega))
local macro_rules | `(tactic| walk_at "ix") => `(tactic| first
  | exact rfl
  | assumption
  | exact atI_nat (by assumption)
  | exact atI_map (by assumption))
local macro_rules | `(tactic| walk_at "cm") => `(tactic| first
  | exact Or.inl ⟨by decide, by decide⟩
  | exact Or.inr ⟨by decide, by decide⟩
  | exact Or.inl ⟨by omega, by omega⟩
  | exact Or.inr ⟨by omega, by omega⟩
  | exact Or.inl (cm_mod (by decide) (by decide)))
local macro_rules | `(tactic| walk_at "sv") => `(tactic| first
  | with_reducible exact .lst (.imm _)
  | with_reducible exact .tup _
  | with_reducible exact .scr _
  | exact .lst (.cell (by walk_at "lk")))
local macro_rules | `(tactic| walk_at "kv") => `(tactic| first
  | with_reducible exact .lst (.imm _)
  | with_reducible exact .scr _
  | exact .lst (.cell (by walk_at "lk")))
local macro_rules | `(tactic| walk_at "lv") => `(tactic| first
  | with_reducible exact .imm _
  | exact .cell (by walk_at "lk"))
local macro_rules | `(tactic| walk_at "cl") => `(tactic| fail "no callee's word")
local macro_rules | `(tactic| walk_at "rs") => `(tactic| fail "no raise")
local macro_rules | `(tactic| walk_at "d_s") => `(tactic| first
  | with_reducible refine s_seq ?_
  | with_reducible refine s_asg ?_
  | with_reducible refine s_ret ?_
  | with_reducible refine s_if ?_
  | with_reducible refine s_drop ?_
  | with_reducible refine s_next ?_
  | with_reducible refine s_retN ?_
  | with_reducible refine s_brk ?_
  | with_reducible refine s_cont ?_
  | with_reducible refine s_dput ?_
  | walk_at "rs")
local macro_rules | `(tactic| walk_at "ec") => `(tactic| fail "no wish about calls")
local macro_rules | `(tactic| walk_at "d_e") => `(tactic| first
  | walk_at "ec"
  | ((with_reducible refine' e_var ?vh ?vk); (case vh => exact rfl))
  | with_reducible refine e_op ?_
  | with_reducible refine e_int ?_
  | with_reducible refine e_str ?_
  | with_reducible refine e_cb ?_
  | with_reducible refine e_call ?_
  | with_reducible refine e_tup ?_
  | with_reducible refine e_lst ?_
  | with_reducible refine e_sl ?_
  | with_reducible refine e_and ?_
  | with_reducible refine e_not ?_
  | with_reducible refine e_bl ?_
  | with_reducible refine e_non ?_
  | with_reducible refine e_or ?_
  | with_reducible refine e_ite ?_
  | with_reducible refine e_notT ?_
  | with_reducible refine e_ty ?_
  | with_reducible refine e_un ?_
  | with_reducible refine e_bm ?_
  | with_reducible refine e_joined ?_
  | with_reducible refine e_lstC ?_
  | with_reducible refine e_dget2 ?_
  | with_reducible refine e_dget ?_
  | with_reducible refine e_dget1 ?_
  | with_reducible refine e_din ?_
  | ((with_reducible refine e_dnew ?_); intro _ _)
  | with_reducible refine e_orL ?_)
local macro_rules | `(tactic| walk_at "d_t") => `(tactic| first
  | with_reducible refine t_test ?_
  | with_reducible refine t_not ?_
  | with_reducible refine t_and ?_
  | with_reducible refine t_or ?_
  | with_reducible refine t_yes ?_
  | with_reducible refine t_B ?_
  | with_reducible refine t_tru ?_)
local macro_rules | `(tactic| walk_at "d_2") => `(tactic| first
  | with_reducible refine o_addI ?_
  | with_reducible refine o_eqI ?_
  | with_reducible refine o_eqS ?_
  | ((with_reducible refine' o_ix ?xs1 ?xs2 ?xs3); (case xs1 => walk_at "sv"); (case xs2 => walk_at "ix"))
  | with_reducible refine o_neI ?_
  | with_reducible refine o_neS ?_
  | with_reducible refine o_lt ?_
  | with_reducible refine o_le ?_
  | with_reducible refine o_gt ?_
  | with_reducible refine o_ge ?_
  | with_reducible refine o_subI ?_
  | ((with_reducible refine o_mod ?md ?_); (case md => first | decide | omega | assumption))
  | ((with_reducible refine o_fdiv ?md ?_); (case md => first | decide | exact ⟨by omega, by omega⟩))
  | ((with_reducible refine o_mulI ?cm ?_); (case cm => walk_at "cm"))
  | ((with_reducible refine o_addT ?sz ?_); (case sz => walk_at "sz"))
  | ((with_reducible refine' o_addL ?l1 ?l2 ?sz ?n); (case l1 => walk_at "lv"); (case l2 => walk_at "lv"); (case sz => walk_at "sz"); (try simp only [← List.map_append]); first | assumption | refine .imm ?_)
  | ((with_reducible refine o_isN rfl ?_); try dsimp only)
  | ((with_reducible refine o_notN rfl ?_); try dsimp only)
  | with_reducible refine o_eqB ?_
  | with_reducible refine o_neB ?_
  | ((with_reducible refine o_pow ?cp ?_); (case cp => exact ⟨by decide, by decide, by decide⟩)))
local macro_rules | `(tactic| walk_at "d_n") => `(tactic| first
  | ((with_reducible refine' c_len ?xs1 ?xs3); (case xs1 => walk_at "sv"))
  | walk_at "isi"
  | ((with_reducible refine' c_list ?xs1 ?xs3); (case xs1 => walk_at "sv"); first | assumption | refine .imm ?_)
  | ((with_reducible refine' c_tupleL ?xs1 ?xs3); (case xs1 => walk_at "kv"))
  | with_reducible refine c_tupleT ?_
  | with_reducible refine c_intI ?_
  | with_reducible refine c_intB ?_
  | with_reducible refine c_max2 ?_
  | with_reducible refine c_min2 ?_
  | ((with_reducible refine' c_listC ?xs1 ?xs3); (case xs1 => walk_at "sv"); intro p hp))
local macro_rules | `(tactic| walk_at "d_m") => `(tactic| first
  | ((with_reducible refine' m_append ?lk ?sz ?q); (case lk => walk_at "lk"); (case sz => walk_at "sz"); try simp only [mup_mup])
  | ((with_reducible refine' m_extend ?lk ?lv ?sz ?q); (case lk => walk_at "lk"); (case lv => walk_at "lv"); (case sz => walk_at "sz"); try simp only [mup_mup]))
local macro_rules | `(tactic| walk_at "d_g") => `(tactic| first
  | ((with_reducible refine g_name ?_); try dsimp only [List.set_cons_succ, List.set_cons_zero])
  | (with_reducible refine g_tup rfl ?_)
  | (with_reducible refine g_setL ?_)
  | (with_reducible refine gl_tup rfl ?_)
  | ((with_reducible refine gl_name ?gm ?_); (case gm => decide); try dsimp only [DA.dwipe, List.set_cons_succ, List.set_cons_zero]))
local macro_rules | `(tactic| walk_at "d_h") => `(tactic| first
  | with_reducible refine g_nil ?_
  | ((with_reducible refine g_cons ?_); try dsimp only [List.set_cons_succ, List.set_cons_zero])
  | with_reducible refine g_consG ?_
  | with_reducible refine gl_nil ?_
  | ((with_reducible refine gl_cons ?gm ?_); (case gm => decide); try dsimp only [DA.dwipe, List.set_cons_succ, List.set_cons_zero])
  | with_reducible refine gl_consG ?_)
local macro_rules | `(tactic| walk_at "d_x") => `(tactic| first
  | with_reducible refine ⟨_, Tv.bl _, ?_⟩
  | ((with_reducible refine ⟨_, rfl, ?_⟩); try dsimp only)
  | with_reducible refine two_t ?_
  | with_reducible refine two_f ?_
  | with_reducible refine two_nt ?_
  | with_reducible refine two_nf ?_
  | ((with_reducible refine ⟨?szl, NewL.imm ?_⟩); (case szl => exact Nat.le_of_ble_eq_true rfl))
  | ((with_reducible refine ⟨?szl, fun p hp => ?_⟩); (case szl => exact Nat.le_of_ble_eq_true rfl))
  | ((with_reducible refine ⟨?szl, ?_⟩); (case szl => exact Nat.le_of_ble_eq_true rfl))
  | ((with_reducible refine' ⟨_, _, _, _, rfl, rfl, ?lk, ?ij, ?_⟩); (case lk => walk_at "lk"); (case ij => exact rfl); try dsimp only [List.set_cons_succ, List.set_cons_zero])
  | ((with_reducible refine' ⟨_, _, rfl, ?lk, ?_⟩); (case lk => walk_at "lk"))
  | ((with_reducible refine' ⟨_, .inr _, ?lk, rfl, ?_⟩); (case lk => walk_at "lk"))
  | ((with_reducible refine' ⟨_, .inl _, ?lk, rfl, ?_⟩); (case lk => walk_at "lk"))
  | ((with_reducible refine' ⟨_, _, .inr _, rfl, ?lk, rfl, ?sz, ?_⟩); (case lk => walk_at "lk"); (case sz => walk_at "sz"); try simp only [mup_mup])
  | ((with_reducible refine' ⟨_, _, .inl _, rfl, ?lk, rfl, ?sz, ?_⟩); (case lk => walk_at "lk"); (case sz => walk_at "sz"); try simp only [mup_mup])
  | ((with_reducible refine ⟨?tyc, ?_⟩); (case tyc => exact ty_cell (by walk_at "lk")))
  | walk_at "cl")
local macro_rules | `(tactic| walk_at "ds") => `(tactic| first
  | ((with_reducible show wpe _ _ _ _ _ _ _); walk_at "d_e")
  | ((with_reducible show wps _ _ _ _ _ _); walk_at "d_s")
  | ((with_reducible show wp2 _ _ _ _ _ _); walk_at "d_2")
  | ((with_reducible show wpa _ _ _ _ _ _ _); first | with_reducible refine a_cons ?_ | with_reducible refine a_nil ?_)
  | ((with_reducible show wpn _ _ _ _ _); walk_at "d_n")
  | ((with_reducible show wpt _ _ _ _ _ _ _); walk_at "d_t")
  | ((with_reducible show wpg _ _ _ _ _ _ _ _); walk_at "d_g")
  | ((with_reducible show wpgs _ _ _ _ _ _ _ _); walk_at "d_h")
  | ((with_reducible show wpgl _ _ _ _ _ _ _); walk_at "d_g")
  | ((with_reducible show wpgls _ _ _ _ _ _ _); walk_at "d_h")
  | ((with_reducible show wpm _ _ _ _ _ _); walk_at "d_m")
  | ((with_reducible show wpo _ _ _ _ _ _ _); first | with_reducible refine p_none ?_ | with_reducible refine p_some ?_)
  | ((with_reducible show wps3 _ _ _ _ _ _ _); first | ((with_reducible refine' sl_L ?kv ?q); (case kv => walk_at "kv"); (try simp only [cut_to, cut_from, cut_from2, cut_at, List.length_map]); first | assumption | refine .imm ?_) | ((with_reducible refine sl_T ?_); try simp only [cut_to, cut_from, cut_from2, cut_at, List.length_map]))
  | ((with_reducible show wp1 _ _ _ _ _); first | with_reducible refine u_neg ?_)
  | ((with_reducible show wpj _ _ _ _ _ _ _ _); first | with_reducible refine j_nil ?_ | with_reducible refine j_cons ?_)
  | walk_at "d_x"
  | dsimp only)
local macro_rules | `(tactic| walk_at "dr") => `(tactic| repeat (walk_at "ds"))

def topS (i : Nat) : Stmt := PySem.Challenge.pw_runsolved_k64_steps_of_any_rules.main.body.getD i (.Pass ⟨0, 0, 0, 0⟩)
structure Glb (mg : Str → Option Value) : Prop where
  m_bool : mg "bool" = none
  m_enumerate : mg "enumerate" = none
  m_int : mg "int" = none
  m_isinstance : mg "isinstance" = none
  m_len : mg "len" = none
  m_list : mg "list" = none
  m_range : mg "range" = none
  m_str : mg "str" = none
  m_super : mg "super" = none
  m_tuple : mg "tuple" = none
/-- where the classes stand -/
structure Adr where
  BadWord : Addr
/-! ### the data -/
abbrev Wd := List Str
abbrev Rule := Wd × Wd
def menu : List Str := ["a", "b", "ab", "1", "s0.0", "ba"]
def wOk (w : Wd) : Prop := ∀ s ∈ w, s ∈ menu
structure rOk (r : Rule) : Prop where
  ne : r.1 ≠ []
  l1 : r.1.length ≤ 3
  l2 : r.2.length ≤ 3
  o1 : wOk r.1
  o2 : wOk r.2
structure rsOk (rs : List Rule) : Prop where
  all : ∀ r ∈ rs, rOk r
  len : rs.length ≤ 6
abbrev eW (w : Wd) : D := .lst (w.map .str)
abbrev eP (w : Wd) : D := .tup (w.map .str)
abbrev eR (r : Rule) : D := .tup [eP r.1, eP r.2]
abbrev eRs (rs : List Rule) : D := .lst (rs.map eR)
abbrev eSt (s : Nat × Nat) : D := .tup [.int s.1, .int s.2]
abbrev eSts (l : List (Nat × Nat)) : D := .lst (l.map eSt)
/-- plain things -/
inductive Pl : D → Prop
  | non : Pl .non
  | bl (b : Bool) : Pl (.bl b)
  | int (i : Int) : Pl (.int i)
  | str (x : Str) : Pl (.str x)
  | lst (ds : List D) : Pl (.lst ds)
  | tup (ds : List D) : Pl (.tup ds)
def ok_BadWord : List D → Prop := fun ds => ∃ i : Int, ds = [.int i] ∧ NumOk i
def mk_BadWord : List V → List (Str × V) := mkf1 "index"
/-! ### the small ones -/
def wholeD : D → Bool
  | .int i => decide (0 ≤ i)
  | _ => false
def R_is_whole : RD := fun ds M Φ _ => ∃ x, ds = [x] ∧ Pl x ∧ Φ (.bl (wholeD x)) M
/-! is_whole: 0=value -/
abbrev s_is_whole : Stmt := topS 4
theorem sc_is_whole : FnScope ["value"] ["value"] (defScope s_is_whole) := ⟨rfl, rfl, rfl, by decide +kernel, rfl, by decide +kernel, by decide +kernel⟩
theorem ok_is_whole {P : Program} {w : World} {K : PySem.W.Frag} {mg : Str → Option Value} {base : Heap}  (F : FunAt K mg "is_whole" "is_whole" s_is_whole ["value"]) (T : Glb mg) : Cal0 P w K mg base (1) "is_whole" ["value"] R_is_whole := by
  refine cal0 F sc_is_whole (fun ds M Φ Ψ h => ?_) (fun f cdv A outer s H E hr => ⟨_, (pss_one (ps_ret (pe_and (pe_callB call_isi (by rfl) T.m_isinstance (by decide +kernel) (pa_cons (pv 0) (pa_cons (pe_bltn (v := .ty "int") (by rfl) T.m_int (by decide +kernel) rfl) pa_nil))) (pe_and (pe_not (pe_callB call_isi (by rfl) T.m_isinstance (by decide +kernel) (pa_cons (pv 0) (pa_cons (pe_bltn (v := .ty "bool") (by rfl) T.m_bool (by decide +kernel) rfl) pa_nil)))) (pe_one (pe_cmpR op_ge (pv 0) pe_int (nomark _))))))), fun ds M Φ Ψ h => ?_⟩)
  · obtain ⟨x, rfl, _⟩ := h
    rfl
  · obtain ⟨x, rfl, p, q⟩ := h
    dsimp only [cx_nox, cx_k, cx_blk, cx_nox2, cx_tr, cx_suite]
    change wps K _ _ [some _] _ _
    cases p
    all_goals (walk_at "dr")
    all_goals exact q
def R_fits_at : RD := fun ds M Φ _ => ∃ (w p : Wd) (k : Nat), ds = [eW w, eP p, .int k] ∧ wOk w ∧ wOk p ∧ w.length ≤ 1000 ∧ p.length ≤ 1000 ∧ Φ (.bl (decide ((w.drop k).take p.length = p))) M

theorem menu_ok {s : Str} (h : s ∈ menu) : PyData.strOk s = true := by
  unfold menu at h
  simp only [List.mem_cons, List.not_mem_nil, or_false] at h
  rcases h with h | h | h | h | h | h <;> (rw [h]; decide +kernel)
theorem menu_ne {s : Str} (h : s ∈ menu) : s ≠ "" := by
  unfold menu at h
  simp only [List.mem_cons, List.not_mem_nil, or_false] at h
  rcases h with h | h | h | h | h | h <;> (rw [h]; decide +kernel)
theorem wOk.take {w : Wd} (h : wOk w) (n : Nat) : wOk (w.take n) := fun s hs => h s (List.mem_of_mem_take hs)
theorem wOk.drop {w : Wd} (h : wOk w) (n : Nat) : wOk (w.drop n) := fun s hs => h s (List.mem_of_mem_drop hs)
theorem wOk.app {w v : Wd} (h : wOk w) (g : wOk v) : wOk (w ++ v) := fun s hs => (List.mem_append.mp hs).elim (h s) (g s)
theorem okd_eW {w : Wd} (h : wOk w) : okd 1 (eW w) = true := by
  unfold eW okd
  rw [okds_map fun a ha => by unfold okd; exact menu_ok (h a ha)]
  rfl
theorem okd_eP {w : Wd} (h : wOk w) : okd 1 (eP w) = true := by
  unfold eP okd
  rw [okds_map fun a ha => by unfold okd; exact menu_ok (h a ha)]
  rfl
theorem cln_eW (w : Wd) : cln (eW w) = true := by
  unfold eW cln
  exact clns_map fun a _ => by unfold cln; rfl
theorem cln_eP (w : Wd) : cln (eP w) = true := by
  unfold eP cln
  exact clns_map fun a _ => by unfold cln; rfl
theorem eW_inj {w v : Wd} (h : eW w = eW v) : w = v := by
  unfold eW at h
  exact map_inj (fun a b e => by injection e) (D.lst.inj h)
theorem eP_inj {w v : Wd} (h : eP w = eP v) : w = v := by
  unfold eP at h
  exact map_inj (fun a b e => by injection e) (D.tup.inj h)
theorem o_eqP {K : PySem.W.Frag} {M : Mem} {Φ : DP} {w v : Wd} (hw : wOk w) (hv : wOk v) (z : Φ (.bl (decide (w = v))) M) : wp2 K (rEqU K) (eP w) (eP v) M Φ :=
  o_eqC (.same _) (.same _) (okd_eP hw) (okd_eP hv) (by decide) (by decide) (cln_eP _) (cln_eP _) (by rw [decide_eq_true_iff]; exact ⟨fun h => by rw [h], eP_inj⟩) z
theorem o_eqW {K : PySem.W.Frag} {M : Mem} {Φ : DP} {w v : Wd} (hw : wOk w) (hv : wOk v) (z : Φ (.bl (decide (w = v))) M) : wp2 K (rEqU K) (eW w) (eW v) M Φ :=
  o_eqC (.same _) (.same _) (okd_eW hw) (okd_eW hv) (by decide) (by decide) (cln_eW _) (cln_eW _) (by rw [decide_eq_true_iff]; exact ⟨fun h => by rw [h], eW_inj⟩) z
/-! fits_at: 0=word 1=part 2=place -/
abbrev s_fits_at : Stmt := topS 6
theorem sc_fits_at : FnScope ["word", "part", "place"] ["word", "part", "place"] (defScope s_fits_at) := ⟨rfl, rfl, rfl, by decide +kernel, rfl, by decide +kernel, by decide +kernel⟩
theorem ok_fits_at {P : Program} {w : World} {K : PySem.W.Frag} {mg : Str → Option Value} {base : Heap}  (F : FunAt K mg "fits_at" "fits_at" s_fits_at ["word", "part", "place"]) (T : Glb mg) : Cal0 P w K mg base (1) "fits_at" ["word", "part", "place"] R_fits_at := by
  refine cal0 F sc_fits_at (fun ds M Φ Ψ h => ?_) (fun f cdv A outer s H E hr => ⟨_, (pss_one (ps_ret (pe_cmpR (op_eqU hr.units) (pe_callTy call_tuple_of (by rfl) T.m_tuple (by decide +kernel) (pa_cons (pe_slice sl_U (pv 0) (po_some (pv 2)) (po_some (pe_op op_addU (pv 2) (pe_callB call_lenU (by rfl) T.m_len (by decide +kernel) (pa_cons (pv 1) pa_nil))))) pa_nil)) (pv 1) (nomark _)))), fun ds M Φ Ψ h => ?_⟩)
  · obtain ⟨w, p, k, rfl, _⟩ := h
    rfl
  · obtain ⟨w, p, k, rfl, hw, hp, lw, lp, q⟩ := h
    dsimp only [cx_nox, cx_k, cx_blk, cx_nox2, cx_tr, cx_suite]
    change wps K _ _ [some _, some _, some _] _ _
    walk_at "dr"
    exact o_eqP ((hw.drop k).take _) hp q
/-! ### the exception -/
abbrev s_BW : Stmt := inClass (topS 2) 0
theorem sc_BW : ScS ["self", "index"] ["self", "index"] (defScope s_BW) := ⟨rfl, rfl, rfl, by decide +kernel, rfl, by decide +kernel, by decide +kernel, by decide +kernel, by decide +kernel, by decide +kernel⟩
theorem init_BW {P : Program} {w : World} {K : PySem.W.Frag} {mg : Str → Option Value} {base : Heap} {C f : Addr} {fd : FuncData} (T : SupC P K mg C f "BadWord.__init__" s_BW fd) (hno : PySem.W.findIn K (.ref C) "index" = some none) :
    FnOk P w K mg base CX0 1 f fd ["self", "index"] (spE K C ok_BadWord mk_BadWord) := by
  refine init1 (k := 0) (ar := ⟨"self", none, _⟩) (x := "index") T sc_BW rfl rfl (hno := hno) (hok := fun ds h => ?_) (hE := fun cd cc A outer s H E hr => ⟨_, pa_cons (pe_joined (.cons pe_str (.cons (pe_fmt (pv 1)) .nil))) pa_nil, fun a ds h => ?_⟩)
  · obtain ⟨i, rfl, _⟩ := h
    rfl
  · obtain ⟨i, rfl, hi⟩ := h
    refine a_cons ?_
    refine e_joined ?_
    refine j_cons (e_str ⟨_, rfl, by decide +kernel, ?_⟩)
    refine j_cons (e_fmtI (e_var rfl ⟨i, rfl, hi.log, _, rfl, ?_, ?_⟩))
    · have := hi.len
      rw [Str.length_append]
      exact Nat.le_trans (Nat.add_le_add (show (Str.empty ++ ("word: " : Str)).length ≤ 10 by decide +kernel) this) (by decide)
    · exact j_nil (a_nil (Nat.le_of_ble_eq_true rfl))
theorem s_rBW {K : PySem.W.Frag} {W : WX} {ρ : List (Option D)} {M : Mem} {E : DE} {ta : TA} {C : Addr} (h : wpa K W ta ρ M (E.ex ρ) fun ds M1 => ∃ i : Int, ds = [.int i] ∧ NumOk i ∧ E.ex ρ (.ref C) ["index"] [.int i] M1) :
    wps K W (fun _ σ H => tMkO C (spE K C ok_BadWord mk_BadWord) [] ta σ H fun cls d H' => W cls d σ H') ρ M E :=
  s_mkE (nm := ["index"]) (val := fun ds => ds) (fun S ds vs ⟨i, e, _⟩ r => mkf1_ok S ds vs (by rw [e]; rfl) r) fun S H σ e s x Q k => h S H σ e s x Q fun ds M' vs S' H' ⟨i, q1, q2, q3⟩ => k ds M' vs S' H' ⟨⟨i, q1, q2⟩, by rw [q1]; exact Nat.le_of_ble_eq_true rfl, by subst q1; exact q3⟩
local macro_rules | `(tactic| walk_at "rs") => `(tactic| with_reducible refine s_rBW ?_)
/-! ### check_word -/
def okS : D → Bool
  | .str x => !decide (x = "")
  | _ => false
def chk : D → Option Int
  | .lst ds => (ds.findIdx? fun d => !okS d).map Int.ofNat
  | _ => some (-1)
def Pls : D → Prop
  | .lst ds => ∀ d ∈ ds, Pl d
  | d => Pl d
def R_check_word (a : Adr) : RD := fun ds M Φ Ψ => ∃ x, ds = [x] ∧ Pl x ∧ Pls x ∧ (∀ ds, x = .lst ds → ds.length ≤ 1000) ∧ (∀ i, chk x = some i → Ψ (.ref a.BadWord) ["index"] [.int i] M) ∧ (chk x = none → Φ .non M)
/-! check_word: 0=word 1=index 2=sign -/
abbrev s_check_word : Stmt := topS 8
theorem sc_check_word : FnScope ["word", "index", "sign"] ["word"] (defScope s_check_word) := ⟨rfl, rfl, rfl, by decide +kernel, rfl, by decide +kernel, by decide +kernel⟩
theorem ok_check_word {P : Program} {w : World} {K : PySem.W.Frag} {mg : Str → Option Value} {base : Heap}  {a : Adr} (F : FunAt K mg "check_word" "check_word" s_check_word ["word"]) (T : Glb mg) (XE_BadWord : MakE P w K mg base 1 "BadWord" a.BadWord ok_BadWord mk_BadWord) : CalX P w K mg base (3) "check_word" ["word"] (R_check_word a) := by
  refine calX F sc_check_word (fun ds M Φ Ψ h => ?_) (fun f cdv A outer s H E hr => ⟨_, (pss_cons (ps_if (pt_not (pt_truth (pe_callB call_isi (by rfl) T.m_isinstance (by decide +kernel) (pa_cons (pv 0) (pa_cons (pe_bltn (v := .ty "list") (by rfl) T.m_list (by decide +kernel) rfl) pa_nil))) (by intro _; rfl))) (pss_one (ps_raise rfl (takes_of rfl rfl rfl rfl) (pmk_E XE_BadWord (hr.mono (by first | decide | omega)) (by rfl) (pa_cons (pe_un un_neg pe_int) pa_nil)))) pss_nil)
      (pss_one (ps_for (passes_of rfl) rfl (pi_enum (by rfl) T.m_enumerate (pa_cons (pv 0) pa_nil)) (pg_tup (n := 2) rfl (pgs_cons (pg_name (i := 1) sc_check_word.nd rfl (by first | exact Or.inl rfl | exact Or.inr rfl)) (pgs_cons (pg_name (i := 2) sc_check_word.nd rfl (by first | exact Or.inl rfl | exact Or.inr rfl)) pgs_nil)))
      (pss_one (ps_if (PW.pt (pw_or (pt_not (pt_truth (pe_callB call_isi (by rfl) T.m_isinstance (by decide +kernel) (pa_cons (pv 2) (pa_cons (pe_bltn (v := .ty "str") (by rfl) T.m_str (by decide +kernel) rfl) pa_nil))) (by intro _; rfl))) (pw_or1 (pt_cmpR (op_eqU hr.units) (pv 2) pe_str (nomark _))))) (pss_one (ps_raise rfl (takes_of rfl rfl rfl rfl) (pmk_E XE_BadWord (hr.mono (by first | decide | omega)) (by rfl) (pa_cons (pv 1) pa_nil)))) pss_nil))))), fun ds M Φ Ψ h => ?_⟩)
  · obtain ⟨x, rfl, _⟩ := h
    rfl
  · obtain ⟨x, rfl, p, ps, lx, qx, qn⟩ := h
    dsimp only [cx_nox, cx_k, cx_blk, cx_nox2, cx_tr, cx_suite]
    change wps K _ _ [some _, none, none] _ _
    cases p
    case lst ds =>
      have lz := lx ds rfl
      walk_at "dr"
      refine s_for (i_enum (a_cons (e_var rfl (a_nil ⟨ds, rfl, fun i ρ' M' => (∃ x y, ρ' = [some (.lst ds), x, y]) ∧ M' = M ∧ ∀ j d, j < i → ds[j]? = some d → okS d = true, ?_, ?_, ?_, ?_⟩))))
      · exact ⟨⟨_, _, rfl⟩, rfl, fun j d h => absurd h (Nat.not_lt_zero _)⟩
      · intros
        trivial
      · rintro i ρ' M' hi ⟨⟨x, y, rfl⟩, rfl, hj⟩
        have hg := nth_get hi
        have pd := ps _ (List.mem_of_getElem? hg)
        have bad : okS (nth ds i) = false → Ψ (Value.ref a.BadWord) [Str.ofString "index"] [D.int i] M' := fun hb => qx i (by
          have : ds.findIdx? (fun d => !okS d) = some i := by
            rw [List.findIdx?_eq_some_iff_getElem]
            have e : ds[i] = nth ds i := by
              rw [List.getElem?_eq_getElem hi] at hg
              exact Option.some.inj hg
            refine ⟨hi, by rw [e, hb]; rfl, fun j hj2 => ?_⟩
            rw [hj j _ hj2 (List.getElem?_eq_getElem _)]
            decide
          show Option.map Int.ofNat (ds.findIdx? fun d => !okS d) = _
          rw [this]
          rfl)
        have good : okS (nth ds i) = true → ∀ j d, j < i + 1 → ds[j]? = some d → okS d = true := fun hb j d h1 h2 => by
          by_cases e : j = i
          · subst e
            rw [hg] at h2
            rw [← Option.some.inj h2]
            exact hb
          · exact hj j d (by omega) h2
        have hnum : NumOk (i : Int) := NumOk.nat (by omega)
        walk_at "dr"
        generalize nth ds i = d at pd bad good
        cases pd
        all_goals (walk_at "dr")
        all_goals first
          | exact ⟨hnum, bad rfl⟩
          | skip
        refine ⟨fun h => ?_, fun h => ?_⟩
        · have h1 := of_decide_eq_true h
          walk_at "dr"
          exact ⟨hnum, bad (by subst h1; rfl)⟩
        · have h1 := of_decide_eq_false h
          walk_at "dr"
          exact ⟨⟨_, _, rfl⟩, rfl, good (by show (!decide (_ = _)) = true; rw [h]; rfl)⟩
      · rintro ρ' M' ⟨_, rfl, hj⟩
        refine qn ?_
        show Option.map Int.ofNat (ds.findIdx? fun d => !okS d) = _
        rw [List.findIdx?_eq_none_iff.mpr]
        · rfl
        · intro d hd
          obtain ⟨j, h1, h2⟩ := List.getElem_of_mem hd
          rw [hj j d h1 (by rw [List.getElem?_eq_getElem h1, h2])]
          rfl
    all_goals (walk_at "dr")
    all_goals exact ⟨.inl rfl, qx (-1) rfl⟩
end P0


section P1
local macro_rules | `(tactic| walk_at "isi") => `(tactic| first
  | ((with_reducible show wpn _ _ [(.non : D), _] _ _); first | with_reducible refine c_isi .non kt_NoneType_int ?_ | with_reducible refine c_isi .non kt_NoneType_bool ?_ | with_reducible refine c_isi .non kt_NoneType_str ?_ | with_reducible refine c_isi .non kt_NoneType_tuple ?_ | with_reducible refine c_isi .non kt_NoneType_list ?_ | with_reducible refine c_isi .non kt_NoneType_dict ?_ )
  | ((with_reducible show wpn _ _ [(.bl _ : D), _] _ _); first | with_reducible refine c_isi (.bl _) kt_bool_int ?_ | with_reducible refine c_isi (.bl _) kt_bool_bool ?_ | with_reducible refine c_isi (.bl _) kt_bool_str ?_ | with_reducible refine c_isi (.bl _) kt_bool_tuple ?_ | with_reducible refine c_isi (.bl _) kt_bool_list ?_ | with_reducible refine c_isi (.bl _) kt_bool_dict ?_ )
  | ((with_reducible show wpn _ _ [(.int _ : D), _] _ _); first | with_reducible refine c_isi (.int _) kt_int_int ?_ | with_reducible refine c_isi (.int _) kt_int_bool ?_ | with_reducible refine c_isi (.int _) kt_int_str ?_ | with_reducible refine c_isi (.int _) kt_int_tuple ?_ | with_reducible refine c_isi (.int _) kt_int_list ?_ | with_reducible refine c_isi (.int _) kt_int_dict ?_ )
  | ((with_reducible show wpn _ _ [(.str _ : D), _] _ _); first | with_reducible refine c_isi (.str _) kt_str_int ?_ | with_reducible refine c_isi (.str _) kt_str_bool ?_ | with_reducible refine c_isi (.str _) kt_str_str ?_ | with_reducible refine c_isi (.str _) kt_str_tuple ?_ | with_reducible refine c_isi (.str _) kt_str_list ?_ | with_reducible refine c_isi (.str _) kt_str_dict ?_ )
  | ((with_reducible show wpn _ _ [(.lst _ : D), _] _ _); first | with_reducible refine c_isi (.lst _) kt_list_int ?_ | with_reducible refine c_isi (.lst _) kt_list_bool ?_ | with_reducible refine c_isi (.lst _) kt_list_str ?_ | with_reducible refine c_isi (.lst _) kt_list_tuple ?_ | with_reducible refine c_isi (.lst _) kt_list_list ?_ | with_reducible refine c_isi (.lst _) kt_list_dict ?_ )
  | ((with_reducible show wpn _ _ [(.tup _ : D), _] _ _); first | with_reducible refine c_isi (.tup _) kt_tuple_int ?_ | with_reducible refine c_isi (.tup _) kt_tuple_bool ?_ | with_reducible refine c_isi (.tup _) kt_tuple_str ?_ | with_reducible refine c_isi (.tup _) kt_tuple_tuple ?_ | with_reducible refine c_isi (.tup _) kt_tuple_list ?_ | with_reducible refine c_isi (.tup _) kt_tuple_dict ?_ )
  | (first | refine c_isi (.cell (by walk_at "lk")) kt_list_int ?_ | refine c_isi (.cell (by walk_at "lk")) kt_list_bool ?_ | refine c_isi (.cell (by walk_at "lk")) kt_list_str ?_ | refine c_isi (.cell (by walk_at "lk")) kt_list_tuple ?_ | refine c_isi (.cell (by walk_at "lk")) kt_list_list ?_ | refine c_isi (.cell (by walk_at "lk")) kt_list_dict ?_ ))
local macro_rules | `(tactic| walk_at "ne") => `(tactic| first
  | assumption
  | exact Ne.symm (by assumption)
  | exact mne (by assumption) (by assumption)
  | exact Ne.symm (mne (by assumption) (by assumption)))
local macro_rules | `(tactic| walk_at "lk") => `(tactic| first
  | with_reducible exact mup_same
  | assumption
  | (refine Eq.trans (mup_ne (by walk_at "ne")) ?_; walk_at "lk"))
local macro_rules | `(tactic| walk_at "sz") => `(tactic| first
  | exact Nat.le_of_ble_eq_true rfl
  | assumption
  | omega
  | (simp only [List.length_append, List.length_map, List.length_cons, List.length_nil, List.length_replicate, List.length_take, List.length_drop]; omega)
  | (simp only [List.length_append, List.length_map, List.length_cons, List.length_nil, List.length_replicate] at *; omega))
local macro_rules | `(tactic| walk_at "ix") => `(tactic| first
  | exact rfl
  | assumption
  | exact atI_nat (by assumption)
  | exact atI_map (by assumption))
local macro_rules | `(tactic| walk_at "cm") => `(tactic| first
  | exact Or.inl ⟨by decide, by decide⟩
  | exact Or.inr ⟨by decide, by decide⟩
  | exact Or.inl ⟨by omega, by omega⟩
  | exact Or.inr ⟨by omega, by omega⟩
  | exact Or.inl (cm_mod (by decide) (by decide)))
local macro_rules | `(tactic| walk_at "sv") => `(tactic| first
  | with_reducible exact .lst (.imm _)
  | with_reducible exact .tup _
  | with_reducible exact .scr _
  | exact .lst (.cell (by walk_at "lk")))
local macro_rules | `(tactic| walk_at "kv") => `(tactic| first
  | with_reducible exact .lst (.imm _)
  | with_reducible exact .scr _
  | exact .lst (.cell (by walk_at "lk")))
local macro_rules | `(tactic| walk_at "lv") => `(tactic| first
  | with_reducible exact .imm _
  | exact .cell (by walk_at "lk"))
local macro_rules | `(tactic| walk_at "cl") => `(tactic| fail "no callee's word")
local macro_rules | `(tactic| walk_at "rs") => `(tactic| fail "no raise")
local macro_rules | `(tactic| walk_at "d_s") => `(tactic| first
  | with_reducible refine s_seq ?_
  | with_reducible refine s_asg ?_
  | with_reducible refine s_ret ?_
  | with_reducible refine s_if ?_
  | with_reducible refine s_drop ?_
  | with_reducible refine s_next ?_
  | with_reducible refine s_retN ?_
  | with_reducible refine s_brk ?_
  | with_reducible refine s_cont ?_
  | with_reducible refine s_dput ?_
  | walk_at "rs")
local macro_rules | `(tactic| walk_at "ec") => `(tactic| fail "no wish about calls")
local macro_rules | `(tactic| walk_at "d_e") => `(tactic| first
  | walk_at "ec"
  | ((with_reducible refine' e_var ?vh ?vk); (case vh => exact rfl))
  | with_reducible refine e_op ?_
  | with_reducible refine e_int ?_
  | with_reducible refine e_str ?_
  | with_reducible refine e_cb ?_
  | with_reducible refine e_call ?_
  | with_reducible refine e_tup ?_
  | with_reducible refine e_lst ?_
  | with_reducible refine e_sl ?_
  | with_reducible refine e_and ?_
  | with_reducible refine e_not ?_
  | with_reducible refine e_bl ?_
  | with_reducible refine e_non ?_
  | with_reducible refine e_or ?_
  | with_reducible refine e_ite ?_
  | with_reducible refine e_notT ?_
  | with_reducible refine e_ty ?_
  | with_reducible refine e_un ?_
  | with_reducible refine e_bm ?_
  | with_reducible refine e_joined ?_
  | with_reducible refine e_lstC ?_
  | with_reducible refine e_dget2 ?_
  | with_reducible refine e_dget ?_
  | with_reducible refine e_dget1 ?_
  | with_reducible refine e_din ?_
  | ((with_reducible refine e_dnew ?_); intro _ _)
  | with_reducible refine e_orL ?_)
local macro_rules | `(tactic| walk_at "d_t") => `(tactic| first
  | with_reducible refine t_test ?_
  | with_reducible refine t_not ?_
  | with_reducible refine t_and ?_
  | with_reducible refine t_or ?_
  | with_reducible refine t_yes ?_
  | with_reducible refine t_B ?_
  | with_reducible refine t_tru ?_)
local macro_rules | `(tactic| walk_at "d_2") => `(tactic| first
  | with_reducible refine o_addI ?_
  | with_reducible refine o_eqI ?_
  | with_reducible refine o_eqS ?_
  | ((with_reducible refine' o_ix ?xs1 ?xs2 ?xs3); (case xs1 => walk_at "sv"); (case xs2 => walk_at "ix"))
  | with_reducible refine o_neI ?_
  | with_reducible refine o_neS ?_
  | with_reducible refine o_lt ?_
  | with_reducible refine o_le ?_
  | with_reducible refine o_gt ?_
  | with_reducible refine o_ge ?_
  | with_reducible refine o_subI ?_
  | ((with_reducible refine o_mod ?md ?_); (case md => first | decide | omega | assumption))
  | ((with_reducible refine o_fdiv ?md ?_); (case md => first | decide | exact ⟨by omega, by omega⟩))
  | ((with_reducible refine o_mulI ?cm ?_); (case cm => walk_at "cm"))
  | ((with_reducible refine o_addT ?sz ?_); (case sz => walk_at "sz"))
  | ((with_reducible refine' o_addL ?l1 ?l2 ?sz ?n); (case l1 => walk_at "lv"); (case l2 => walk_at "lv"); (case sz => walk_at "sz"); (try simp only [← List.map_append]); first | assumption | refine .imm ?_)
  | ((with_reducible refine o_isN rfl ?_); try dsimp only)
  | ((with_reducible refine o_notN rfl ?_); try dsimp only)
  | with_reducible refine o_eqB ?_
  | with_reducible refine o_neB ?_
  | ((with_reducible refine o_pow ?cp ?_); (case cp => exact ⟨by decide, by decide, by decide⟩)))
local macro_rules | `(tactic| walk_at "d_n") => `(tactic| first
  | ((with_reducible refine' c_len ?xs1 ?xs3); (case xs1 => walk_at "sv"))
  | walk_at "isi"
  | ((with_reducible refine' c_list ?xs1 ?xs3); (case xs1 => walk_at "sv"); first | assumption | refine .imm ?_)
  | ((with_reducible refine' c_tupleL ?xs1 ?xs3); (case xs1 => walk_at "kv"))
  | with_reducible refine c_tupleT ?_
  | with_reducible refine c_intI ?_
  | with_reducible refine c_intB ?_
  | with_reducible refine c_max2 ?_
  | with_reducible refine c_min2 ?_
  | ((with_reducible refine' c_listC ?xs1 ?xs3); (case xs1 => walk_at "sv"); intro p hp))
local macro_rules | `(tactic| walk_at "d_m") => `(tactic| first
  | ((with_reducible refine' m_append ?lk ?sz ?q); (case lk => walk_at "lk"); (case sz => walk_at "sz"); try simp only [mup_mup])
  | ((with_reducible refine' m_extend ?lk ?lv ?sz ?q); (case lk => walk_at "lk"); (case lv => walk_at "lv"); (case sz => walk_at "sz"); try simp only [mup_mup]))
local macro_rules | `(tactic| walk_at "d_g") => `(tactic| first
  | ((with_reducible refine g_name ?_); try dsimp only [List.set_cons_succ, List.set_cons_zero])
  | (with_reducible refine g_tup rfl ?_)
  | (with_reducible refine g_setL ?_)
  | (with_reducible refine gl_tup rfl ?_)
  | ((with_reducible refine gl_name ?gm ?_); (case gm => decide); try dsimp only [DA.dwipe, List.set_cons_succ, List.set_cons_zero]))
local macro_rules | `(tactic| walk_at "d_h") => `(tactic| first
  | with_reducible refine g_nil ?_
  | ((with_reducible refine g_cons ?_); try dsimp only [List.set_cons_succ, List.set_cons_zero])
  | with_reducible refine g_consG ?_
  | with_reducible refine gl_nil ?_
  | ((with_reducible refine gl_cons ?gm ?_); (case gm => decide); try dsimp only [DA.dwipe, List.set_cons_succ, List.set_cons_zero])
  | with_reducible refine gl_consG ?_)
local macro_rules | `(tactic| walk_at "d_x") => `(tactic| first
  | with_reducible refine ⟨_, Tv.bl _, ?_⟩
  | ((with_reducible refine ⟨_, rfl, ?_⟩); try dsimp only)
  | with_reducible refine two_t ?_
  | with_reducible refine two_f ?_
  | with_reducible refine two_nt ?_
  | with_reducible refine two_nf ?_
  | ((with_reducible refine ⟨?szl, NewL.imm ?_⟩); (case szl => exact Nat.le_of_ble_eq_true rfl))
  | ((with_reducible refine ⟨?szl, fun p hp => ?_⟩); (case szl => exact Nat.le_of_ble_eq_true rfl))
  | ((with_reducible refine ⟨?szl, ?_⟩); (case szl => exact Nat.le_of_ble_eq_true rfl))
  | ((with_reducible refine' ⟨_, _, _, _, rfl, rfl, ?lk, ?ij, ?_⟩); (case lk => walk_at "lk"); (case ij => exact rfl); try dsimp only [List.set_cons_succ, List.set_cons_zero])
  | ((with_reducible refine' ⟨_, _, rfl, ?lk, ?_⟩); (case lk => walk_at "lk"))
  | ((with_reducible refine' ⟨_, .inr _, ?lk, rfl, ?_⟩); (case lk => walk_at "lk"))
  | ((with_reducible refine' ⟨_, .inl _, ?lk, rfl, ?_⟩); (case lk => walk_at "lk"))
  | ((with_reducible refine' ⟨_, _, .inr _, rfl, ?lk, rfl, ?sz, ?_⟩); (case lk => walk_at "lk"); (case sz => walk_at "sz"); try simp only [mup_mup])
  | ((with_reducible refine' ⟨_, _, .inl _, rfl, ?lk, rfl, ?sz, ?_⟩); (case lk => walk_at "lk"); (case sz => walk_at "sz"); try simp only [mup_mup])
  | ((with_reducible refine ⟨?tyc, ?_⟩); (case tyc => exact ty_cell (by walk_at "lk")))
  | walk_at "cl")
local macro_rules | `(tactic| walk_at "ds") => `(tactic| first
  | ((with_reducible show wpe _ _ _ _ _ _ _); walk_at "d_e")
  | ((with_reducible show wps _ _ _ _ _ _); walk_at "d_s")
  | ((with_reducible show wp2 _ _ _ _ _ _); walk_at "d_2")
  | ((with_reducible show wpa _ _ _ _ _ _ _); first | with_reducible refine a_cons ?_ | with_reducible refine a_nil ?_)
  | ((with_reducible show wpn _ _ _ _ _); walk_at "d_n")
  | ((with_reducible show wpt _ _ _ _ _ _ _); walk_at "d_t")
  | ((with_reducible show wpg _ _ _ _ _ _ _ _); walk_at "d_g")
  | ((with_reducible show wpgs _ _ _ _ _ _ _ _); walk_at "d_h")
  | ((with_reducible show wpgl _ _ _ _ _ _ _); walk_at "d_g")
  | ((with_reducible show wpgls _ _ _ _ _ _ _); walk_at "d_h")
  | ((with_reducible show wpm _ _ _ _ _ _); walk_at "d_m")
  | ((with_reducible show wpo _ _ _ _ _ _ _); first | with_reducible refine p_none ?_ | with_reducible refine p_some ?_)
  | ((with_reducible show wps3 _ _ _ _ _ _ _); first | ((with_reducible refine' sl_L ?kv ?q); (case kv => walk_at "kv"); (try simp only [cut_to, cut_from, cut_from2, cut_at, List.length_map]); first | assumption | refine .imm ?_) | ((with_reducible refine sl_T ?_); try simp only [cut_to, cut_from, cut_from2, cut_at, List.length_map]))
  | ((with_reducible show wp1 _ _ _ _ _); first | with_reducible refine u_neg ?_)
  | ((with_reducible show wpj _ _ _ _ _ _ _ _); first | with_reducible refine j_nil ?_ | with_reducible refine j_cons ?_)
  | walk_at "d_x"
  | dsimp only)
local macro_rules | `(tactic| walk_at "dr") => `(tactic| repeat (walk_at "ds"))

/-! ### the pool -/
structure PoolOk (P : List Int) : Prop where
  len : P.length = 120
  num : ∀ x ∈ P, 0 ≤ x ∧ x < 1009
abbrev eI (P : List Int) : D := .lst (P.map .int)

def R__law_next : RD := fun ds M Φ _ => ∃ (P : List Int) (a : Addr) (n : Int), ds = [eI P, .ref a] ∧ PoolOk P ∧ M a = some (.lst [.int n]) ∧ 0 ≤ n ∧ ∀ v n' : Int, 0 ≤ v → 0 ≤ n' → Φ (.int v) (mup M a (.lst [.int n']))
theorem l_next {P : List Int} {a : Addr} {n : Int} {M : Mem} {Φ : DP} {Ψ : XP} (hP : PoolOk P) (hm : M a = some (.lst [.int n])) (hn : 0 ≤ n) (q : ∀ v n' : Int, 0 ≤ v → 0 ≤ n' → Φ (.int v) (mup M a (.lst [.int n']))) : R__law_next [eI P, .ref a] M Φ Ψ := ⟨P, a, n, rfl, hP, hm, hn, q⟩
/-! _law_next: 0=pool 1=at 2=index 3=turn -/
abbrev s__law_next : Stmt := topS 13
theorem sc__law_next : FnScope ["pool", "at", "index", "turn"] ["pool", "at"] (defScope s__law_next) := ⟨rfl, rfl, rfl, by decide +kernel, rfl, by decide +kernel, by decide +kernel⟩
theorem ok__law_next {P : Program} {w : World} {K : PySem.W.Frag} {mg : Str → Option Value} {base : Heap}  (F : FunAt K mg "_law_next" "_law_next" s__law_next ["pool", "at"]) (T : Glb mg) : Cal0 P w K mg base (1) "_law_next" ["pool", "at"] R__law_next := by
  refine cal0 F sc__law_next (fun ds M Φ Ψ h => ?_) (fun f cdv A outer s H E hr => ⟨_, (pss_cons (ps_asg (pe_ix ix_seq (pv 1) pe_int (fun _ _ => rfl)) (pg_name (i := 2) sc__law_next.nd rfl (by first | exact Or.inl rfl | exact Or.inr rfl)))
      (pss_cons (ps_asg (pe_op op_addU (pv 2) pe_int) (pg_sub (pv 1) pe_int set_list))
      (pss_cons (ps_asg (pe_op op_fdivN (pv 2) (pe_callB call_lenU (by rfl) T.m_len (by decide +kernel) (pa_cons (pv 0) pa_nil))) (pg_name (i := 3) sc__law_next.nd rfl (by first | exact Or.inl rfl | exact Or.inr rfl)))
      (pss_one (ps_ret (pe_op op_addU (pe_op op_mulU (pe_ix ix_seq (pv 0) (pe_op op_modN (pv 2) (pe_callB call_lenU (by rfl) T.m_len (by decide +kernel) (pa_cons (pv 0) pa_nil))) (fun _ _ => rfl)) (pe_op op_addU (pv 3) pe_int)) (pv 3))))))), fun ds M Φ Ψ h => ?_⟩)
  · obtain ⟨P, a, n, rfl, _⟩ := h
    rfl
  · obtain ⟨P, a, n, rfl, hP, hm, hn, q⟩ := h
    dsimp only [cx_nox, cx_k, cx_blk, cx_nox2, cx_tr, cx_suite]
    change wps K _ _ [some _, some _, none, none] _ _
    have hl : (P.map D.int).length = 120 := by rw [List.length_map]; exact hP.len
    obtain ⟨x, hx, x0, x1⟩ : ∃ x, L2.atI (P.map D.int) (n.fmod ((120 : Nat) : Int)) = some (D.int x) ∧ 0 ≤ x ∧ x < 1009 := by
      have h1 : 0 ≤ n.fmod ((120 : Nat) : Int) := by rw [Int.fmod_eq_emod_of_nonneg _ (by omega)]; omega
      have h2 : n.fmod ((120 : Nat) : Int) < 120 := by rw [Int.fmod_eq_emod_of_nonneg _ (by omega)]; omega
      obtain ⟨j, hj⟩ := Int.eq_ofNat_of_zero_le h1
      have h3 : j < P.length := by have := hP.len; omega
      refine ⟨P[j], ?_, hP.num _ (List.getElem_mem _)⟩
      rw [hj]
      exact atI_map (List.getElem?_eq_getElem h3)
    have hf : 0 ≤ n.fdiv ((120 : Nat) : Int) := Int.fdiv_nonneg hn (by omega)
    walk_at "dr"
    rw [hl]
    walk_at "dr"
    exact q _ _ (Int.add_nonneg (Int.mul_nonneg x0 (by omega)) hf) (by omega)

def R__law_stepped : RD := fun ds M Φ _ => ∃ (rs : List Rule) (w : Wd) (k p : Nat) (r : Rule), ds = [eRs rs, eW w, eSt (k, p)] ∧ rs[k]? = some r ∧ w.length ≤ 600 ∧ r.2.length ≤ 3 ∧ NewL Φ M ((w.take p ++ r.2 ++ w.drop (p + r.1.length)).map .str)
theorem NewL.of {Φ : DP} {M : Mem} {xs : List D} {X : Prop} (n : NewL Φ M xs) (i : Φ (.lst xs) M → X) (c : (∀ p, M p = none → Φ (.ref p) (mup M p (.lst xs))) → X) : X := by
  cases n with
  | imm q => exact i q
  | cell q => exact c q
/-! _law_stepped: 0=rules 1=word 2=step 3=part 4=other -/
abbrev s__law_stepped : Stmt := topS 16
theorem sc__law_stepped : FnScope ["rules", "word", "step", "part", "other"] ["rules", "word", "step"] (defScope s__law_stepped) := ⟨rfl, rfl, rfl, by decide +kernel, rfl, by decide +kernel, by decide +kernel⟩
theorem ok__law_stepped {P : Program} {w : World} {K : PySem.W.Frag} {mg : Str → Option Value} {base : Heap}  (F : FunAt K mg "_law_stepped" "_law_stepped" s__law_stepped ["rules", "word", "step"]) (T : Glb mg) : Cal0 P w K mg base (1) "_law_stepped" ["rules", "word", "step"] R__law_stepped := by
  refine cal0 F sc__law_stepped (fun ds M Φ Ψ h => ?_) (fun f cdv A outer s H E hr => ⟨_, (pss_cons (ps_asg (pe_ix ix_seq (pv 0) (pe_ix ix_seq (pv 2) pe_int (fun _ _ => rfl)) (fun _ _ => rfl)) (pg_tup (n := 2) rfl (pgs_cons (pg_name (i := 3) sc__law_stepped.nd rfl (by first | exact Or.inl rfl | exact Or.inr rfl)) (pgs_cons (pg_name (i := 4) sc__law_stepped.nd rfl (by first | exact Or.inl rfl | exact Or.inr rfl)) pgs_nil))))
      (pss_one (ps_ret (pe_op op_addU (pe_op op_addU (pe_slice sl_U (pv 1) po_none (po_some (pe_ix ix_seq (pv 2) pe_int (fun _ _ => rfl)))) (pe_callTy call_list_of (by rfl) T.m_list (by decide +kernel) (pa_cons (pv 4) pa_nil))) (pe_slice sl_U (pv 1) (po_some (pe_op op_addU (pe_ix ix_seq (pv 2) pe_int (fun _ _ => rfl)) (pe_callB call_lenU (by rfl) T.m_len (by decide +kernel) (pa_cons (pv 3) pa_nil)))) po_none))))), fun ds M Φ Ψ h => ?_⟩)
  · obtain ⟨rs, w, k, p, r, rfl, _⟩ := h
    rfl
  · obtain ⟨rs, w, k, p, r, rfl, hr, lw, lr, q⟩ := h
    dsimp only [cx_nox, cx_k, cx_blk, cx_nox2, cx_tr, cx_suite]
    change wps K _ _ [some _, some _, some _, none, none] _ _
    walk_at "dr"
/-- where p stands in w, among the first n places -/
def hits (w p : Wd) (n : Nat) : List Nat := (List.range n).filter fun i => decide ((w.drop i).take p.length = p)
def stepsAt (rs : List Rule) (w : Wd) (k : Nat) : List (Nat × Nat) := (hits w (rs.getD k ([], [])).1 (w.length + 1 - (rs.getD k ([], [])).1.length)).map fun p => (k, p)
def stepsTo (rs : List Rule) (w : Wd) (n : Nat) : List (Nat × Nat) := (List.range n).flatMap (stepsAt rs w)
def stepsL (rs : List Rule) (w : Wd) : List (Nat × Nat) := stepsTo rs w rs.length
theorem hits_more (w p : Wd) (n : Nat) : hits w p (n + 1) = hits w p n ++ (if (w.drop n).take p.length = p then [n] else []) := by
  unfold hits
  rw [List.range_succ, List.filter_append, List.filter_cons]
  by_cases h : (w.drop n).take p.length = p
  · rw [if_pos h, if_pos (decide_eq_true h)]
    rfl
  · rw [if_neg h, if_neg (by simpa using h)]
    rfl
theorem stepsTo_more (rs : List Rule) (w : Wd) (n : Nat) : stepsTo rs w (n + 1) = stepsTo rs w n ++ stepsAt rs w n := by
  unfold stepsTo
  rw [List.range_succ, List.flatMap_append, List.flatMap_cons, List.flatMap_nil, List.append_nil]
theorem hits_len (w p : Wd) (n : Nat) : (hits w p n).length ≤ n := by
  unfold hits
  exact Nat.le_trans (List.length_filter_le _ _) (by rw [List.length_range]; exact Nat.le_refl _)
theorem steps_len (rs : List Rule) (w : Wd) : ∀ n, (stepsTo rs w n).length ≤ n * (w.length + 1)
  | 0 => by simp [stepsTo]
  | n + 1 => by
    have := steps_len rs w n
    have h2 := hits_len w (rs.getD n ([], [])).1 (w.length + 1 - (rs.getD n ([], [])).1.length)
    rw [stepsTo_more, List.length_append, stepsAt, List.length_map, Nat.succ_mul]
    omega
def R__law_steps : RD := fun ds M Φ _ => ∃ (rs : List Rule) (w : Wd), ds = [eRs rs, eW w] ∧ rsOk rs ∧ wOk w ∧ w.length ≤ 600 ∧ NewL Φ M ((stepsL rs w).map eSt)
/-! _law_steps: 0=rules 1=word 2=found 3=k 4=part 5=place -/
abbrev s__law_steps : Stmt := topS 15
theorem sc__law_steps : FnScope ["rules", "word", "found", "k", "part", "place"] ["rules", "word"] (defScope s__law_steps) := ⟨rfl, rfl, rfl, by decide +kernel, rfl, by decide +kernel, by decide +kernel⟩
theorem ok__law_steps {P : Program} {w : World} {K : PySem.W.Frag} {mg : Str → Option Value} {base : Heap}  (F : FunAt K mg "_law_steps" "_law_steps" s__law_steps ["rules", "word"]) (T : Glb mg) : Cal0 P w K mg base (1) "_law_steps" ["rules", "word"] R__law_steps := by
  refine cal0 F sc__law_steps (fun ds M Φ Ψ h => ?_) (fun f cdv A outer s H E hr => ⟨_, (pss_cons (ps_asg (pe_lstC pa_nil) (pg_name (i := 2) sc__law_steps.nd rfl (by first | exact Or.inl rfl | exact Or.inr rfl)))
      (pss_cons (ps_for PassesOwn.never rfl (pi_range1 (by rfl) T.m_range (pa_cons (pe_callB call_lenU (by rfl) T.m_len (by decide +kernel) (pa_cons (pv 0) pa_nil)) pa_nil)) (pg_name (i := 3) sc__law_steps.nd rfl (by first | exact Or.inl rfl | exact Or.inr rfl))
      (pss_cons (ps_asg (pe_callTy call_list_of (by rfl) T.m_list (by decide +kernel) (pa_cons (pe_ix ix_seq (pe_ix ix_seq (pv 0) (pv 3) (fun _ _ => rfl)) pe_int (fun _ _ => rfl)) pa_nil)) (pg_name (i := 4) sc__law_steps.nd rfl (by first | exact Or.inl rfl | exact Or.inr rfl)))
      (pss_one (ps_for PassesOwn.never rfl (pi_range1 (by rfl) T.m_range (pa_cons (pe_op op_addU (pe_op op_sub (pe_callB call_lenU (by rfl) T.m_len (by decide +kernel) (pa_cons (pv 1) pa_nil)) (pe_callB call_lenU (by rfl) T.m_len (by decide +kernel) (pa_cons (pv 4) pa_nil))) pe_int) pa_nil)) (pg_name (i := 5) sc__law_steps.nd rfl (by first | exact Or.inl rfl | exact Or.inr rfl))
      (pss_one (ps_if (pt_cmpR (op_eqU hr.units) (pe_slice sl_U (pv 1) (po_some (pv 5)) (po_some (pe_op op_addU (pv 5) (pe_callB call_lenU (by rfl) T.m_len (by decide +kernel) (pa_cons (pv 4) pa_nil))))) (pv 4) (nomark _)) (pss_one (ps_expr (pe_bm PySem.F.plainAttrs_list PySem.F.slot_list_append PySem.F.type_list_append mt_append (pv 2) (pa_cons (pe_tup (pa_cons (pv 3) (pa_cons (pv 5) pa_nil))) pa_nil)))) pss_nil))))))
      (pss_one (ps_ret (pv 2))))), fun ds M Φ Ψ h => ?_⟩)
  · obtain ⟨rs, w, rfl, _⟩ := h
    rfl
  · obtain ⟨rs, w, rfl, hr, hw, lw, q⟩ := h
    dsimp only [cx_nox, cx_k, cx_blk, cx_nox2, cx_tr, cx_suite]
    change wps K _ _ [some _, some _, none, none, none, none] _ _
    walk_at "dr"
    rename_i p hp
    refine s_for (i_rng1 ?_)
    walk_at "dr"
    refine ⟨⟨by omega, by have := hr.len; simp only [List.length_map]; omega⟩, fun i ρ' M' => ∃ x y z, ρ' = [some (eRs rs), some (eW w), some (.ref p), x, y, z] ∧ M' = mup M p (.lst ((stepsTo rs w i).map eSt)), ⟨_, _, _, rfl, rfl⟩, fun _ _ _ _ _ => trivial, ?_, ?_⟩
    · rintro i ρ' M' hi ⟨x, y, z, rfl, rfl⟩
      rw [List.length_map, Int.toNat_natCast] at hi
      have hk := List.getElem?_eq_getElem hi
      generalize rs[i] = r at hk
      have hr1 := hr.all r (List.mem_of_getElem? hk)
      have hg : rs.getD i ([], []) = r := by rw [List.getD_eq_getElem?_getD, hk]; rfl
      walk_at "dr"
      refine s_for (i_rng1 ?_)
      walk_at "dr"
      have hl1 := hr1.l1
      have hl2 : r.1.length ≠ 0 := fun z => hr1.ne (List.length_eq_zero_iff.mp z)
      have hn : ((w.map D.str).length - (r.1.map D.str).length + 1 : Int).toNat = w.length + 1 - r.1.length := by simp only [List.length_map]; omega
      simp only [hn]
      refine ⟨⟨by simp only [List.length_map]; omega, by simp only [List.length_map]; omega⟩, fun j ρ' M' => ∃ z, ρ' = [some (eRs rs), some (eW w), some (.ref p), some (.int i), some (eW r.1), z] ∧ M' = mup M p (.lst ((stepsTo rs w i ++ (hits w r.1 j).map fun q => (i, q)).map eSt)), ⟨_, rfl, ?_⟩, fun _ _ _ _ _ => trivial, ?_, ?_⟩
      · rw [show hits w r.1 0 = [] from rfl, List.map_nil, List.append_nil]
      · rintro j ρ' M' hj ⟨z, rfl, rfl⟩
        have hsz : ((stepsTo rs w i ++ (hits w r.1 j).map fun q => (i, q)).map eSt).length < 16777216 := by
          have h1 := steps_len rs w i
          have h2 := hits_len w r.1 j
          have h3 := hr.len
          have h4 : i * (w.length + 1) ≤ 6 * 601 := Nat.mul_le_mul (by omega) (by omega)
          rw [List.length_map, List.length_append, List.length_map]
          omega
        walk_at "dr"
        refine o_eqW ((hw.drop _).take _) hr1.o1 ?_
        walk_at "dr"
        refine ⟨fun h => ?_, fun h => ?_⟩
        · walk_at "dr"
          rw [hits_more, if_pos (of_decide_eq_true h)]
          simp only [List.map_append, List.append_assoc, List.map_cons, List.map_nil]
        · walk_at "dr"
          rw [hits_more, if_neg (of_decide_eq_false h), List.append_nil]
      · rintro ρ' M' ⟨z, rfl, rfl⟩
        refine ⟨_, _, _, rfl, ?_⟩
        rw [stepsTo_more, stepsAt, hg]
    · rintro ρ' M' ⟨x, y, z, rfl, rfl⟩
      rw [List.length_map, Int.toNat_natCast]
      exact wps.ret rfl (Sub.refl _) hp q
local macro_rules | `(tactic| walk_at "cl") => `(tactic| ((refine l_next (by assumption) (by walk_at "lk") (by assumption) ?_); intro _ _ _ _; try simp only [mup_mup]))
def R__law_part : RD := fun ds M Φ _ => ∃ (P : List Int) (a : Addr) (n : Int) (k : Nat), ds = [eI P, .ref a, .int k] ∧ PoolOk P ∧ M a = some (.lst [.int n]) ∧ 0 ≤ n ∧ k ≤ 100 ∧ ∀ (w : Wd) (n' : Int), wOk w → w.length = k → 0 ≤ n' → NewL Φ (mup M a (.lst [.int n'])) (w.map .str)
theorem menu_cut (v : Int) (hv : 0 ≤ v) : ∃ sg : Wd, 0 < sg.length ∧ wOk sg ∧ sg.length ≤ 6 ∧ DA.cutD [D.str "a", D.str "b", D.str "ab", D.str "1", D.str "s0.0", D.str "ba"] none (some (2 + v.fmod 5)) = sg.map .str := by
  have h1 : 0 ≤ v.fmod 5 := by rw [Int.fmod_eq_emod_of_nonneg _ (by omega)]; omega
  have h2 : v.fmod 5 < 5 := by rw [Int.fmod_eq_emod_of_nonneg _ (by omega)]; omega
  obtain ⟨j, hj⟩ := Int.eq_ofNat_of_zero_le h1
  refine ⟨menu.take (2 + j), ?_, fun s h => List.mem_of_mem_take h, ?_, ?_⟩
  · rw [List.length_take, show menu.length = 6 from rfl]
    omega
  · rw [List.length_take, show menu.length = 6 from rfl]
    omega
  · rw [hj, show (2 + (j : Int)) = ((2 + j : Nat) : Int) by omega]
    exact cut_to D.str menu (2 + j)
/-! _law_part: 0=pool 1=at 2=size 3=signs 4=k -/
abbrev s__law_part : Stmt := topS 17
theorem sc__law_part : FnScope ["pool", "at", "size", "signs", "k"] ["pool", "at", "size"] (defScope s__law_part) := ⟨rfl, rfl, rfl, by decide +kernel, rfl, by decide +kernel, by decide +kernel⟩
theorem ok__law_part {P : Program} {w : World} {K : PySem.W.Frag} {mg : Str → Option Value} {base : Heap}  (F : FunAt K mg "_law_part" "_law_part" s__law_part ["pool", "at", "size"]) (T : Glb mg) (C__law_next : Cal0 P w K mg base (1) "_law_next" ["pool", "at"] R__law_next) : Cal0 P w K mg base (2) "_law_part" ["pool", "at", "size"] R__law_part := by
  refine cal0 F sc__law_part (fun ds M Φ Ψ h => ?_) (fun f cdv A outer s H E hr => ⟨_, (pss_cons (ps_asg (pe_slice sl_U (pe_lst (pa_cons pe_str (pa_cons pe_str (pa_cons pe_str (pa_cons pe_str (pa_cons pe_str (pa_cons pe_str pa_nil))))))) po_none (po_some (pe_op op_addU pe_int (pe_op op_modN (pe_cal (W := WF) C__law_next (hr.mono (by first | decide | omega)) (by rfl) (pa_cons (pv 0) (pa_cons (pv 1) pa_nil))) pe_int)))) (pg_name (i := 3) sc__law_part.nd rfl (by first | exact Or.inl rfl | exact Or.inr rfl)))
      (pss_one (ps_ret (pe_lc (own := [("k", 4)]) (by rfl) sc__law_part.nd (pi_range1 (by rfl) T.m_range (pa_cons (pv 2) pa_nil)) (blkOk_by (own := [("k", 4)]) (N := ["pool", "at", "size", "signs", "k"]) (sc := defScope s__law_part) (by decide +kernel)) (fun _ _ _ _ _ => (pg_name (i := 4) sc__law_part.nd rfl (by first | exact Or.inl rfl | exact Or.inr rfl))) (fun _ _ _ _ _ => pts_nil) (fun _ _ _ _ _ => (pe_cast (pe_ix ix_seq (pv 3) (pe_op op_modN (pe_cal (W := WF) C__law_next (hr.mono (by first | decide | omega)) (by rfl) (pa_cons (pv 0) (pa_cons (pv 1) pa_nil))) (pe_callB call_lenU (by rfl) T.m_len (by decide +kernel) (pa_cons (pv 3) pa_nil))) (fun _ _ => rfl)) (by (try dsimp only [cx_nox, cx_k, cx_blk, cx_nox2, cx_tr, cx_suite]); try rfl))))))), fun ds M Φ Ψ h => ?_⟩)
  · obtain ⟨P, a, n, k, rfl, _⟩ := h
    rfl
  · obtain ⟨P, a, n, k, rfl, hP, hm, hn, hk, q⟩ := h
    dsimp only [cx_nox, cx_k, cx_blk, cx_nox2, cx_tr, cx_suite]
    change wps K _ _ [some _, some _, some _, none, none] _ _
    walk_at "dr"
    rename_i v n1 hv hn1
    obtain ⟨sg, hs1, hs2, hs3, e⟩ := menu_cut v hv
    rw [e]
    refine e_lc (i_rng1 (a_cons (e_var rfl (a_nil ⟨_, rfl, ⟨by omega, by omega⟩, fun i acc N => ∃ (w : Wd) (m : Int), acc = w.map .str ∧ wOk w ∧ w.length = i ∧ 0 ≤ m ∧ N = mup M a (.lst [.int m]), ?_, ?_, ?_, ?_⟩))))
    · exact ⟨[], n1, rfl, fun _ h => (nomatch h), rfl, hn1, rfl⟩
    · intros
      trivial
    · rintro i acc N p hi ⟨w, m, rfl, hw, hl, hm0, rfl⟩ hp
      have hap : a ≠ p := by
        rintro rfl
        rw [mup_same] at hp
        cases hp
      have hs0 : (0 : Int) < ((sg.map D.str).length : Int) := by rw [List.length_map]; omega
      have hs : ((sg.map D.str).length : Int) ≠ 0 := by omega
      refine ⟨by rw [List.length_map]; omega, ?_⟩
      walk_at "dr"
      rename_i v2 m2 hv2 hm2
      refine o_ixMod (.lst (.imm _)) rfl hs0 hv2 fun d hd => ?_
      obtain ⟨s, h1, rfl⟩ := List.mem_map.mp hd
      rw [mup3 hap]
      refine ⟨mup M a (.lst [.int m2]), ?_, Sub.refl _, w ++ [s], m2, by rw [List.map_append]; rfl, hw.app (fun x hx => ?_), by rw [List.length_append, hl]; rfl, hm2, rfl⟩
      · rw [mup_ne (Ne.symm hap)] at hp ⊢
        exact hp
      · rw [List.mem_singleton.mp hx]
        exact hs2 _ h1
    · rintro acc N ⟨w, m, rfl, hw, hl, hm0, rfl⟩
      rw [Int.toNat_natCast] at hl
      exact q w m hw hl hm0
end P1


section P2
local macro_rules | `(tactic| walk_at "isi") => `(tactic| first
  | ((with_reducible show wpn _ _ [(.non : D), _] _ _); first | with_reducible refine c_isi .non kt_NoneType_int ?_ | with_reducible refine c_isi .non kt_NoneType_bool ?_ | with_reducible refine c_isi .non kt_NoneType_str ?_ | with_reducible refine c_isi .non kt_NoneType_tuple ?_ | with_reducible refine c_isi .non kt_NoneType_list ?_ | with_reducible refine c_isi .non kt_NoneType_dict ?_ )
  | ((with_reducible show wpn _ _ [(.bl _ : D), _] _ _); first | with_reducible refine c_isi (.bl _) kt_bool_int ?_ | with_reducible refine c_isi (.bl _) kt_bool_bool ?_ | with_reducible refine c_isi (.bl _) kt_bool_str ?_ | with_reducible refine c_isi (.bl _) kt_bool_tuple ?_ | with_reducible refine c_isi (.bl _) kt_bool_list ?_ | with_reducible refine c_isi (.bl _) kt_bool_dict ?_ )
  | ((with_reducible show wpn _ _ [(.int _ : D), _] _ _); first | with_reducible refine c_isi (.int _) kt_int_int ?_ | with_reducible refine c_isi (.int _) kt_int_bool ?_ | with_reducible refine c_isi (.int _) kt_int_str ?_ | with_reducible refine c_isi (.int _) kt_int_tuple ?_ | with_reducible refine c_isi (.int _) kt_int_list ?_ | with_reducible refine c_isi (.int _) kt_int_dict ?_ )
  | ((with_reducible show wpn _ _ [(.str _ : D), _] _ _); first | with_reducible refine c_isi (.str _) kt_str_int ?_ | with_reducible refine c_isi (.str _) kt_str_bool ?_ | with_reducible refine c_isi (.str _) kt_str_str ?_ | with_reducible refine c_isi (.str _) kt_str_tuple ?_ | with_reducible refine c_isi (.str _) kt_str_list ?_ | with_reducible refine c_isi (.str _) kt_str_dict ?_ )
  | ((with_reducible show wpn _ _ [(.lst _ : D), _] _ _); first | with_reducible refine c_isi (.lst _) kt_list_int ?_ | with_reducible refine c_isi (.lst _) kt_list_bool ?_ | with_reducible refine c_isi (.lst _) kt_list_str ?_ | with_reducible refine c_isi (.lst _) kt_list_tuple ?_ | with_reducible refine c_isi (.lst _) kt_list_list ?_ | with_reducible refine c_isi (.lst _) kt_list_dict ?_ )
  | ((with_reducible show wpn _ _ [(.tup _ : D), _] _ _); first | with_reducible refine c_isi (.tup _) kt_tuple_int ?_ | with_reducible refine c_isi (.tup _) kt_tuple_bool ?_ | with_reducible refine c_isi (.tup _) kt_tuple_str ?_ | with_reducible refine c_isi (.tup _) kt_tuple_tuple ?_ | with_reducible refine c_isi (.tup _) kt_tuple_list ?_ | with_reducible refine c_isi (.tup _) kt_tuple_dict ?_ )
  | (first | refine c_isi (.cell (by walk_at "lk")) kt_list_int ?_ | refine c_isi (.cell (by walk_at "lk")) kt_list_bool ?_ | refine c_isi (.cell (by walk_at "lk")) kt_list_str ?_ | refine c_isi (.cell (by walk_at "lk")) kt_list_tuple ?_ | refine c_isi (.cell (by walk_at "lk")) kt_list_list ?_ | refine c_isi (.cell (by walk_at "lk")) kt_list_dict ?_ ))
local macro_rules | `(tactic| walk_at "ne") => `(tactic| first
  | assumption
  | exact Ne.symm (by assumption)
  | exact mne (by assumption) (by assumption)
  | exact Ne.symm (mne (by assumption) (by assumption)))
local macro_rules | `(tactic| walk_at "lk") => `(tactic| first
  | with_reducible exact mup_same
  | assumption
  | (refine Eq.trans (mup_ne (by walk_at "ne")) ?_; walk_at "lk"))
local macro_rules | `(tactic| walk_at "sz") => `(tactic| first
  | exact Nat.le_of_ble_eq_true rfl
  | assumption
  | omega
  | (simp only [List.length_append, List.length_map, List.length_cons, List.length_nil, List.length_replicate, List.length_take, List.length_drop]; omega)
  | (simp only [List.length_append, List.length_map, List.length_cons, List.length_nil, List.length_replicate] at *; omega))
local macro_rules | `(tactic| walk_at "ix") => `(tactic| first
  | exact rfl
  | assumption
  | exact atI_nat (by assumption)
  | exact atI_map (by assumption))
local macro_rules | `(tactic| walk_at "cm") => `(tactic| first
  | exact Or.inl ⟨by decide, by decide⟩
  | exact Or.inr ⟨by decide, by decide⟩
  | exact Or.inl ⟨by omega, by omega⟩
  | exact Or.inr ⟨by omega, by omega⟩
  | exact Or.inl (cm_mod (by decide) (by decide)))
local macro_rules | `(tactic| walk_at "sv") => `(tactic| first
  | with_reducible exact .lst (.imm _)
  | with_reducible exact .tup _
  | with_reducible exact .scr _
  | exact .lst (.cell (by walk_at "lk")))
local macro_rules | `(tactic| walk_at "kv") => `(tactic| first
  | with_reducible exact .lst (.imm _)
  | with_reducible exact .scr _
  | exact .lst (.cell (by walk_at "lk")))
local macro_rules | `(tactic| walk_at "lv") => `(tactic| first
  | with_reducible exact .imm _
  | exact .cell (by walk_at "lk"))
local macro_rules | `(tactic| walk_at "cl") => `(tactic| fail "no callee's word")
local macro_rules | `(tactic| walk_at "rs") => `(tactic| fail "no raise")
local macro_rules | `(tactic| walk_at "d_s") => `(tactic| first
  | with_reducible refine s_seq ?_
  | with_reducible refine s_asg ?_
  | with_reducible refine s_ret ?_
  | with_reducible refine s_if ?_
  | with_reducible refine s_drop ?_
  | with_reducible refine s_next ?_
  | with_reducible refine s_retN ?_
  | with_reducible refine s_brk ?_
  | with_reducible refine s_cont ?_
  | with_reducible refine s_dput ?_
  | walk_at "rs")
local macro_rules | `(tactic| walk_at "ec") => `(tactic| fail "no wish about calls")
local macro_rules | `(tactic| walk_at "d_e") => `(tactic| first
  | walk_at "ec"
  | ((with_reducible refine' e_var ?vh ?vk); (case vh => exact rfl))
  | with_reducible refine e_op ?_
  | with_reducible refine e_int ?_
  | with_reducible refine e_str ?_
  | with_reducible refine e_cb ?_
  | with_reducible refine e_call ?_
  | with_reducible refine e_tup ?_
  | with_reducible refine e_lst ?_
  | with_reducible refine e_sl ?_
  | with_reducible refine e_and ?_
  | with_reducible refine e_not ?_
  | with_reducible refine e_bl ?_
  | with_reducible refine e_non ?_
  | with_reducible refine e_or ?_
  | with_reducible refine e_ite ?_
  | with_reducible refine e_notT ?_
  | with_reducible refine e_ty ?_
  | with_reducible refine e_un ?_
  | with_reducible refine e_bm ?_
  | with_reducible refine e_joined ?_
  | with_reducible refine e_lstC ?_
  | with_reducible refine e_dget2 ?_
  | with_reducible refine e_dget ?_
  | with_reducible refine e_dget1 ?_
  | with_reducible refine e_din ?_
  | ((with_reducible refine e_dnew ?_); intro _ _)
  | with_reducible refine e_orL ?_)
local macro_rules | `(tactic| walk_at "d_t") => `(tactic| first
  | with_reducible refine t_test ?_
  | with_reducible refine t_not ?_
  | with_reducible refine t_and ?_
  | with_reducible refine t_or ?_
  | with_reducible refine t_yes ?_
  | with_reducible refine t_B ?_
  | with_reducible refine t_tru ?_)
local macro_rules | `(tactic| walk_at "d_2") => `(tactic| first
  | with_reducible refine o_addI ?_
  | with_reducible refine o_eqI ?_
  | with_reducible refine o_eqS ?_
  | ((with_reducible refine' o_ix ?xs1 ?xs2 ?xs3); (case xs1 => walk_at "sv"); (case xs2 => walk_at "ix"))
  | with_reducible refine o_neI ?_
  | with_reducible refine o_neS ?_
  | with_reducible refine o_lt ?_
  | with_reducible refine o_le ?_
  | with_reducible refine o_gt ?_
  | with_reducible refine o_ge ?_
  | with_reducible refine o_subI ?_
  | ((with_reducible refine o_mod ?md ?_); (case md => first | decide | omega | assumption))
  | ((with_reducible refine o_fdiv ?md ?_); (case md => first | decide | exact ⟨by omega, by omega⟩))
  | ((with_reducible refine o_mulI ?cm ?_); (case cm => walk_at "cm"))
  | ((with_reducible refine o_addT ?sz ?_); (case sz => walk_at "sz"))
  | ((with_reducible refine' o_addL ?l1 ?l2 ?sz ?n); (case l1 => walk_at "lv"); (case l2 => walk_at "lv"); (case sz => walk_at "sz"); (try simp only [← List.map_append]); first | assumption | refine .imm ?_)
  | ((with_reducible refine o_isN rfl ?_); try dsimp only)
  | ((with_reducible refine o_notN rfl ?_); try dsimp only)
  | with_reducible refine o_eqB ?_
  | with_reducible refine o_neB ?_
  | ((with_reducible refine o_pow ?cp ?_); (case cp => exact ⟨by decide, by decide, by decide⟩)))
local macro_rules | `(tactic| walk_at "d_n") => `(tactic| first
  | ((with_reducible refine' c_len ?xs1 ?xs3); (case xs1 => walk_at "sv"))
  | walk_at "isi"
  | ((with_reducible refine' c_list ?xs1 ?xs3); (case xs1 => walk_at "sv"); first | assumption | refine .imm ?_)
  | ((with_reducible refine' c_tupleL ?xs1 ?xs3); (case xs1 => walk_at "kv"))
  | with_reducible refine c_tupleT ?_
  | with_reducible refine c_intI ?_
  | with_reducible refine c_intB ?_
  | with_reducible refine c_max2 ?_
  | with_reducible refine c_min2 ?_
  | ((with_reducible refine' c_listC ?xs1 ?xs3); (case xs1 => walk_at "sv"); intro p hp))
local macro_rules | `(tactic| walk_at "d_m") => `(tactic| first
  | ((with_reducible refine' m_append ?lk ?sz ?q); (case lk => walk_at "lk"); (case sz => walk_at "sz"); try simp only [mup_mup])
  | ((with_reducible refine' m_extend ?lk ?lv ?sz ?q); (case lk => walk_at "lk"); (case lv => walk_at "lv"); (case sz => walk_at "sz"); try simp only [mup_mup]))
local macro_rules | `(tactic| walk_at "d_g") => `(tactic| first
  | ((with_reducible refine g_name ?_); try dsimp only [List.set_cons_succ, List.set_cons_zero])
  | (with_reducible refine g_tup rfl ?_)
  | (with_reducible refine g_setL ?_)
  | (with_reducible refine gl_tup rfl ?_)
  | ((with_reducible refine gl_name ?gm ?_); (case gm => decide); try dsimp only [DA.dwipe, List.set_cons_succ, List.set_cons_zero]))
local macro_rules | `(tactic| walk_at "d_h") => `(tactic| first
  | with_reducible refine g_nil ?_
  | ((with_reducible refine g_cons ?_); try dsimp only [List.set_cons_succ, List.set_cons_zero])
  | with_reducible refine g_consG ?_
  | with_reducible refine gl_nil ?_
  | ((with_reducible refine gl_cons ?gm ?_); (case gm => decide); try dsimp only [DA.dwipe, List.set_cons_succ, List.set_cons_zero])
  | with_reducible refine gl_consG ?_)
local macro_rules | `(tactic| walk_at "d_x") => `(tactic| first
  | with_reducible refine ⟨_, Tv.bl _, ?_⟩
  | ((with_reducible refine ⟨_, rfl, ?_⟩); try dsimp only)
  | with_reducible refine two_t ?_
  | with_reducible refine two_f ?_
  | with_reducible refine two_nt ?_
  | with_reducible refine two_nf ?_
  | ((with_reducible refine ⟨?szl, NewL.imm ?_⟩); (case szl => exact Nat.le_of_ble_eq_true rfl))
  | ((with_reducible refine ⟨?szl, fun p hp => ?_⟩); (case szl => exact Nat.le_of_ble_eq_true rfl))
  | ((with_reducible refine ⟨?szl, ?_⟩); (case szl => exact Nat.le_of_ble_eq_true rfl))
  | ((with_reducible refine' ⟨_, _, _, _, rfl, rfl, ?lk, ?ij, ?_⟩); (case lk => walk_at "lk"); (case ij => exact rfl); try dsimp only [List.set_cons_succ, List.set_cons_zero])
  | ((with_reducible refine' ⟨_, _, rfl, ?lk, ?_⟩); (case lk => walk_at "lk"))
  | ((with_reducible refine' ⟨_, .inr _, ?lk, rfl, ?_⟩); (case lk => walk_at "lk"))
  | ((with_reducible refine' ⟨_, .inl _, ?lk, rfl, ?_⟩); (case lk => walk_at "lk"))
  | ((with_reducible refine' ⟨_, _, .inr _, rfl, ?lk, rfl, ?sz, ?_⟩); (case lk => walk_at "lk"); (case sz => walk_at "sz"); try simp only [mup_mup])
  | ((with_reducible refine' ⟨_, _, .inl _, rfl, ?lk, rfl, ?sz, ?_⟩); (case lk => walk_at "lk"); (case sz => walk_at "sz"); try simp only [mup_mup])
  | ((with_reducible refine ⟨?tyc, ?_⟩); (case tyc => exact ty_cell (by walk_at "lk")))
  | walk_at "cl")
local macro_rules | `(tactic| walk_at "ds") => `(tactic| first
  | ((with_reducible show wpe _ _ _ _ _ _ _); walk_at "d_e")
  | ((with_reducible show wps _ _ _ _ _ _); walk_at "d_s")
  | ((with_reducible show wp2 _ _ _ _ _ _); walk_at "d_2")
  | ((with_reducible show wpa _ _ _ _ _ _ _); first | with_reducible refine a_cons ?_ | with_reducible refine a_nil ?_)
  | ((with_reducible show wpn _ _ _ _ _); walk_at "d_n")
  | ((with_reducible show wpt _ _ _ _ _ _ _); walk_at "d_t")
  | ((with_reducible show wpg _ _ _ _ _ _ _ _); walk_at "d_g")
  | ((with_reducible show wpgs _ _ _ _ _ _ _ _); walk_at "d_h")
  | ((with_reducible show wpgl _ _ _ _ _ _ _); walk_at "d_g")
  | ((with_reducible show wpgls _ _ _ _ _ _ _); walk_at "d_h")
  | ((with_reducible show wpm _ _ _ _ _ _); walk_at "d_m")
  | ((with_reducible show wpo _ _ _ _ _ _ _); first | with_reducible refine p_none ?_ | with_reducible refine p_some ?_)
  | ((with_reducible show wps3 _ _ _ _ _ _ _); first | ((with_reducible refine' sl_L ?kv ?q); (case kv => walk_at "kv"); (try simp only [cut_to, cut_from, cut_from2, cut_at, List.length_map]); first | assumption | refine .imm ?_) | ((with_reducible refine sl_T ?_); try simp only [cut_to, cut_from, cut_from2, cut_at, List.length_map]))
  | ((with_reducible show wp1 _ _ _ _ _); first | with_reducible refine u_neg ?_)
  | ((with_reducible show wpj _ _ _ _ _ _ _ _); first | with_reducible refine j_nil ?_ | with_reducible refine j_cons ?_)
  | walk_at "d_x"
  | dsimp only)
local macro_rules | `(tactic| walk_at "dr") => `(tactic| repeat (walk_at "ds"))

/-- data that _law_same walks: n deep at most -/
inductive Sd : Nat → D → Prop
  | non {n : Nat} : Sd (n + 1) .non
  | bl {n : Nat} (b : Bool) : Sd (n + 1) (.bl b)
  | int {n : Nat} (i : Int) : Sd (n + 1) (.int i)
  | str {n : Nat} (x : Str) : Sd (n + 1) (.str x)
  | lst {n : Nat} {ds : List D} (l : ds.length ≤ 1000000) (h : ∀ d ∈ ds, Sd n d) : Sd (n + 1) (.lst ds)
  | tup {n : Nat} {ds : List D} (l : ds.length ≤ 1000000) (h : ∀ d ∈ ds, Sd n d) : Sd (n + 1) (.tup ds)
def R__law_same (n : Nat) : RD := fun ds M Φ _ => ∃ d, ds = [d, d] ∧ Sd n d ∧ Φ (.bl true) M
/-! _law_same: 0=told 1=due 2=k -/
abbrev s__law_same : Stmt := topS 14
theorem sc__law_same : FnScope ["told", "due", "k"] ["told", "due"] (defScope s__law_same) := ⟨rfl, rfl, rfl, by decide +kernel, rfl, by decide +kernel, by decide +kernel⟩
theorem ok__law_same {P : Program} {w : World} {K : PySem.W.Frag} {mg : Str → Option Value} {base : Heap} {n : Nat} (F : FunAt K mg "_law_same" "_law_same" s__law_same ["told", "due"]) (T : Glb mg) (C__law_same : Cal0 P w K mg base (n) "_law_same" ["told", "due"] (R__law_same n)) : Cal0 P w K mg base (n + 1) "_law_same" ["told", "due"] (R__law_same (n + 1)) := by
  refine cal0 F sc__law_same (fun ds M Φ Ψ h => ?_) (fun f cdv A outer s H E hr => ⟨_, (pss_cons (ps_if (pt_cmpR op_isN (pv 1) pe_non (nomark _)) (pss_one (ps_ret (pe_cmpR op_isN (pv 0) pe_non (nomark _)))) pss_nil)
      (pss_cons (ps_if (pt_truth (pe_callB call_isi (by rfl) T.m_isinstance (by decide +kernel) (pa_cons (pv 1) (pa_cons (pe_bltn (v := .ty "bool") (by rfl) T.m_bool (by decide +kernel) rfl) pa_nil))) (by intro _; rfl)) (pss_one (ps_ret (pe_and (pe_callB call_isi (by rfl) T.m_isinstance (by decide +kernel) (pa_cons (pv 0) (pa_cons (pe_bltn (v := .ty "bool") (by rfl) T.m_bool (by decide +kernel) rfl) pa_nil))) (pe_one (pe_cmpR (op_eqU hr.units) (pv 0) (pv 1) (nomark _)))))) pss_nil)
      (pss_cons (ps_if (pt_truth (pe_callB call_isi (by rfl) T.m_isinstance (by decide +kernel) (pa_cons (pv 1) (pa_cons (pe_bltn (v := .ty "int") (by rfl) T.m_int (by decide +kernel) rfl) pa_nil))) (by intro _; rfl)) (pss_one (ps_ret (pe_and (pe_callB call_isi (by rfl) T.m_isinstance (by decide +kernel) (pa_cons (pv 0) (pa_cons (pe_bltn (v := .ty "int") (by rfl) T.m_int (by decide +kernel) rfl) pa_nil))) (pe_and (pe_not (pe_callB call_isi (by rfl) T.m_isinstance (by decide +kernel) (pa_cons (pv 0) (pa_cons (pe_bltn (v := .ty "bool") (by rfl) T.m_bool (by decide +kernel) rfl) pa_nil)))) (pe_one (pe_cmpR (op_eqU hr.units) (pv 0) (pv 1) (nomark _))))))) pss_nil)
      (pss_cons (ps_if (pt_truth (pe_callB call_isi (by rfl) T.m_isinstance (by decide +kernel) (pa_cons (pv 1) (pa_cons (pe_bltn (v := .ty "str") (by rfl) T.m_str (by decide +kernel) rfl) pa_nil))) (by intro _; rfl)) (pss_one (ps_ret (pe_and (pe_callB call_isi (by rfl) T.m_isinstance (by decide +kernel) (pa_cons (pv 0) (pa_cons (pe_bltn (v := .ty "str") (by rfl) T.m_str (by decide +kernel) rfl) pa_nil))) (pe_one (pe_cmpR (op_eqU hr.units) (pv 0) (pv 1) (nomark _)))))) pss_nil)
      (pss_cons (ps_if (PW.pt (pw_or (PW.pt (pw_and (pt_truth (pe_callB call_isi (by rfl) T.m_isinstance (by decide +kernel) (pa_cons (pv 1) (pa_cons (pe_bltn (v := .ty "tuple") (by rfl) T.m_tuple (by decide +kernel) rfl) pa_nil))) (by intro _; rfl)) (pw_and1 (pt_not (pt_truth (pe_callB call_isi (by rfl) T.m_isinstance (by decide +kernel) (pa_cons (pv 0) (pa_cons (pe_bltn (v := .ty "tuple") (by rfl) T.m_tuple (by decide +kernel) rfl) pa_nil))) (by intro _; rfl)))))) (pw_or1 (PW.pt (pw_and (pt_truth (pe_callB call_isi (by rfl) T.m_isinstance (by decide +kernel) (pa_cons (pv 1) (pa_cons (pe_bltn (v := .ty "list") (by rfl) T.m_list (by decide +kernel) rfl) pa_nil))) (by intro _; rfl)) (pw_and1 (pt_not (pt_truth (pe_callB call_isi (by rfl) T.m_isinstance (by decide +kernel) (pa_cons (pv 0) (pa_cons (pe_bltn (v := .ty "list") (by rfl) T.m_list (by decide +kernel) rfl) pa_nil))) (by intro _; rfl))))))))) (pss_one (ps_ret pe_bl)) pss_nil)
      (pss_cons (ps_if (pt_cmpR (op_neU hr.units) (pe_callB call_lenU (by rfl) T.m_len (by decide +kernel) (pa_cons (pv 0) pa_nil)) (pe_callB call_lenU (by rfl) T.m_len (by decide +kernel) (pa_cons (pv 1) pa_nil)) (nomark _)) (pss_one (ps_ret pe_bl)) pss_nil)
      (pss_cons (ps_for PassesOwn.never rfl (pi_range1 (by rfl) T.m_range (pa_cons (pe_callB call_lenU (by rfl) T.m_len (by decide +kernel) (pa_cons (pv 1) pa_nil)) pa_nil)) (pg_name (i := 2) sc__law_same.nd rfl (by first | exact Or.inl rfl | exact Or.inr rfl))
      (pss_one (ps_if (pt_not (pt_truth (pe_cal (W := WF) C__law_same (hr.mono (by first | decide | omega)) (by rfl) (pa_cons (pe_ix ix_seq (pv 0) (pv 2) (fun _ _ => rfl)) (pa_cons (pe_ix ix_seq (pv 1) (pv 2) (fun _ _ => rfl)) pa_nil))) (by intro _; rfl))) (pss_one (ps_ret pe_bl)) pss_nil)))
      (pss_one (ps_ret pe_bl))))))))), fun ds M Φ Ψ h => ?_⟩)
  · obtain ⟨d, rfl, _⟩ := h
    rfl
  · obtain ⟨d, rfl, p, q⟩ := h
    dsimp only [cx_nox, cx_k, cx_blk, cx_nox2, cx_tr, cx_suite]
    change wps K _ _ [some _, some _, none] _ _
    cases p
    case non =>
      walk_at "dr"
      exact q
    case bl =>
      walk_at "dr"
      rw [decide_eq_true rfl]
      exact q
    case int =>
      walk_at "dr"
      rw [decide_eq_true rfl]
      exact q
    case str =>
      walk_at "dr"
      rw [decide_eq_true rfl]
      exact q
    all_goals
      rename_i ds hl hd
      walk_at "dr"
      refine two_no (by simp) ?_
      walk_at "dr"
      refine s_for (i_rng1 ?_)
      walk_at "dr"
      refine ⟨⟨by omega, by omega⟩, fun i ρ' M' => ∃ x, ρ' = [_, _, x] ∧ M' = M, ⟨_, rfl, rfl⟩, fun _ _ _ _ _ => trivial, ?_, ?_⟩
      · rintro i ρ' M' hi ⟨x, rfl, rfl⟩
        rw [Int.toNat_natCast] at hi
        have hg := List.getElem?_eq_getElem hi
        generalize ds[i] = d at hg
        walk_at "dr"
        refine ⟨d, rfl, hd d (List.mem_of_getElem? hg), ?_⟩
        walk_at "dr"
        try exact ⟨_, rfl, rfl⟩
      · rintro ρ' M' ⟨x, rfl, rfl⟩
        walk_at "dr"
        exact q
def posn (w : Wd) (s : Str) (n : Nat) : List Nat := (List.range n).filter fun i => decide (w[i]? = some s)
abbrev eN (l : List Nat) : D := .lst (l.map fun i : Nat => .int i)
theorem posn_more (w : Wd) (s : Str) (n : Nat) : posn w s (n + 1) = posn w s n ++ (if w[n]? = some s then [n] else []) := by
  unfold posn
  rw [List.range_succ, List.filter_append, List.filter_cons]
  by_cases h : w[n]? = some s
  · rw [if_pos h, if_pos (decide_eq_true h)]
    rfl
  · rw [if_neg h, if_neg (by simpa using h)]
    rfl
theorem posn_len (w : Wd) (s : Str) (n : Nat) : (posn w s n).length ≤ n := by
  unfold posn
  exact Nat.le_trans (List.length_filter_le _ _) (by rw [List.length_range]; exact Nat.le_refl _)
theorem hits_end (w p : Wd) (hp : p ≠ []) : ∀ t, hits w p (w.length + 1 - p.length + t) = hits w p (w.length + 1 - p.length)
  | 0 => rfl
  | t + 1 => by
    have hl : p.length ≠ 0 := fun z => hp (List.length_eq_zero_iff.mp z)
    rw [← Nat.add_assoc, hits_more, hits_end w p hp t, if_neg, List.append_nil]
    intro h
    have := congrArg List.length h
    rw [List.length_take, List.length_drop] at this
    omega
theorem posn_hits (w p : Wd) (s : Str) (r : Wd) (e : p = s :: r) : (posn w s w.length).filter (fun i => decide ((w.drop i).take p.length = p)) = hits w p (w.length + 1 - p.length) := by
  have hl : p.length ≠ 0 := by rw [e]; simp
  have h1 := hits_end w p (by rw [e]; simp) (p.length - 1)
  by_cases hw : p.length ≤ w.length + 1
  · rw [show w.length + 1 - p.length + (p.length - 1) = w.length by omega] at h1
    rw [← h1]
    unfold posn hits
    rw [List.filter_filter]
    refine List.filter_congr fun i _ => ?_
    rw [Bool.eq_iff_iff, Bool.and_eq_true, decide_eq_true_iff, decide_eq_true_iff]
    refine ⟨fun h => h.1, fun h => ⟨h, ?_⟩⟩
    have h2 : ((w.drop i).take p.length)[0]? = p[0]? := by rw [h]
    rw [List.getElem?_take_of_lt (by omega), List.getElem?_drop, e] at h2
    simpa using h2
  · rw [show w.length + 1 - p.length = 0 by omega]
    show _ = []
    rw [List.filter_eq_nil_iff]
    intro i _ h
    have := congrArg List.length (of_decide_eq_true h)
    rw [List.length_take, List.length_drop] at this
    omega
def R_steps_from (a : Adr) : RD := fun ds M Φ Ψ => ∃ (rs : List Rule) (x : D), ds = [eRs rs, x] ∧ rsOk rs ∧ Pl x ∧ Pls x ∧ (∀ ds, x = .lst ds → ds.length ≤ 1000) ∧ (∀ i, chk x = some i → Ψ (.ref a.BadWord) ["index"] [.int i] M) ∧
  (chk x = none → ∃ w, x = eW w ∧ wOk w ∧ w.length ≤ 600 ∧ NewL Φ M ((stepsL rs w).map eSt))
/-! steps_from: 0=rules 1=word 2=places 3=place 4=sign 5=found 6=rule 7=part 8=_ -/
abbrev s_steps_from : Stmt := topS 7
theorem sc_steps_from : FnScope ["rules", "word", "places", "place", "sign", "found", "rule", "part", "_"] ["rules", "word"] (defScope s_steps_from) := ⟨rfl, rfl, rfl, by decide +kernel, rfl, by decide +kernel, by decide +kernel⟩
theorem ok_steps_from {P : Program} {w : World} {K : PySem.W.Frag} {mg : Str → Option Value} {base : Heap}  {a : Adr} (F : FunAt K mg "steps_from" "steps_from" s_steps_from ["rules", "word"]) (T : Glb mg) (C_check_word : CalX P w K mg base (3) "check_word" ["word"] (R_check_word a)) (C_fits_at : Cal0 P w K mg base (1) "fits_at" ["word", "part", "place"] R_fits_at) : CalX P w K mg base (4) "steps_from" ["rules", "word"] (R_steps_from a) := by
  refine calX F sc_steps_from (fun ds M Φ Ψ h => ?_) (fun f cdv A outer s H E hr => ⟨_, (pss_cons (ps_expr (pe_calX (W := (fun cls d _ H' => E cls d H')) C_check_word (takes_of rfl rfl rfl rfl) (hr.mono (by first | decide | omega)) (by rfl) (pa_cons (pv 1) pa_nil)))
      (pss_cons (ps_asg pe_dnewK (pg_name (i := 2) sc_steps_from.nd rfl (by first | exact Or.inl rfl | exact Or.inr rfl)))
      (pss_cons (ps_for (passes_of rfl) rfl (pi_enum (by rfl) T.m_enumerate (pa_cons (pv 1) pa_nil)) (pg_tup (n := 2) rfl (pgs_cons (pg_name (i := 3) sc_steps_from.nd rfl (by first | exact Or.inl rfl | exact Or.inr rfl)) (pgs_cons (pg_name (i := 4) sc_steps_from.nd rfl (by first | exact Or.inl rfl | exact Or.inr rfl)) pgs_nil)))
      (pss_one (ps_dput (hu_of hr) (pv 2) (pv 4) (pe_op op_addU (pe_dget2 (hu_of hr) (pv 2) (pv 4) (pe_lst pa_nil) ⟨rfl, rfl, rfl, rfl⟩) (pe_lst (pa_cons (pv 3) pa_nil))) rfl)))
      (pss_cons (ps_asg (pe_lstC pa_nil) (pg_name (i := 5) sc_steps_from.nd rfl (by first | exact Or.inl rfl | exact Or.inr rfl)))
      (pss_cons (ps_for (passes_of rfl) rfl (pi_enum (by rfl) T.m_enumerate (pa_cons (pv 0) pa_nil)) (pg_tup (n := 2) rfl (pgs_cons (pg_name (i := 6) sc_steps_from.nd rfl (by first | exact Or.inl rfl | exact Or.inr rfl)) (pgs_cons (pg_tup (n := 2) rfl (pgs_cons (pg_name (i := 7) sc_steps_from.nd rfl (by first | exact Or.inl rfl | exact Or.inr rfl)) (pgs_cons (pg_name (i := 8) sc_steps_from.nd rfl (by first | exact Or.inl rfl | exact Or.inr rfl)) pgs_nil))) pgs_nil)))
      (pss_one (ps_for (passes_of rfl) rfl (pi_seq (pe_dget2 (hu_of hr) (pv 2) (pe_ix ix_seq (pv 7) pe_int (fun _ _ => rfl)) (pe_lst pa_nil) ⟨rfl, rfl, rfl, rfl⟩)) (pg_name (i := 3) sc_steps_from.nd rfl (by first | exact Or.inl rfl | exact Or.inr rfl))
      (pss_one (ps_if (pt_truth (pe_cal (W := (fun cls d _ H' => E cls d H')) C_fits_at (hr.mono (by first | decide | omega)) (by rfl) (pa_cons (pv 1) (pa_cons (pv 7) (pa_cons (pv 3) pa_nil)))) (by intro _; rfl)) (pss_one (ps_expr (pe_bm PySem.F.plainAttrs_list PySem.F.slot_list_append PySem.F.type_list_append mt_append (pv 5) (pa_cons (pe_tup (pa_cons (pv 6) (pa_cons (pv 3) pa_nil))) pa_nil)))) pss_nil)))))
      (pss_one (ps_ret (pv 5)))))))), fun ds M Φ Ψ h => ?_⟩)
  · obtain ⟨rs, x, rfl, _⟩ := h
    rfl
  · obtain ⟨rs, x, rfl, hr, px, ps, lx, qx, qn⟩ := h
    dsimp only [cx_nox, cx_k, cx_blk, cx_nox2, cx_tr, cx_suite]
    change wps K _ _ [some _, some _, none, none, none, none, none, none, none] _ _
    walk_at "dr"
    refine ⟨x, rfl, px, ps, lx, qx, fun hc => ?_⟩
    obtain ⟨w, rfl, hw, lw, q⟩ := qn hc
    walk_at "dr"
    rename_i p hp
    refine s_for (i_enum ?_)
    walk_at "dr"
    refine ⟨fun i ρ' M' => ∃ x y kvs, ρ' = [some (eRs rs), some (eW w), some (.ref p), x, y, none, none, none, none] ∧ M' = mup M p (.dic kvs) ∧ kvs.length ≤ i ∧ ∀ s, (valD kvs (.inr s)).getD (.lst []) = eN (posn w s i), ⟨_, _, _, rfl, rfl, Nat.le_refl _, fun _ => rfl⟩, fun _ _ _ _ _ => trivial, ?_, ?_⟩
    · rintro i ρ' M' hi ⟨x, y, kvs, rfl, rfl, hk, hv⟩
      rw [List.length_map] at hi
      have hg := List.getElem?_eq_getElem hi
      generalize w[i] = s at hg
      have hn : nth (w.map D.str) i = .str s := by
        unfold nth
        rw [List.getD_eq_getElem?_getD, List.getElem?_map, hg]
        rfl
      show wpg K _ _ (.tup [.int (i : Int), nth (w.map D.str) i]) _ _ _ _
      rw [hn]
      walk_at "dr"
      rw [hv]
      have hpl := posn_len w s i
      walk_at "dr"
      refine ⟨_, _, _, rfl, rfl, Nat.le_trans (putD_len _ _ _) (by omega), fun s' => ?_⟩
      rw [valD_put, posn_more]
      by_cases es : s' = s
      · subst es
        rw [if_pos rfl, if_pos hg]
        rw [Option.getD_some, eN, List.map_append]
        rfl
      · rw [if_neg (fun z => es (Sum.inr.inj z)), hg, if_neg (fun z => es (Option.some.inj z).symm), List.append_nil]
        exact hv s'
    · rintro ρ' M' ⟨x, y, kvs, rfl, rfl, hk, hv⟩
      rw [List.length_map] at hk hv
      walk_at "dr"
      rename_i p2 hp2
      have hpp : p ≠ p2 := by
        rintro rfl
        rw [mup_same] at hp2
        cases hp2
      refine s_for (i_enum ?_)
      walk_at "dr"
      refine ⟨fun k ρ' M' => ∃ x y z u v, ρ' = [some (eRs rs), some (eW w), some (.ref p), x, y, some (.ref p2), z, u, v] ∧ M' = mup (mup M p (.dic kvs)) p2 (.lst ((stepsTo rs w k).map eSt)), ⟨_, _, _, _, _, rfl, rfl⟩, fun _ _ _ _ _ => trivial, ?_, ?_⟩
      · rintro k ρ' M' hi ⟨x, y, z, u, v, rfl, rfl⟩
        rw [List.length_map] at hi
        have hg := List.getElem?_eq_getElem hi
        generalize rs[k] = r at hg
        have hr1 := hr.all r (List.mem_of_getElem? hg)
        have hgd : rs.getD k ([], []) = r := by rw [List.getD_eq_getElem?_getD, hg]; rfl
        have hn : nth (rs.map eR) k = eR r := by
          unfold nth
          rw [List.getD_eq_getElem?_getD, List.getElem?_map, hg]
          rfl
        show wpg K _ _ (.tup [.int (k : Int), nth (rs.map eR) k]) _ _ _ _
        rw [hn]
        obtain ⟨s, t, e⟩ : ∃ s t, r.1 = s :: t := by
          have := hr1.ne
          cases h : r.1 with
          | nil => exact absurd h this
          | cons s t => exact ⟨s, t, rfl⟩
        have h0 : r.1[0]? = some s := by rw [e]; rfl
        have h0' : L2.atI (r.1.map D.str) 0 = some (.str s) := atI_map (k := 0) h0
        walk_at "dr"
        refine s_for (i_seq ?_)
        walk_at "dr"
        rw [hv]
        refine ⟨_, .inl rfl, fun j ρ' M' => ∃ x, ρ' = [some (eRs rs), some (eW w), some (.ref p), x, y, some (.ref p2), some (.int k), some (eP r.1), some (eP r.2)] ∧ M' = mup (mup M p (.dic kvs)) p2 (.lst ((stepsTo rs w k ++ (((posn w s w.length).take j).filter fun i => decide ((w.drop i).take r.1.length = r.1)).map fun q => (k, q)).map eSt)), ⟨_, rfl, ?_⟩, fun _ _ _ _ _ => trivial, ?_, ?_⟩
        · rw [List.take_zero, List.filter_nil, List.map_nil, List.append_nil]
        · rintro j ρ' M' hj ⟨x, rfl, rfl⟩
          rw [List.length_map] at hj
          have hq := List.getElem?_eq_getElem hj
          generalize he : (posn w s w.length)[j] = pl at hq
          have hn : nth ((posn w s w.length).map fun i : Nat => D.int i) j = .int (pl : Int) := by
            unfold nth
            rw [List.getD_eq_getElem?_getD, List.getElem?_map, hq]
            rfl
          rw [hn]
          have hsz : ((stepsTo rs w k ++ (((posn w s w.length).take j).filter fun i => decide ((w.drop i).take r.1.length = r.1)).map fun q => (k, q)).map eSt).length < 16777216 := by
            have h1 := steps_len rs w k
            have h2 := posn_len w s w.length
            have h3 := hr.len
            have h4 : k * (w.length + 1) ≤ 6 * 601 := Nat.mul_le_mul (by omega) (by omega)
            have h5 := List.length_filter_le (fun i => decide ((w.drop i).take r.1.length = r.1)) ((posn w s w.length).take j)
            rw [List.length_take] at h5
            rw [List.length_map, List.length_append, List.length_map]
            omega
          walk_at "dr"
          refine ⟨w, r.1, pl, rfl, hw, hr1.o1, by omega, by have := hr1.l1; omega, ?_⟩
          walk_at "dr"
          refine ⟨fun h => ?_, fun h => ?_⟩
          · walk_at "dr"
            rw [List.take_succ, hq, List.filter_append]
            simp only [Option.toList_some, List.filter_cons, List.filter_nil, h, if_true, List.map_append, List.append_assoc, List.map_cons, List.map_nil]
          · walk_at "dr"
            rw [List.take_succ, hq, List.filter_append]
            simp only [Option.toList_some, List.filter_cons, List.filter_nil, h, Bool.false_eq_true, if_false, List.append_nil]
        · rintro ρ' M' ⟨x, rfl, rfl⟩
          refine ⟨_, _, _, _, _, rfl, ?_⟩
          rw [List.length_map, List.take_length, posn_hits w r.1 s t e, stepsTo_more, stepsAt, hgd]
      · rintro ρ' M' ⟨x, y, z, u, v, rfl, rfl⟩
        rw [List.length_map]
        exact wps.ret rfl (Sub.both (Sub.new hp (Sub.refl _))) (by rw [mup_ne (Ne.symm hpp)] at hp2; exact hp2) q

/-- what a step makes of a word -/
def stpN (rs : List Rule) (w : Wd) (k p : Nat) : Option Wd := match rs[k]? with
  | some u => if (w.drop p).take u.1.length = u.1 ∧ p + u.1.length ≤ w.length then some (w.take p ++ u.2 ++ w.drop (p + u.1.length)) else none
  | none => none
def stp2 (rs : List Rule) (w : Wd) : D → D → Option Wd
  | .int r, .int p => if 0 ≤ r ∧ 0 ≤ p then stpN rs w r.toNat p.toNat else none
  | _, _ => none
def stp (rs : List Rule) (w : Wd) : D → Option Wd
  | .tup [y, z] => stp2 rs w y z
  | _ => none
theorem whole_inv {d : D} (h : wholeD d = true) : ∃ n : Nat, d = .int n := by
  cases d with
  | int i =>
    have h1 : 0 ≤ i := of_decide_eq_true h
    obtain ⟨n, rfl⟩ := Int.eq_ofNat_of_zero_le h1
    exact ⟨n, rfl⟩
  | _ => cases h
theorem stp_nat (rs : List Rule) (w : Wd) (k p : Nat) : stp rs w (.tup [.int k, .int p]) = stpN rs w k p := by
  show (if 0 ≤ (k : Int) ∧ 0 ≤ (p : Int) then stpN rs w (k : Int).toNat (p : Int).toNat else none) = _
  rw [if_pos ⟨by omega, by omega⟩]
  rfl
theorem stpN_none {rs : List Rule} {w : Wd} {k p : Nat} (h : rs[k]? = none) : stpN rs w k p = none := by
  unfold stpN
  rw [h]
theorem stpN_some {rs : List Rule} {w : Wd} {k p : Nat} {u : Rule} (h : rs[k]? = some u) : stpN rs w k p = if (w.drop p).take u.1.length = u.1 ∧ p + u.1.length ≤ w.length then some (w.take p ++ u.2 ++ w.drop (p + u.1.length)) else none := by
  unfold stpN
  rw [h]
theorem stp_no1 {rs : List Rule} {w : Wd} {y z : D} (h : wholeD y = false) : stp rs w (.tup [y, z]) = none := by
  show stp2 rs w y z = none
  cases y with
  | int i =>
    have h1 : ¬ 0 ≤ i := of_decide_eq_false h
    cases z with
    | int j =>
      show (if 0 ≤ i ∧ 0 ≤ j then _ else _) = _
      rw [if_neg fun z => h1 z.1]
    | _ => rfl
  | _ => rfl
theorem stp_no2 {rs : List Rule} {w : Wd} {y z : D} (h : wholeD z = false) : stp rs w (.tup [y, z]) = none := by
  show stp2 rs w y z = none
  cases z with
  | int i =>
    have h1 : ¬ 0 ≤ i := of_decide_eq_false h
    cases y with
    | int j =>
      show (if 0 ≤ j ∧ 0 ≤ i then _ else _) = _
      rw [if_neg fun z => h1 z.2]
    | _ => rfl
  | _ => cases y <;> rfl
inductive St2 : D → Prop
  | tup {ds : List D} (l : ds.length ≤ 1000) (h : ∀ d ∈ ds, Pl d) : St2 (.tup ds)
  | no {d : D} (h : Pl d) (n : ∀ ds, d ≠ .tup ds) : St2 d
def R_stepped (a : Adr) : RD := fun ds M Φ Ψ => ∃ (rs : List Rule) (x y : D), ds = [eRs rs, x, y] ∧ rsOk rs ∧ Pl x ∧ Pls x ∧ St2 y ∧ (∀ ds, x = .lst ds → ds.length ≤ 1000) ∧ (∀ i, chk x = some i → Ψ (.ref a.BadWord) ["index"] [.int i] M) ∧
  (chk x = none → ∃ w, x = eW w ∧ wOk w ∧ w.length ≤ 600 ∧ (stp rs w y = none → Φ .non M) ∧ ∀ v, stp rs w y = some v → NewL Φ M (v.map .str))
/-! stepped: 0=rules 1=word 2=step 3=rule 4=place -/
abbrev s_stepped : Stmt := topS 9
theorem sc_stepped : FnScope ["rules", "word", "step", "rule", "place"] ["rules", "word", "step"] (defScope s_stepped) := ⟨rfl, rfl, rfl, by decide +kernel, rfl, by decide +kernel, by decide +kernel⟩
theorem ok_stepped {P : Program} {w : World} {K : PySem.W.Frag} {mg : Str → Option Value} {base : Heap}  {a : Adr} (F : FunAt K mg "stepped" "stepped" s_stepped ["rules", "word", "step"]) (T : Glb mg) (C_check_word : CalX P w K mg base (3) "check_word" ["word"] (R_check_word a)) (C_is_whole : Cal0 P w K mg base (1) "is_whole" ["value"] R_is_whole) (C_fits_at : Cal0 P w K mg base (1) "fits_at" ["word", "part", "place"] R_fits_at) : CalX P w K mg base (4) "stepped" ["rules", "word", "step"] (R_stepped a) := by
  refine calX F sc_stepped (fun ds M Φ Ψ h => ?_) (fun f cdv A outer s H E hr => ⟨_, (pss_cons (ps_expr (pe_calX (W := (fun cls d _ H' => E cls d H')) C_check_word (takes_of rfl rfl rfl rfl) (hr.mono (by first | decide | omega)) (by rfl) (pa_cons (pv 1) pa_nil)))
      (pss_cons (ps_if (PW.pt (pw_or (pt_not (pt_truth (pe_callB call_isi (by rfl) T.m_isinstance (by decide +kernel) (pa_cons (pv 2) (pa_cons (pe_bltn (v := .ty "tuple") (by rfl) T.m_tuple (by decide +kernel) rfl) pa_nil))) (by intro _; rfl))) (pw_or (pt_cmpR (op_neU hr.units) (pe_callB call_lenU (by rfl) T.m_len (by decide +kernel) (pa_cons (pv 2) pa_nil)) pe_int (nomark _)) (pw_or (pt_not (pt_truth (pe_cal (W := (fun cls d _ H' => E cls d H')) C_is_whole (hr.mono (by first | decide | omega)) (by rfl) (pa_cons (pe_ix ix_seq (pv 2) pe_int (fun _ _ => rfl)) pa_nil)) (by intro _; rfl))) (pw_or1 (pt_not (pt_truth (pe_cal (W := (fun cls d _ H' => E cls d H')) C_is_whole (hr.mono (by first | decide | omega)) (by rfl) (pa_cons (pe_ix ix_seq (pv 2) pe_int (fun _ _ => rfl)) pa_nil)) (by intro _; rfl)))))))) (pss_one (ps_ret pe_non)) pss_nil)
      (pss_cons (ps_asg (pv 2) (pg_tup (n := 2) rfl (pgs_cons (pg_name (i := 3) sc_stepped.nd rfl (by first | exact Or.inl rfl | exact Or.inr rfl)) (pgs_cons (pg_name (i := 4) sc_stepped.nd rfl (by first | exact Or.inl rfl | exact Or.inr rfl)) pgs_nil))))
      (pss_cons (ps_if (PW.pt (pw_or (pt_cmpR op_ge (pv 3) (pe_callB call_lenU (by rfl) T.m_len (by decide +kernel) (pa_cons (pv 0) pa_nil)) (nomark _)) (pw_or (pt_not (pt_truth (pe_cal (W := (fun cls d _ H' => E cls d H')) C_fits_at (hr.mono (by first | decide | omega)) (by rfl) (pa_cons (pv 1) (pa_cons (pe_ix ix_seq (pe_ix ix_seq (pv 0) (pv 3) (fun _ _ => rfl)) pe_int (fun _ _ => rfl)) (pa_cons (pv 4) pa_nil)))) (by intro _; rfl))) (pw_or1 (pt_cmpR op_gt (pe_op op_addU (pv 4) (pe_callB call_lenU (by rfl) T.m_len (by decide +kernel) (pa_cons (pe_ix ix_seq (pe_ix ix_seq (pv 0) (pv 3) (fun _ _ => rfl)) pe_int (fun _ _ => rfl)) pa_nil))) (pe_callB call_lenU (by rfl) T.m_len (by decide +kernel) (pa_cons (pv 1) pa_nil)) (nomark _)))))) (pss_one (ps_ret pe_non)) pss_nil)
      (pss_one (ps_ret (pe_op op_addU (pe_op op_addU (pe_slice sl_U (pv 1) po_none (po_some (pv 4))) (pe_callTy call_list_of (by rfl) T.m_list (by decide +kernel) (pa_cons (pe_ix ix_seq (pe_ix ix_seq (pv 0) (pv 3) (fun _ _ => rfl)) pe_int (fun _ _ => rfl)) pa_nil))) (pe_slice sl_U (pv 1) (po_some (pe_op op_addU (pv 4) (pe_callB call_lenU (by rfl) T.m_len (by decide +kernel) (pa_cons (pe_ix ix_seq (pe_ix ix_seq (pv 0) (pv 3) (fun _ _ => rfl)) pe_int (fun _ _ => rfl)) pa_nil)))) po_none)))))))), fun ds M Φ Ψ h => ?_⟩)
  · obtain ⟨rs, x, y, rfl, _⟩ := h
    rfl
  · obtain ⟨rs, x, y, rfl, hr, px, ps, py, lx, qx, qn⟩ := h
    dsimp only [cx_nox, cx_k, cx_blk, cx_nox2, cx_tr, cx_suite]
    change wps K _ _ [some _, some _, some _, none, none] _ _
    walk_at "dr"
    refine ⟨x, rfl, px, ps, lx, qx, fun hc => ?_⟩
    obtain ⟨w, rfl, hw, lw, qm, q⟩ := qn hc
    cases py with
    | no h nt =>
      cases h
      case tup ds => exact absurd rfl (nt ds)
      all_goals walk_at "dr"
      all_goals exact qm rfl
    | @tup ds l h =>
      walk_at "dr"
      match ds, h with
      | [], _ =>
        refine two_yes rfl ?_
        walk_at "dr"
        exact qm rfl
      | [_], _ =>
        refine two_yes rfl ?_
        walk_at "dr"
        exact qm rfl
      | _ :: _ :: _ :: r, _ =>
        refine two_yes (by simp only [List.length_cons, Bool.not_eq_true', decide_eq_false_iff_not]; omega) ?_
        walk_at "dr"
        exact qm rfl
      | [y, z], h =>
        have hy := h y (by simp)
        have hz := h z (by simp)
        refine two_no rfl ?_
        walk_at "dr"
        refine ⟨y, rfl, hy, ?_⟩
        cases wy : wholeD y with
        | false =>
          walk_at "dr"
          exact qm (stp_no1 wy)
        | true =>
          obtain ⟨k, rfl⟩ := whole_inv wy
          walk_at "dr"
          refine ⟨z, rfl, hz, ?_⟩
          cases wz : wholeD z with
          | false =>
            walk_at "dr"
            exact qm (stp_no2 wz)
          | true =>
            obtain ⟨p, rfl⟩ := whole_inv wz
            walk_at "dr"
            cases hk : rs[k]? with
            | none =>
              have hlen := List.getElem?_eq_none_iff.mp hk
              refine two_yes (decide_eq_true (by rw [List.length_map]; omega)) ?_
              walk_at "dr"
              exact qm (by rw [stp_nat, stpN_none hk])
            | some u =>
              have hlen := (List.getElem?_eq_some_iff.mp hk).1
              have hu := hr.all u (List.mem_of_getElem? hk)
              have l1 := hu.l1
              have l2 := hu.l2
              refine two_no (decide_eq_false (by rw [List.length_map]; omega)) ?_
              walk_at "dr"
              refine ⟨w, u.1, p, rfl, hw, hu.o1, by omega, by omega, ?_⟩
              by_cases hf : (w.drop p).take u.1.length = u.1
              · rw [decide_eq_true hf]
                have hpl : p + u.1.length ≤ w.length := by
                  have h1 := congrArg List.length hf
                  have h2 : u.1.length ≠ 0 := fun z => hu.ne (List.length_eq_zero_iff.mp z)
                  rw [List.length_take, List.length_drop] at h1
                  omega
                have q' := q _ (by rw [stp_nat, stpN_some hk]; exact if_pos ⟨hf, hpl⟩)
                walk_at "dr"
                refine two_no (decide_eq_false (by simp only [List.length_map]; omega)) ?_
                walk_at "dr"
              · rw [decide_eq_false hf]
                walk_at "dr"
                exact qm (by rw [stp_nat, stpN_some hk]; exact if_neg fun z => hf z.1)
end P2


section P3
local macro_rules | `(tactic| walk_at "isi") => `(tactic| first
  | ((with_reducible show wpn _ _ [(.non : D), _] _ _); first | with_reducible refine c_isi .non kt_NoneType_int ?_ | with_reducible refine c_isi .non kt_NoneType_bool ?_ | with_reducible refine c_isi .non kt_NoneType_str ?_ | with_reducible refine c_isi .non kt_NoneType_tuple ?_ | with_reducible refine c_isi .non kt_NoneType_list ?_ | with_reducible refine c_isi .non kt_NoneType_dict ?_ )
  | ((with_reducible show wpn _ _ [(.bl _ : D), _] _ _); first | with_reducible refine c_isi (.bl _) kt_bool_int ?_ | with_reducible refine c_isi (.bl _) kt_bool_bool ?_ | with_reducible refine c_isi (.bl _) kt_bool_str ?_ | with_reducible refine c_isi (.bl _) kt_bool_tuple ?_ | with_reducible refine c_isi (.bl _) kt_bool_list ?_ | with_reducible refine c_isi (.bl _) kt_bool_dict ?_ )
  | ((with_reducible show wpn _ _ [(.int _ : D), _] _ _); first | with_reducible refine c_isi (.int _) kt_int_int ?_ | with_reducible refine c_isi (.int _) kt_int_bool ?_ | with_reducible refine c_isi (.int _) kt_int_str ?_ | with_reducible refine c_isi (.int _) kt_int_tuple ?_ | with_reducible refine c_isi (.int _) kt_int_list ?_ | with_reducible refine c_isi (.int _) kt_int_dict ?_ )
  | ((with_reducible show wpn _ _ [(.str _ : D), _] _ _); first | with_reducible refine c_isi (.str _) kt_str_int ?_ | with_reducible refine c_isi (.str _) kt_str_bool ?_ | with_reducible refine c_isi (.str _) kt_str_str ?_ | with_reducible refine c_isi (.str _) kt_str_tuple ?_ | with_reducible refine c_isi (.str _) kt_str_list ?_ | with_reducible refine c_isi (.str _) kt_str_dict ?_ )
  | ((with_reducible show wpn _ _ [(.lst _ : D), _] _ _); first | with_reducible refine c_isi (.lst _) kt_list_int ?_ | with_reducible refine c_isi (.lst _) kt_list_bool ?_ | with_reducible refine c_isi (.lst _) kt_list_str ?_ | with_reducible refine c_isi (.lst _) kt_list_tuple ?_ | with_reducible refine c_isi (.lst _) kt_list_list ?_ | with_reducible refine c_isi (.lst _) kt_list_dict ?_ )
  | ((with_reducible show wpn _ _ [(.tup _ : D), _] _ _); first | with_reducible refine c_isi (.tup _) kt_tuple_int ?_ | with_reducible refine c_isi (.tup _) kt_tuple_bool ?_ | with_reducible refine c_isi (.tup _) kt_tuple_str ?_ | with_reducible refine c_isi (.tup _) kt_tuple_tuple ?_ | with_reducible refine c_isi (.tup _) kt_tuple_list ?_ | with_reducible refine c_isi (.tup _) kt_tuple_dict ?_ )
  | (first | refine c_isi (.cell (by walk_at "lk")) kt_list_int ?_ | refine c_isi (.cell (by walk_at "lk")) kt_list_bool ?_ | refine c_isi (.cell (by walk_at "lk")) kt_list_str ?_ | refine c_isi (.cell (by walk_at "lk")) kt_list_tuple ?_ | refine c_isi (.cell (by walk_at "lk")) kt_list_list ?_ | refine c_isi (.cell (by walk_at "lk")) kt_list_dict ?_ ))
local macro_rules | `(tactic| walk_at "ne") => `(tactic| first
  | assumption
  | exact Ne.symm (by assumption)
  | exact mne (by assumption) (by assumption)
  | exact Ne.symm (mne (by assumption) (by assumption)))
local macro_rules | `(tactic| walk_at "lk") => `(tactic| first
  | with_reducible exact mup_same
  | assumption
  | (refine Eq.trans (mup_ne (by walk_at "ne")) ?_; walk_at "lk"))
local macro_rules | `(tactic| walk_at "sz") => `(tactic| first
  | exact Nat.le_of_ble_eq_true rfl
  | assumption
  | omega
  | (simp only [List.length_append, List.length_map, List.length_cons, List.length_nil, List.length_replicate, List.length_take, List.length_drop]; omega)
  | (simp only [List.length_append, List.length_map, List.length_cons, List.length_nil, List.length_replicate] at *; omega))
local macro_rules | `(tactic| walk_at "ix") => `(tactic| first
  | exact rfl
  | assumption
  | exact atI_nat (by assumption)
  | exact atI_map (by assumption))
local macro_rules | `(tactic| walk_at "cm") => `(tactic| first
  | exact Or.inl ⟨by decide, by decide⟩
  | exact Or.inr ⟨by decide, by decide⟩
  | exact Or.inl ⟨by omega, by omega⟩
  | exact Or.inr ⟨by omega, by omega⟩
  | exact Or.inl (cm_mod (by decide) (by decide)))
local macro_rules | `(tactic| walk_at "sv") => `(tactic| first
  | with_reducible exact .lst (.imm _)
  | with_reducible exact .tup _
  | with_reducible exact .scr _
  | exact .lst (.cell (by walk_at "lk")))
local macro_rules | `(tactic| walk_at "kv") => `(tactic| first
  | with_reducible exact .lst (.imm _)
  | with_reducible exact .scr _
  | exact .lst (.cell (by walk_at "lk")))
local macro_rules | `(tactic| walk_at "lv") => `(tactic| first
  | with_reducible exact .imm _
  | exact .cell (by walk_at "lk"))
local macro_rules | `(tactic| walk_at "cl") => `(tactic| fail "no callee's word")
local macro_rules | `(tactic| walk_at "rs") => `(tactic| fail "no raise")
local macro_rules | `(tactic| walk_at "d_s") => `(tactic| first
  | with_reducible refine s_seq ?_
  | with_reducible refine s_asg ?_
  | with_reducible refine s_ret ?_
  | with_reducible refine s_if ?_
  | with_reducible refine s_drop ?_
  | with_reducible refine s_next ?_
  | with_reducible refine s_retN ?_
  | with_reducible refine s_brk ?_
  | with_reducible refine s_cont ?_
  | with_reducible refine s_dput ?_
  | walk_at "rs")
local macro_rules | `(tactic| walk_at "ec") => `(tactic| fail "no wish about calls")
local macro_rules | `(tactic| walk_at "d_e") => `(tactic| first
  | walk_at "ec"
  | ((with_reducible refine' e_var ?vh ?vk); (case vh => exact rfl))
  | with_reducible refine e_op ?_
  | with_reducible refine e_int ?_
  | with_reducible refine e_str ?_
  | with_reducible refine e_cb ?_
  | with_reducible refine e_call ?_
  | with_reducible refine e_tup ?_
  | with_reducible refine e_lst ?_
  | with_reducible refine e_sl ?_
  | with_reducible refine e_and ?_
  | with_reducible refine e_not ?_
  | with_reducible refine e_bl ?_
  | with_reducible refine e_non ?_
  | with_reducible refine e_or ?_
  | with_reducible refine e_ite ?_
  | with_reducible refine e_notT ?_
  | with_reducible refine e_ty ?_
  | with_reducible refine e_un ?_
  | with_reducible refine e_bm ?_
  | with_reducible refine e_joined ?_
  | with_reducible refine e_lstC ?_
  | with_reducible refine e_dget2 ?_
  | with_reducible refine e_dget ?_
  | with_reducible refine e_dget1 ?_
  | with_reducible refine e_din ?_
  | ((with_reducible refine e_dnew ?_); intro _ _)
  | with_reducible refine e_orL ?_)
local macro_rules | `(tactic| walk_at "d_t") => `(tactic| first
  | with_reducible refine t_test ?_
  | with_reducible refine t_not ?_
  | with_reducible refine t_and ?_
  | with_reducible refine t_or ?_
  | with_reducible refine t_yes ?_
  | with_reducible refine t_B ?_
  | with_reducible refine t_tru ?_)
local macro_rules | `(tactic| walk_at "d_2") => `(tactic| first
  | with_reducible refine o_addI ?_
  | with_reducible refine o_eqI ?_
  | with_reducible refine o_eqS ?_
  | ((with_reducible refine' o_ix ?xs1 ?xs2 ?xs3); (case xs1 => walk_at "sv"); (case xs2 => walk_at "ix"))
  | with_reducible refine o_neI ?_
  | with_reducible refine o_neS ?_
  | with_reducible refine o_lt ?_
  | with_reducible refine o_le ?_
  | with_reducible refine o_gt ?_
  | with_reducible refine o_ge ?_
  | with_reducible refine o_subI ?_
  | ((with_reducible refine o_mod ?md ?_); (case md => first | decide | omega | assumption))
  | ((with_reducible refine o_fdiv ?md ?_); (case md => first | decide | exact ⟨by omega, by omega⟩))
  | ((with_reducible refine o_mulI ?cm ?_); (case cm => walk_at "cm"))
  | ((with_reducible refine o_addT ?sz ?_); (case sz => walk_at "sz"))
  | ((with_reducible refine' o_addL ?l1 ?l2 ?sz ?n); (case l1 => walk_at "lv"); (case l2 => walk_at "lv"); (case sz => walk_at "sz"); (try simp only [← List.map_append]); first | assumption | refine .imm ?_)
  | ((with_reducible refine o_isN rfl ?_); try dsimp only)
  | ((with_reducible refine o_notN rfl ?_); try dsimp only)
  | with_reducible refine o_eqB ?_
  | with_reducible refine o_neB ?_
  | ((with_reducible refine o_pow ?cp ?_); (case cp => exact ⟨by decide, by decide, by decide⟩)))
local macro_rules | `(tactic| walk_at "d_n") => `(tactic| first
  | ((with_reducible refine' c_len ?xs1 ?xs3); (case xs1 => walk_at "sv"))
  | walk_at "isi"
  | ((with_reducible refine' c_list ?xs1 ?xs3); (case xs1 => walk_at "sv"); first | assumption | refine .imm ?_)
  | ((with_reducible refine' c_tupleL ?xs1 ?xs3); (case xs1 => walk_at "kv"))
  | with_reducible refine c_tupleT ?_
  | with_reducible refine c_intI ?_
  | with_reducible refine c_intB ?_
  | with_reducible refine c_max2 ?_
  | with_reducible refine c_min2 ?_
  | ((with_reducible refine' c_listC ?xs1 ?xs3); (case xs1 => walk_at "sv"); intro p hp))
local macro_rules | `(tactic| walk_at "d_m") => `(tactic| first
  | ((with_reducible refine' m_append ?lk ?sz ?q); (case lk => walk_at "lk"); (case sz => walk_at "sz"); try simp only [mup_mup])
  | ((with_reducible refine' m_extend ?lk ?lv ?sz ?q); (case lk => walk_at "lk"); (case lv => walk_at "lv"); (case sz => walk_at "sz"); try simp only [mup_mup]))
local macro_rules | `(tactic| walk_at "d_g") => `(tactic| first
  | ((with_reducible refine g_name ?_); try dsimp only [List.set_cons_succ, List.set_cons_zero])
  | (with_reducible refine g_tup rfl ?_)
  | (with_reducible refine g_setL ?_)
  | (with_reducible refine gl_tup rfl ?_)
  | ((with_reducible refine gl_name ?gm ?_); (case gm => decide); try dsimp only [DA.dwipe, List.set_cons_succ, List.set_cons_zero]))
local macro_rules | `(tactic| walk_at "d_h") => `(tactic| first
  | with_reducible refine g_nil ?_
  | ((with_reducible refine g_cons ?_); try dsimp only [List.set_cons_succ, List.set_cons_zero])
  | with_reducible refine g_consG ?_
  | with_reducible refine gl_nil ?_
  | ((with_reducible refine gl_cons ?gm ?_); (case gm => decide); try dsimp only [DA.dwipe, List.set_cons_succ, List.set_cons_zero])
  | with_reducible refine gl_consG ?_)
local macro_rules | `(tactic| walk_at "d_x") => `(tactic| first
  | with_reducible refine ⟨_, Tv.bl _, ?_⟩
  | ((with_reducible refine ⟨_, rfl, ?_⟩); try dsimp only)
  | with_reducible refine two_t ?_
  | with_reducible refine two_f ?_
  | with_reducible refine two_nt ?_
  | with_reducible refine two_nf ?_
  | ((with_reducible refine ⟨?szl, NewL.imm ?_⟩); (case szl => exact Nat.le_of_ble_eq_true rfl))
  | ((with_reducible refine ⟨?szl, fun p hp => ?_⟩); (case szl => exact Nat.le_of_ble_eq_true rfl))
  | ((with_reducible refine ⟨?szl, ?_⟩); (case szl => exact Nat.le_of_ble_eq_true rfl))
  | ((with_reducible refine' ⟨_, _, _, _, rfl, rfl, ?lk, ?ij, ?_⟩); (case lk => walk_at "lk"); (case ij => exact rfl); try dsimp only [List.set_cons_succ, List.set_cons_zero])
  | ((with_reducible refine' ⟨_, _, rfl, ?lk, ?_⟩); (case lk => walk_at "lk"))
  | ((with_reducible refine' ⟨_, .inr _, ?lk, rfl, ?_⟩); (case lk => walk_at "lk"))
  | ((with_reducible refine' ⟨_, .inl _, ?lk, rfl, ?_⟩); (case lk => walk_at "lk"))
  | ((with_reducible refine' ⟨_, _, .inr _, rfl, ?lk, rfl, ?sz, ?_⟩); (case lk => walk_at "lk"); (case sz => walk_at "sz"); try simp only [mup_mup])
  | ((with_reducible refine' ⟨_, _, .inl _, rfl, ?lk, rfl, ?sz, ?_⟩); (case lk => walk_at "lk"); (case sz => walk_at "sz"); try simp only [mup_mup])
  | ((with_reducible refine ⟨?tyc, ?_⟩); (case tyc => exact ty_cell (by walk_at "lk")))
  | walk_at "cl")
local macro_rules | `(tactic| walk_at "ds") => `(tactic| first
  | ((with_reducible show wpe _ _ _ _ _ _ _); walk_at "d_e")
  | ((with_reducible show wps _ _ _ _ _ _); walk_at "d_s")
  | ((with_reducible show wp2 _ _ _ _ _ _); walk_at "d_2")
  | ((with_reducible show wpa _ _ _ _ _ _ _); first | with_reducible refine a_cons ?_ | with_reducible refine a_nil ?_)
  | ((with_reducible show wpn _ _ _ _ _); walk_at "d_n")
  | ((with_reducible show wpt _ _ _ _ _ _ _); walk_at "d_t")
  | ((with_reducible show wpg _ _ _ _ _ _ _ _); walk_at "d_g")
  | ((with_reducible show wpgs _ _ _ _ _ _ _ _); walk_at "d_h")
  | ((with_reducible show wpgl _ _ _ _ _ _ _); walk_at "d_g")
  | ((with_reducible show wpgls _ _ _ _ _ _ _); walk_at "d_h")
  | ((with_reducible show wpm _ _ _ _ _ _); walk_at "d_m")
  | ((with_reducible show wpo _ _ _ _ _ _ _); first | with_reducible refine p_none ?_ | with_reducible refine p_some ?_)
  | ((with_reducible show wps3 _ _ _ _ _ _ _); first | ((with_reducible refine' sl_L ?kv ?q); (case kv => walk_at "kv"); (try simp only [cut_to, cut_from, cut_from2, cut_at, List.length_map]); first | assumption | refine .imm ?_) | ((with_reducible refine sl_T ?_); try simp only [cut_to, cut_from, cut_from2, cut_at, List.length_map]))
  | ((with_reducible show wp1 _ _ _ _ _); first | with_reducible refine u_neg ?_)
  | ((with_reducible show wpj _ _ _ _ _ _ _ _); first | with_reducible refine j_nil ?_ | with_reducible refine j_cons ?_)
  | walk_at "d_x"
  | dsimp only)
local macro_rules | `(tactic| walk_at "dr") => `(tactic| repeat (walk_at "ds"))

theorem stp_ok {rs : List Rule} {w v : Wd} {d : D} (hr : rsOk rs) (hw : wOk w) (h : stp rs w d = some v) : wOk v ∧ v.length ≤ w.length + 3 := by
  have key : ∀ k p, stpN rs w k p = some v → wOk v ∧ v.length ≤ w.length + 3 := fun k p h => by
    cases hk : rs[k]? with
    | none =>
      rw [stpN_none hk] at h
      cases h
    | some u =>
      have hu := hr.all u (List.mem_of_getElem? hk)
      rw [stpN_some hk] at h
      split at h
      · cases h
        refine ⟨((hw.take p).app hu.o2).app (hw.drop _), ?_⟩
        have := hu.l2
        rw [List.length_append, List.length_append, List.length_take, List.length_drop]
        omega
      · cases h
  unfold stp at h
  split at h
  · unfold stp2 at h
    split at h
    · split at h
      · exact key _ _ h
      · cases h
    · cases h
  · cases h
/-- the word behind k steps -/
def dw (rs : List Rule) (w : Wd) (sts : List D) : Nat → Option Wd
  | 0 => some w
  | k + 1 => (dw rs w sts k).bind fun v => (sts[k]?).bind fun d => stp rs v d
theorem dw_ok {rs : List Rule} {w : Wd} {sts : List D} (hr : rsOk rs) (hw : wOk w) : ∀ k v, dw rs w sts k = some v → wOk v ∧ v.length ≤ w.length + 3 * k
  | 0, v, h => by
    cases h
    exact ⟨hw, by omega⟩
  | k + 1, v, h => by
    unfold dw at h
    cases e : dw rs w sts k with
    | none =>
      rw [e] at h
      cases h
    | some u =>
      rw [e, Option.bind_some] at h
      obtain ⟨h1, h2⟩ := dw_ok hr hw k u e
      cases e2 : sts[k]? with
      | none =>
        rw [e2] at h
        cases h
      | some d =>
        rw [e2, Option.bind_some] at h
        obtain ⟨h3, h4⟩ := stp_ok hr h1 h
        exact ⟨h3, by omega⟩
/-- a list of lists of words' signs, all of them cells -/
structure Cells (M M' : Mem) (p : Addr) (cs : List Addr) (vs : List Wd) : Prop where
  sub : DA.Sub M M'
  pf : M p = none
  fr : ∀ c ∈ cs, M c = none ∧ c ≠ p
  lst : M' p = some (.lst (cs.map .ref))
  each : ∀ (i : Nat) (c : Addr) (v : Wd), cs[i]? = some c → vs[i]? = some v → M' c = some (.lst (v.map .str))
  len : cs.length = vs.length
theorem Cells.more {M M' : Mem} {p c : Addr} {cs : List Addr} {vs : List Wd} {v : Wd} (h : Cells M M' p cs vs) (hc : M' c = none) : Cells M (mup (mup M' c (.lst (v.map .str))) p (.lst (cs.map .ref ++ [.ref c]))) p (cs ++ [c]) (vs ++ [v]) := by
  have hcp : c ≠ p := fun z => by
    rw [z, h.lst] at hc
    cases hc
  have hMc : M c = none := by
    cases e : M c with
    | none => rfl
    | some o =>
      rw [h.sub c o e] at hc
      cases hc
  refine ⟨fun b o e => ?_, h.pf, fun b hb => ?_, ?_, fun i b u h1 h2 => ?_, by rw [List.length_append, List.length_append, h.len]; rfl⟩
  · rw [mup_ne (mne e h.pf), mup_ne (mne e hMc)]
    exact h.sub b o e
  · rcases List.mem_append.mp hb with hb | hb
    · exact h.fr b hb
    · rw [List.mem_singleton.mp hb]
      exact ⟨hMc, hcp⟩
  · rw [mup_same, List.map_append]
    rfl
  · by_cases hi : i < cs.length
    · rw [List.getElem?_append_left hi] at h1
      rw [List.getElem?_append_left (by rw [← h.len]; exact hi)] at h2
      have hb := h.each i b u h1 h2
      rw [mup_ne (h.fr b (List.mem_of_getElem? h1)).2, mup_ne (mne hb hc)]
      exact hb
    · rw [List.getElem?_append_right (by omega)] at h1
      rw [List.getElem?_append_right (by rw [← h.len]; omega)] at h2
      rw [← h.len] at h2
      have hz : i - cs.length = 0 := by
        have := (List.getElem?_eq_some_iff.mp h1).1
        simp at this
        omega
      rw [hz] at h1 h2
      cases h1
      cases h2
      rw [mup_ne hcp, mup_same]
theorem Cells.last {M M' : Mem} {p : Addr} {cs : List Addr} {vs : List Wd} {i : Nat} {v : Wd} (h : Cells M M' p cs vs) (hl : vs.length = i + 1) (hv : vs[i]? = some v) : ∃ c, L2.atI (cs.map D.ref) (-1) = some (.ref c) ∧ M' c = some (.lst (v.map .str)) := by
  have hi : i < cs.length := by rw [h.len]; omega
  refine ⟨cs[i], ?_, h.each i _ v (List.getElem?_eq_getElem hi) hv⟩
  unfold L2.atI L2.ixN
  have h1 : (cs.map D.ref).length = i + 1 := by rw [List.length_map, h.len, hl]
  rw [h1, if_neg (by decide), if_pos (by omega), show (-1 + ((i + 1 : Nat) : Int)).toNat = i by omega, Option.bind_some, List.getElem?_map, List.getElem?_eq_getElem hi]
  rfl
theorem chk_eW {w : Wd} (h : wOk w) : chk (eW w) = none := by
  show Option.map Int.ofNat ((w.map D.str).findIdx? fun d => !okS d) = none
  rw [List.findIdx?_eq_none_iff.mpr]
  · rfl
  · intro d hd
    obtain ⟨s, h1, rfl⟩ := List.mem_map.mp hd
    show (!!decide (s = "")) = false
    rw [decide_eq_false (menu_ne (h s h1))]
    rfl
theorem pls_eW (w : Wd) : Pls (eW w) := fun d hd => by
  obtain ⟨s, _, rfl⟩ := List.mem_map.mp hd
  exact .str s
theorem len_eW {w : Wd} {n : Nat} (h : w.length ≤ n) : ∀ ds, eW w = .lst ds → ds.length ≤ n := fun ds e => by
  rw [← D.lst.inj e, List.length_map]
  exact h
theorem scal_strs (w : Wd) : (w.map D.str).all isScal = true := by
  rw [List.all_eq_true]
  intro d hd
  obtain ⟨s, _, rfl⟩ := List.mem_map.mp hd
  rfl
def R_derived (a : Adr) : RD := fun ds M Φ Ψ => ∃ (rs : List Rule) (x : D) (sts : List D), ds = [eRs rs, x, .lst sts] ∧ rsOk rs ∧ Pl x ∧ Pls x ∧ (∀ d ∈ sts, St2 d) ∧ sts.length ≤ 20 ∧ (∀ ds, x = .lst ds → ds.length ≤ 1000) ∧ (∀ i, chk x = some i → ∀ M', DA.Sub M M' → Ψ (.ref a.BadWord) ["index"] [.int i] M') ∧
  (chk x = none → ∃ w, x = eW w ∧ wOk w ∧ w.length ≤ 500 ∧ (∀ k v d, dw rs w sts k = some v → sts[k]? = some d → stp rs v d = none → ∀ M', DA.Sub M M' → Ψ (.ref a.BadWord) ["index"] [.int k] M') ∧
    ∀ vs : List Wd, vs.length = sts.length + 1 → (∀ k, k ≤ sts.length → dw rs w sts k = vs[k]?) → ∀ p cs M', Cells M M' p cs vs → Φ (.ref p) M')
local macro_rules | `(tactic| walk_at "ec") => `(tactic| with_reducible refine e_callN ?_)
local macro_rules | `(tactic| walk_at "rs") => `(tactic| with_reducible refine s_rBW ?_)
/-! derived: 0=rules 1=word 2=steps 3=found 4=index 5=step 6=told -/
abbrev s_derived : Stmt := topS 10
theorem sc_derived : FnScope ["rules", "word", "steps", "found", "index", "step", "told"] ["rules", "word", "steps"] (defScope s_derived) := ⟨rfl, rfl, rfl, by decide +kernel, rfl, by decide +kernel, by decide +kernel⟩
theorem ok_derived {P : Program} {w : World} {K : PySem.W.Frag} {mg : Str → Option Value} {base : Heap}  {a : Adr} (F : FunAt K mg "derived" "derived" s_derived ["rules", "word", "steps"]) (T : Glb mg) (C_check_word : CalX P w K mg base (3) "check_word" ["word"] (R_check_word a)) (C_stepped : CalX P w K mg base (4) "stepped" ["rules", "word", "step"] (R_stepped a)) (XE_BadWord : MakE P w K mg base 1 "BadWord" a.BadWord ok_BadWord mk_BadWord) : CalX P w K mg base (5) "derived" ["rules", "word", "steps"] (R_derived a) := by
  refine calX F sc_derived (fun ds M Φ Ψ h => ?_) (fun f cdv A outer s H E hr => ⟨_, (pss_cons (ps_expr (pe_calX (W := (fun cls d _ H' => E cls d H')) C_check_word (takes_of rfl rfl rfl rfl) (hr.mono (by first | decide | omega)) (by rfl) (pa_cons (pv 1) pa_nil)))
      (pss_cons (ps_asg (pe_lstC (pa_cons (pe_callTy call_listC (by rfl) T.m_list (by decide +kernel) (pa_cons (pv 1) pa_nil)) pa_nil)) (pg_name (i := 3) sc_derived.nd rfl (by first | exact Or.inl rfl | exact Or.inr rfl)))
      (pss_cons (ps_for (passes_of rfl) rfl (pi_enum (by rfl) T.m_enumerate (pa_cons (pv 2) pa_nil)) (pg_tup (n := 2) rfl (pgs_cons (pg_name (i := 4) sc_derived.nd rfl (by first | exact Or.inl rfl | exact Or.inr rfl)) (pgs_cons (pg_name (i := 5) sc_derived.nd rfl (by first | exact Or.inl rfl | exact Or.inr rfl)) pgs_nil)))
      (pss_cons (ps_asg (pe_calX (W := (fun cls d _ H' => E cls d H')) C_stepped (takes_of rfl rfl rfl rfl) (hr.mono (by first | decide | omega)) (by rfl) (pa_cons (pv 0) (pa_cons (pe_ix ix_seq (pv 3) (pe_un un_neg pe_int) (fun _ _ => rfl)) (pa_cons (pv 5) pa_nil)))) (pg_name (i := 6) sc_derived.nd rfl (by first | exact Or.inl rfl | exact Or.inr rfl)))
      (pss_cons (ps_if (pt_cmpR op_isN (pv 6) pe_non (nomark _)) (pss_one (ps_raise rfl (takes_of rfl rfl rfl rfl) (pmk_E XE_BadWord (hr.mono (by first | decide | omega)) (by rfl) (pa_cons (pv 4) pa_nil)))) pss_nil)
      (pss_one (ps_expr (pe_bm PySem.F.plainAttrs_list PySem.F.slot_list_append PySem.F.type_list_append mt_append (pv 3) (pa_cons (pv 6) pa_nil)))))))
      (pss_one (ps_ret (pv 3)))))), fun ds M Φ Ψ h => ?_⟩)
  · obtain ⟨rs, x, sts, rfl, _⟩ := h
    rfl
  · obtain ⟨rs, x, sts, rfl, hr, px, ps, hs, ls, lx, qx, qn⟩ := h
    dsimp only [cx_nox, cx_k, cx_blk, cx_nox2, cx_tr, cx_suite]
    change wps K _ _ [some _, some _, some _, none, none, none, none] _ _
    walk_at "dr"
    refine ⟨_, Vws.refl _, x, rfl, px, ps, lx, fun i hi => ⟨rfl, qx i hi M (DA.Sub.refl _)⟩, fun hc => .inl ⟨rfl, ?_⟩⟩
    obtain ⟨w, rfl, hw, lw, qm, q⟩ := qn hc
    walk_at "dr"
    rename_i c0 hc0 p hp
    have hcp : c0 ≠ p := by
      rintro rfl
      rw [mup_same] at hp
      cases hp
    have hMp : M p = none := by rw [mup_ne (Ne.symm hcp)] at hp; exact hp
    refine s_for (i_enum ?_)
    walk_at "dr"
    refine ⟨fun i ρ' M' => ∃ y z u cs vs, ρ' = [some (eRs rs), some (eW w), some (.lst sts), some (.ref p), y, z, u] ∧ Cells M M' p cs vs ∧ vs.length = i + 1 ∧ ∀ k, k ≤ i → dw rs w sts k = vs[k]?, ⟨_, _, _, [c0], [w], rfl, ⟨?_, hMp, ?_, ?_, ?_, rfl⟩, rfl, ?_⟩, fun _ _ _ _ _ => trivial, ?_, ?_⟩
    · exact DA.Sub.new hMp (DA.Sub.new hc0 (DA.Sub.refl _))
    · intro c hc
      rw [List.mem_singleton.mp hc]
      exact ⟨hc0, hcp⟩
    · rw [mup_same]
      rfl
    · intro i c v h1 h2
      cases i with
      | zero =>
        cases h1
        cases h2
        rw [mup_ne hcp, mup_same]
      | succ i => cases h1
    · intro k hk
      obtain rfl : k = 0 := by omega
      rfl
    · rintro i ρ' M' hi ⟨y, z, u, cs, vs, rfl, hC, hl, hdw⟩
      have hg := List.getElem?_eq_getElem hi
      have hn : nth sts i = sts[i] := by
        unfold nth
        rw [List.getD_eq_getElem?_getD, hg]
        rfl
      generalize he : sts[i] = st at hg hn
      show wpg K _ _ (.tup [.int (i : Int), nth sts i]) _ _ _ _
      rw [hn]
      have hvi : vs[i]? = some (vs[i]'(by omega)) := List.getElem?_eq_getElem (by omega)
      generalize vs[i]'(by omega) = v at hvi
      obtain ⟨hv1, hv2⟩ := dw_ok hr hw i v (by rw [hdw i (Nat.le_refl _)]; exact hvi)
      obtain ⟨c, hix, hMc⟩ := hC.last hl hvi
      have hlst := hC.lst
      have hsz : (cs.map D.ref).length < 16777216 := by rw [List.length_map, hC.len]; omega
      walk_at "dr"
      refine ⟨[eRs rs, eW v, st], .cons (.same _) (.cons (.cell hMc (Vws.refl _)) (.cons (.same _) .nil)), rs, eW v, st, rfl, hr, .lst _, pls_eW v, hs st (List.mem_of_getElem? hg), len_eW (by omega), fun j hj => ?_, fun _ => ⟨v, rfl, hv1, by omega, fun hno => .inl ⟨rfl, ?_⟩, fun v2 hv3 => .cell fun p2 _ => .inr ⟨p2, _, rfl, mup_same, scal_strs _, .cell fun c2 hc2 => ?_⟩⟩⟩
      · rw [chk_eW hv1] at hj
        cases hj
      · walk_at "dr"
        exact ⟨NumOk.nat (by omega), qm i v st (by rw [hdw i (Nat.le_refl _)]; exact hvi) hg hno M' hC.sub⟩
      · walk_at "dr"
        refine ⟨_, _, _, cs ++ [c2], vs ++ [v2], rfl, hC.more hc2, by rw [List.length_append, hl]; rfl, fun k hk => ?_⟩
        by_cases e : k ≤ i
        · rw [hdw k e, List.getElem?_append_left (by omega)]
        · obtain rfl : k = i + 1 := by omega
          rw [List.getElem?_append_right (by omega), hl, Nat.sub_self]
          show (dw rs w sts i).bind _ = some v2
          rw [hdw i (Nat.le_refl _), hvi, Option.bind_some, hg, Option.bind_some, hv3]
    · rintro ρ' M' ⟨y, z, u, cs, vs, rfl, hC, hl, hdw⟩
      walk_at "dr"
      exact q vs hl hdw p cs M' hC

local macro_rules | `(tactic| walk_at "ec") => `(tactic| with_reducible refine e_call ?_)
/-- what is handed to the three functions: either a thing that is no word, or (derived) a row of steps that cannot be done -/
theorem dw_stop {rs : List Rule} {w v : Wd} {sts : List D} {k : Nat} {d : D} (h1 : dw rs w sts k = some v) (h2 : sts[k]? = some d) (h3 : stp rs v d = none) : ∀ {j : Nat}, k < j → dw rs w sts j = none
  | 0, h => by omega
  | j + 1, h => by
    by_cases e : k = j
    · subst e
      show (dw rs w sts k).bind _ = none
      rw [h1, Option.bind_some, h2, Option.bind_some, h3]
    · show (dw rs w sts j).bind _ = none
      rw [dw_stop h1 h2 h3 (show k < j by omega)]
      rfl
def R__law_fails (a : Adr) : RD := fun ds M Φ _ => ∃ (rs : List Rule) (x : D) (sts : List D) (nm : Str) (i : Int), ds = [.str nm, eRs rs, x, .lst sts] ∧ rsOk rs ∧ Pl x ∧ Pls x ∧ (∀ d ∈ sts, St2 d) ∧ sts.length ≤ 20 ∧ (∀ ds, x = .lst ds → ds.length ≤ 1000) ∧
  (chk x = some i ∨ (nm ≠ "steps_from" ∧ nm ≠ "stepped" ∧ ∃ w, x = eW w ∧ wOk w ∧ w.length ≤ 500 ∧ ∃ (k : Nat) (v : Wd) (d : D), i = k ∧ dw rs w sts k = some v ∧ sts[k]? = some d ∧ stp rs v d = none)) ∧ ∀ M', DA.Sub M M' → Φ (.int i) M'
/-! _law_fails: 0=word 1=rules 2=given 3=steps 4=e -/
abbrev s__law_fails : Stmt := topS 19
theorem sc__law_fails : FnScope ["word", "rules", "given", "steps", "e"] ["word", "rules", "given", "steps"] (defScope s__law_fails) := ⟨rfl, rfl, rfl, by decide +kernel, rfl, by decide +kernel, by decide +kernel⟩
theorem ok__law_fails {P : Program} {w : World} {K : PySem.W.Frag} {mg : Str → Option Value} {base : Heap}  {a : Adr} (F : FunAt K mg "_law_fails" "_law_fails" s__law_fails ["word", "rules", "given", "steps"]) (T : Glb mg) (C_steps_from : CalX P w K mg base (4) "steps_from" ["rules", "word"] (R_steps_from a)) (C_stepped : CalX P w K mg base (4) "stepped" ["rules", "word", "step"] (R_stepped a)) (C_derived : CalX P w K mg base (5) "derived" ["rules", "word", "steps"] (R_derived a)) (XE_BadWord : MakE P w K mg base 1 "BadWord" a.BadWord ok_BadWord mk_BadWord) (XF_BadWord_index : XfOk K a.BadWord "index") : Cal0 P w K mg base (6) "_law_fails" ["word", "rules", "given", "steps"] (R__law_fails a) := by
  refine cal0 F sc__law_fails (fun ds M Φ Ψ h => ?_) (fun f cdv A outer s H E hr => ⟨_, (pss_cons (ps_try_as (i := 4) rfl rfl sc__law_fails.nd rfl rfl ⟨by rfl, by decide, .inl XE_BadWord.mg⟩ takes0 (fun W1 pn1 xe1 tk1 po1 => (pss_cast (pss_one (ps_if (pt_cmpR (op_eqU hr.units) (pv 0) pe_str (nomark _)) (pss_one (ps_expr (pe_calX (W := W1) C_steps_from tk1 (hr.mono (by first | decide | omega)) (by rfl) (pa_cons (pv 1) (pa_cons (pv 2) pa_nil))))) (pss_one (ps_if (pt_cmpR (op_eqU hr.units) (pv 0) pe_str (nomark _)) (pss_one (ps_expr (pe_calX (W := W1) C_stepped tk1 (hr.mono (by first | decide | omega)) (by rfl) (pa_cons (pv 1) (pa_cons (pv 2) (pa_cons (pe_tup (pa_cons pe_int (pa_cons pe_int pa_nil))) pa_nil)))))) (pss_one (ps_expr (pe_calX (W := W1) C_derived tk1 (hr.mono (by first | decide | omega)) (by rfl) (pa_cons (pv 1) (pa_cons (pv 2) (pa_cons (pv 3) pa_nil)))))))))) (by (try dsimp only [cx_nox, cx_k, cx_blk, cx_nox2, cx_tr, cx_suite]); try rfl))) (fun a1 oe1 cls1 d1 pn1 hz1 hf1 => (pss_cast (pss_one (ps_ret (pe_xf XF_BadWord_index.c XF_BadWord_index.no hz1 hf1 (pv 4)))) (by (try dsimp only [cx_nox, cx_k, cx_blk, cx_nox2, cx_tr, cx_suite]); try rfl))))
      (pss_one (ps_ret pe_non))), fun ds M Φ Ψ h => ?_⟩)
  · obtain ⟨rs, x, sts, nm, i, rfl, _⟩ := h
    rfl
  · obtain ⟨rs, x, sts, nm, i, rfl, hr, px, ps, hs, ls, lx, hc, q⟩ := h
    dsimp only [cx_nox, cx_k, cx_blk, cx_nox2, cx_tr, cx_suite]
    change wps K _ _ [some _, some _, some _, some _, none] _ _
    refine s_seq ?_
    refine s_tryF (Ψb := fun ρ' cls ns ds M' => ρ'.length = 5 ∧ cls = .ref a.BadWord ∧ ns = [("index" : Str)] ∧ ds = [D.int i] ∧ DA.Sub M M') (tb := fun W1 => tIfS (tTest (tOp (rEqU K) (tVar 0) (tC (V.str "steps_from")))) (tDrop (tCallS (spD K (R_steps_from a)) (WE W1) (tCons (tVar 1) (tCons (tVar 2) tNil))))
      (tIfS (tTest (tOp (rEqU K) (tVar 0) (tC (V.str "stepped")))) (tDrop (tCallS (spD K (R_stepped a)) (WE W1) (tCons (tVar 1) (tCons (tVar 2) (tCons (tTup (tCons (tC (V.int 0)) (tCons (tC (V.int 0)) tNil))) tNil)))))
      (tDrop (tCallS (spD K (R_derived a)) (WE W1) (tCons (tVar 1) (tCons (tVar 2) (tCons (tVar 3) tNil))))))) (fun W1 => ?_) (fun ρ' cls ns ds M' h => ?_)
    · walk_at "dr"
      refine ⟨fun h1 => ?_, fun h1 => ?_⟩
      · have h1 := of_decide_eq_true h1
        have hc : chk x = some i := hc.elim id fun z => absurd h1 z.1
        walk_at "dr"
        refine ⟨rs, x, rfl, hr, px, ps, lx, fun j hj => ?_, fun hn => ?_⟩
        · rw [hc] at hj
          cases hj
          exact ⟨rfl, rfl, rfl, rfl, DA.Sub.refl _⟩
        · rw [hc] at hn
          cases hn
      · have h1 := of_decide_eq_false h1
        walk_at "dr"
        refine ⟨fun h2 => ?_, fun h2 => ?_⟩
        · have h2 := of_decide_eq_true h2
          have hc : chk x = some i := hc.elim id fun z => absurd h2 z.2.1
          walk_at "dr"
          refine ⟨rs, x, _, rfl, hr, px, ps, .tup (Nat.le_of_ble_eq_true rfl) (fun d hd => ?_), lx, fun j hj => ?_, fun hn => ?_⟩
          · simp only [List.mem_cons, List.not_mem_nil, or_false] at hd
            rcases hd with rfl | rfl <;> exact .int _
          · rw [hc] at hj
            cases hj
            exact ⟨rfl, rfl, rfl, rfl, DA.Sub.refl _⟩
          · rw [hc] at hn
            cases hn
        · walk_at "dr"
          refine ⟨rs, x, sts, rfl, hr, px, ps, hs, ls, lx, fun j hj M' hM => ?_, fun hn => ?_⟩
          · rcases hc with hc | ⟨_, _, w, rfl, hw, _⟩
            · rw [hc] at hj
              cases hj
              exact ⟨rfl, rfl, rfl, rfl, hM⟩
            · rw [chk_eW hw] at hj
              cases hj
          · rcases hc with hc | ⟨_, _, w, rfl, hw, lw, k, v, d, rfl, e1, e2, e3⟩
            · rw [hc] at hn
              cases hn
            · refine ⟨w, rfl, hw, lw, fun k' v' d' f1 f2 f3 M' hM => ?_, fun vs hv hd => ?_⟩
              · have : k' = k := by
                  rcases Nat.lt_trichotomy k' k with z | z | z
                  · exact absurd (dw_stop f1 f2 f3 z) (by rw [e1]; simp)
                  · exact z
                  · exact absurd (dw_stop e1 e2 e3 z) (by rw [f1]; simp)
                subst this
                exact ⟨rfl, rfl, rfl, rfl, hM⟩
              · exfalso
                have hk : k < sts.length := (List.getElem?_eq_some_iff.mp e2).1
                have h3 := hd (k + 1) (by omega)
                rw [dw_stop e1 e2 e3 (Nat.lt_succ_self k), List.getElem?_eq_getElem (by omega)] at h3
                cases h3
    · obtain ⟨h1, rfl, rfl, rfl, h2⟩ := h
      refine ⟨by omega, rfl, XF_BadWord_index.te, .int i, by simp [List.lookup], q M' h2⟩
end P3


section P4
local macro_rules | `(tactic| walk_at "isi") => `(tactic| first
  | ((with_reducible show wpn _ _ [(.non : D), _] _ _); first | with_reducible refine c_isi .non kt_NoneType_int ?_ | with_reducible refine c_isi .non kt_NoneType_bool ?_ | with_reducible refine c_isi .non kt_NoneType_str ?_ | with_reducible refine c_isi .non kt_NoneType_tuple ?_ | with_reducible refine c_isi .non kt_NoneType_list ?_ | with_reducible refine c_isi .non kt_NoneType_dict ?_ )
  | ((with_reducible show wpn _ _ [(.bl _ : D), _] _ _); first | with_reducible refine c_isi (.bl _) kt_bool_int ?_ | with_reducible refine c_isi (.bl _) kt_bool_bool ?_ | with_reducible refine c_isi (.bl _) kt_bool_str ?_ | with_reducible refine c_isi (.bl _) kt_bool_tuple ?_ | with_reducible refine c_isi (.bl _) kt_bool_list ?_ | with_reducible refine c_isi (.bl _) kt_bool_dict ?_ )
  | ((with_reducible show wpn _ _ [(.int _ : D), _] _ _); first | with_reducible refine c_isi (.int _) kt_int_int ?_ | with_reducible refine c_isi (.int _) kt_int_bool ?_ | with_reducible refine c_isi (.int _) kt_int_str ?_ | with_reducible refine c_isi (.int _) kt_int_tuple ?_ | with_reducible refine c_isi (.int _) kt_int_list ?_ | with_reducible refine c_isi (.int _) kt_int_dict ?_ )
  | ((with_reducible show wpn _ _ [(.str _ : D), _] _ _); first | with_reducible refine c_isi (.str _) kt_str_int ?_ | with_reducible refine c_isi (.str _) kt_str_bool ?_ | with_reducible refine c_isi (.str _) kt_str_str ?_ | with_reducible refine c_isi (.str _) kt_str_tuple ?_ | with_reducible refine c_isi (.str _) kt_str_list ?_ | with_reducible refine c_isi (.str _) kt_str_dict ?_ )
  | ((with_reducible show wpn _ _ [(.lst _ : D), _] _ _); first | with_reducible refine c_isi (.lst _) kt_list_int ?_ | with_reducible refine c_isi (.lst _) kt_list_bool ?_ | with_reducible refine c_isi (.lst _) kt_list_str ?_ | with_reducible refine c_isi (.lst _) kt_list_tuple ?_ | with_reducible refine c_isi (.lst _) kt_list_list ?_ | with_reducible refine c_isi (.lst _) kt_list_dict ?_ )
  | ((with_reducible show wpn _ _ [(.tup _ : D), _] _ _); first | with_reducible refine c_isi (.tup _) kt_tuple_int ?_ | with_reducible refine c_isi (.tup _) kt_tuple_bool ?_ | with_reducible refine c_isi (.tup _) kt_tuple_str ?_ | with_reducible refine c_isi (.tup _) kt_tuple_tuple ?_ | with_reducible refine c_isi (.tup _) kt_tuple_list ?_ | with_reducible refine c_isi (.tup _) kt_tuple_dict ?_ )
  | (first | refine c_isi (.cell (by walk_at "lk")) kt_list_int ?_ | refine c_isi (.cell (by walk_at "lk")) kt_list_bool ?_ | refine c_isi (.cell (by walk_at "lk")) kt_list_str ?_ | refine c_isi (.cell (by walk_at "lk")) kt_list_tuple ?_ | refine c_isi (.cell (by walk_at "lk")) kt_list_list ?_ | refine c_isi (.cell (by walk_at "lk")) kt_list_dict ?_ ))
local macro_rules | `(tactic| walk_at "ne") => `(tactic| first
  | assumption
  | exact Ne.symm (by assumption)
  | exact mne (by assumption) (by assumption)
  | exact Ne.symm (mne (by assumption) (by assumption)))
local macro_rules | `(tactic| walk_at "lk") => `(tactic| first
  | with_reducible exact mup_same
  | assumption
  | (refine Eq.trans (mup_ne (by walk_at "ne")) ?_; walk_at "lk"))
local macro_rules | `(tactic| walk_at "sz") => `(tactic| first
  | exact Nat.le_of_ble_eq_true rfl
  | assumption
  | omega
  | (simp only [List.length_append, List.length_map, List.length_cons, List.length_nil, List.length_replicate, List.length_take, List.length_drop]; omega)
  | (simp only [List.length_append, List.length_map, List.length_cons, List.length_nil, List.length_replicate] at *; omega))
local macro_rules | `(tactic| walk_at "ix") => `(tactic| first
  | exact rfl
  | assumption
  | exact atI_nat (by assumption)
  | exact atI_map (by assumption))
local macro_rules | `(tactic| walk_at "cm") => `(tactic| first
  | exact Or.inl ⟨by decide, by decide⟩
  | exact Or.inr ⟨by decide, by decide⟩
  | exact Or.inl ⟨by omega, by omega⟩
  | exact Or.inr ⟨by omega, by omega⟩
  | exact Or.inl (cm_mod (by decide) (by decide)))
local macro_rules | `(tactic| walk_at "sv") => `(tactic| first
  | with_reducible exact .lst (.imm _)
  | with_reducible exact .tup _
  | with_reducible exact .scr _
  | exact .lst (.cell (by walk_at "lk")))
local macro_rules | `(tactic| walk_at "kv") => `(tactic| first
  | with_reducible exact .lst (.imm _)
  | with_reducible exact .scr _
  | exact .lst (.cell (by walk_at "lk")))
local macro_rules | `(tactic| walk_at "lv") => `(tactic| first
  | with_reducible exact .imm _
  | exact .cell (by walk_at "lk"))
local macro_rules | `(tactic| walk_at "cl") => `(tactic| fail "no callee's word")
local macro_rules | `(tactic| walk_at "rs") => `(tactic| fail "no raise")
local macro_rules | `(tactic| walk_at "d_s") => `(tactic| first
  | with_reducible refine s_seq ?_
  | with_reducible refine s_asg ?_
  | with_reducible refine s_ret ?_
  | with_reducible refine s_if ?_
  | with_reducible refine s_drop ?_
  | with_reducible refine s_next ?_
  | with_reducible refine s_retN ?_
  | with_reducible refine s_brk ?_
  | with_reducible refine s_cont ?_
  | with_reducible refine s_dput ?_
  | walk_at "rs")
local macro_rules | `(tactic| walk_at "ec") => `(tactic| fail "no wish about calls")
local macro_rules | `(tactic| walk_at "d_e") => `(tactic| first
  | walk_at "ec"
  | ((with_reducible refine' e_var ?vh ?vk); (case vh => exact rfl))
  | with_reducible refine e_op ?_
  | with_reducible refine e_int ?_
  | with_reducible refine e_str ?_
  | with_reducible refine e_cb ?_
  | with_reducible refine e_call ?_
  | with_reducible refine e_tup ?_
  | with_reducible refine e_lst ?_
  | with_reducible refine e_sl ?_
  | with_reducible refine e_and ?_
  | with_reducible refine e_not ?_
  | with_reducible refine e_bl ?_
  | with_reducible refine e_non ?_
  | with_reducible refine e_or ?_
  | with_reducible refine e_ite ?_
  | with_reducible refine e_notT ?_
  | with_reducible refine e_ty ?_
  | with_reducible refine e_un ?_
  | with_reducible refine e_bm ?_
  | with_reducible refine e_joined ?_
  | with_reducible refine e_lstC ?_
  | with_reducible refine e_dget2 ?_
  | with_reducible refine e_dget ?_
  | with_reducible refine e_dget1 ?_
  | with_reducible refine e_din ?_
  | ((with_reducible refine e_dnew ?_); intro _ _)
  | with_reducible refine e_orL ?_)
local macro_rules | `(tactic| walk_at "d_t") => `(tactic| first
  | with_reducible refine t_test ?_
  | with_reducible refine t_not ?_
  | with_reducible refine t_and ?_
  | with_reducible refine t_or ?_
  | with_reducible refine t_yes ?_
  | with_reducible refine t_B ?_
  | with_reducible refine t_tru ?_)
local macro_rules | `(tactic| walk_at "d_2") => `(tactic| first
  | with_reducible refine o_addI ?_
  | with_reducible refine o_eqI ?_
  | with_reducible refine o_eqS ?_
  | ((with_reducible refine' o_ix ?xs1 ?xs2 ?xs3); (case xs1 => walk_at "sv"); (case xs2 => walk_at "ix"))
  | with_reducible refine o_neI ?_
  | with_reducible refine o_neS ?_
  | with_reducible refine o_lt ?_
  | with_reducible refine o_le ?_
  | with_reducible refine o_gt ?_
  | with_reducible refine o_ge ?_
  | with_reducible refine o_subI ?_
  | ((with_reducible refine o_mod ?md ?_); (case md => first | decide | omega | assumption))
  | ((with_reducible refine o_fdiv ?md ?_); (case md => first | decide | exact ⟨by omega, by omega⟩))
  | ((with_reducible refine o_mulI ?cm ?_); (case cm => walk_at "cm"))
  | ((with_reducible refine o_addT ?sz ?_); (case sz => walk_at "sz"))
  | ((with_reducible refine' o_addL ?l1 ?l2 ?sz ?n); (case l1 => walk_at "lv"); (case l2 => walk_at "lv"); (case sz => walk_at "sz"); (try simp only [← List.map_append]); first | assumption | refine .imm ?_)
  | ((with_reducible refine o_isN rfl ?_); try dsimp only)
  | ((with_reducible refine o_notN rfl ?_); try dsimp only)
  | with_reducible refine o_eqB ?_
  | with_reducible refine o_neB ?_
  | ((with_reducible refine o_pow ?cp ?_); (case cp => exact ⟨by decide, by decide, by decide⟩)))
local macro_rules | `(tactic| walk_at "d_n") => `(tactic| first
  | ((with_reducible refine' c_len ?xs1 ?xs3); (case xs1 => walk_at "sv"))
  | walk_at "isi"
  | ((with_reducible refine' c_list ?xs1 ?xs3); (case xs1 => walk_at "sv"); first | assumption | refine .imm ?_)
  | ((with_reducible refine' c_tupleL ?xs1 ?xs3); (case xs1 => walk_at "kv"))
  | with_reducible refine c_tupleT ?_
  | with_reducible refine c_intI ?_
  | with_reducible refine c_intB ?_
  | with_reducible refine c_max2 ?_
  | with_reducible refine c_min2 ?_
  | ((with_reducible refine' c_listC ?xs1 ?xs3); (case xs1 => walk_at "sv"); intro p hp))
local macro_rules | `(tactic| walk_at "d_m") => `(tactic| first
  | ((with_reducible refine' m_append ?lk ?sz ?q); (case lk => walk_at "lk"); (case sz => walk_at "sz"); try simp only [mup_mup])
  | ((with_reducible refine' m_extend ?lk ?lv ?sz ?q); (case lk => walk_at "lk"); (case lv => walk_at "lv"); (case sz => walk_at "sz"); try simp only [mup_mup]))
local macro_rules | `(tactic| walk_at "d_g") => `(tactic| first
  | ((with_reducible refine g_name ?_); try dsimp only [List.set_cons_succ, List.set_cons_zero])
  | (with_reducible refine g_tup rfl ?_)
  | (with_reducible refine g_setL ?_)
  | (with_reducible refine gl_tup rfl ?_)
  | ((with_reducible refine gl_name ?gm ?_); (case gm => decide); try dsimp only [DA.dwipe, List.set_cons_succ, List.set_cons_zero]))
local macro_rules | `(tactic| walk_at "d_h") => `(tactic| first
  | with_reducible refine g_nil ?_
  | ((with_reducible refine g_cons ?_); try dsimp only [List.set_cons_succ, List.set_cons_zero])
  | with_reducible refine g_consG ?_
  | with_reducible refine gl_nil ?_
  | ((with_reducible refine gl_cons ?gm ?_); (case gm => decide); try dsimp only [DA.dwipe, List.set_cons_succ, List.set_cons_zero])
  | with_reducible refine gl_consG ?_)
local macro_rules | `(tactic| walk_at "d_x") => `(tactic| first
  | with_reducible refine ⟨_, Tv.bl _, ?_⟩
  | ((with_reducible refine ⟨_, rfl, ?_⟩); try dsimp only)
  | with_reducible refine two_t ?_
  | with_reducible refine two_f ?_
  | with_reducible refine two_nt ?_
  | with_reducible refine two_nf ?_
  | ((with_reducible refine ⟨?szl, NewL.imm ?_⟩); (case szl => exact Nat.le_of_ble_eq_true rfl))
  | ((with_reducible refine ⟨?szl, fun p hp => ?_⟩); (case szl => exact Nat.le_of_ble_eq_true rfl))
  | ((with_reducible refine ⟨?szl, ?_⟩); (case szl => exact Nat.le_of_ble_eq_true rfl))
  | ((with_reducible refine' ⟨_, _, _, _, rfl, rfl, ?lk, ?ij, ?_⟩); (case lk => walk_at "lk"); (case ij => exact rfl); try dsimp only [List.set_cons_succ, List.set_cons_zero])
  | ((with_reducible refine' ⟨_, _, rfl, ?lk, ?_⟩); (case lk => walk_at "lk"))
  | ((with_reducible refine' ⟨_, .inr _, ?lk, rfl, ?_⟩); (case lk => walk_at "lk"))
  | ((with_reducible refine' ⟨_, .inl _, ?lk, rfl, ?_⟩); (case lk => walk_at "lk"))
  | ((with_reducible refine' ⟨_, _, .inr _, rfl, ?lk, rfl, ?sz, ?_⟩); (case lk => walk_at "lk"); (case sz => walk_at "sz"); try simp only [mup_mup])
  | ((with_reducible refine' ⟨_, _, .inl _, rfl, ?lk, rfl, ?sz, ?_⟩); (case lk => walk_at "lk"); (case sz => walk_at "sz"); try simp only [mup_mup])
  | ((with_reducible refine ⟨?tyc, ?_⟩); (case tyc => exact ty_cell (by walk_at "lk")))
  | walk_at "cl")
local macro_rules | `(tactic| walk_at "ds") => `(tactic| first
  | ((with_reducible show wpe _ _ _ _ _ _ _); walk_at "d_e")
  | ((with_reducible show wps _ _ _ _ _ _); walk_at "d_s")
  | ((with_reducible show wp2 _ _ _ _ _ _); walk_at "d_2")
  | ((with_reducible show wpa _ _ _ _ _ _ _); first | with_reducible refine a_cons ?_ | with_reducible refine a_nil ?_)
  | ((with_reducible show wpn _ _ _ _ _); walk_at "d_n")
  | ((with_reducible show wpt _ _ _ _ _ _ _); walk_at "d_t")
  | ((with_reducible show wpg _ _ _ _ _ _ _ _); walk_at "d_g")
  | ((with_reducible show wpgs _ _ _ _ _ _ _ _); walk_at "d_h")
  | ((with_reducible show wpgl _ _ _ _ _ _ _); walk_at "d_g")
  | ((with_reducible show wpgls _ _ _ _ _ _ _); walk_at "d_h")
  | ((with_reducible show wpm _ _ _ _ _ _); walk_at "d_m")
  | ((with_reducible show wpo _ _ _ _ _ _ _); first | with_reducible refine p_none ?_ | with_reducible refine p_some ?_)
  | ((with_reducible show wps3 _ _ _ _ _ _ _); first | ((with_reducible refine' sl_L ?kv ?q); (case kv => walk_at "kv"); (try simp only [cut_to, cut_from, cut_from2, cut_at, List.length_map]); first | assumption | refine .imm ?_) | ((with_reducible refine sl_T ?_); try simp only [cut_to, cut_from, cut_from2, cut_at, List.length_map]))
  | ((with_reducible show wp1 _ _ _ _ _); first | with_reducible refine u_neg ?_)
  | ((with_reducible show wpj _ _ _ _ _ _ _ _); first | with_reducible refine j_nil ?_ | with_reducible refine j_cons ?_)
  | walk_at "d_x"
  | dsimp only)
local macro_rules | `(tactic| walk_at "dr") => `(tactic| repeat (walk_at "ds"))

local macro_rules | `(tactic| walk_at "cl") => `(tactic| ((refine l_next (by assumption) (by walk_at "lk") (by assumption) ?_); intro _ _ _ _; try simp only [mup_mup]))
def R__law_numbers : RD := fun ds M Φ _ => ∃ (ns : List Int) (at' n : Nat), ds = [.scr (ns.map .int), .int at', .int n] ∧ ns.length ≤ 63 ∧ at' ≤ 10 ∧ n ≤ 100 ∧ ∀ P : List Int, P.length = n → (∀ x ∈ P, 0 ≤ x ∧ x < 1009) → NewL Φ M (P.map .int)
/-! _law_numbers: 0=script 1=at 2=count 3=cell 4=numbers 5=k 6=mixed -/
abbrev s__law_numbers : Stmt := topS 12
theorem sc__law_numbers : FnScope ["script", "at", "count", "cell", "numbers", "k", "mixed"] ["script", "at", "count"] (defScope s__law_numbers) := ⟨rfl, rfl, rfl, by decide +kernel, rfl, by decide +kernel, by decide +kernel⟩
theorem ok__law_numbers {P : Program} {w : World} {K : PySem.W.Frag} {mg : Str → Option Value} {base : Heap}  (F : FunAt K mg "_law_numbers" "_law_numbers" s__law_numbers ["script", "at", "count"]) (T : Glb mg) : Cal0 P w K mg base (1) "_law_numbers" ["script", "at", "count"] R__law_numbers := by
  refine cal0 F sc__law_numbers (fun ds M Φ Ψ h => ?_) (fun f cdv A outer s H E hr => ⟨_, (pss_cons (ps_asg (pe_op op_mulU pe_int (pe_op op_addU (pv 1) pe_int)) (pg_name (i := 3) sc__law_numbers.nd rfl (by first | exact Or.inl rfl | exact Or.inr rfl)))
      (pss_cons (ps_if (pt_cmpR op_lt (pv 1) (pe_callB call_lenU (by rfl) T.m_len (by decide +kernel) (pa_cons (pv 0) pa_nil)) (nomark _)) (pss_one (ps_asg (pe_callTy call_intU (by rfl) T.m_int (by decide +kernel) (pa_cons (pe_ix ix_seq (pv 0) (pv 1) (fun _ _ => rfl)) pa_nil)) (pg_name (i := 3) sc__law_numbers.nd rfl (by first | exact Or.inl rfl | exact Or.inr rfl)))) pss_nil)
      (pss_cons (ps_if (pt_cmpR op_lt (pv 3) pe_int (nomark _)) (pss_one (ps_asg (pe_op op_sub pe_int (pe_op op_mulU pe_int (pv 3))) (pg_name (i := 3) sc__law_numbers.nd rfl (by first | exact Or.inl rfl | exact Or.inr rfl)))) pss_nil)
      (pss_cons (ps_asg (pe_lstC pa_nil) (pg_name (i := 4) sc__law_numbers.nd rfl (by first | exact Or.inl rfl | exact Or.inr rfl)))
      (pss_cons (ps_for PassesOwn.never rfl (pi_range1 (by rfl) T.m_range (pa_cons (pv 2) pa_nil)) (pg_name (i := 5) sc__law_numbers.nd rfl (by first | exact Or.inl rfl | exact Or.inr rfl))
      (pss_one (ps_if (pt_cmpR op_ge (pv 3) (pe_op op_pow pe_int pe_int) (nomark _)) (pss_cons (ps_expr (pe_bm PySem.F.plainAttrs_list PySem.F.slot_list_append PySem.F.type_list_append mt_append (pv 4) (pa_cons (pe_op op_modN (pv 3) pe_int) pa_nil)))
      (pss_one (ps_asg (pe_op op_fdivN (pv 3) pe_int) (pg_name (i := 3) sc__law_numbers.nd rfl (by first | exact Or.inl rfl | exact Or.inr rfl))))) (pss_cons (ps_asg (pe_op op_modN (pe_op op_addU (pe_op op_addU (pe_op op_mulU (pv 3) pe_int) (pe_op op_mulU (pe_op op_addU (pv 5) pe_int) pe_int)) (pe_op op_mulU (pv 1) pe_int)) pe_int) (pg_name (i := 6) sc__law_numbers.nd rfl (by first | exact Or.inl rfl | exact Or.inr rfl)))
      (pss_cons (ps_asg (pe_op op_modN (pe_op op_addU (pe_op op_mulU (pv 6) (pv 6)) (pe_op op_mulU pe_int (pe_op op_addU (pv 5) pe_int))) pe_int) (pg_name (i := 6) sc__law_numbers.nd rfl (by first | exact Or.inl rfl | exact Or.inr rfl)))
      (pss_one (ps_expr (pe_bm PySem.F.plainAttrs_list PySem.F.slot_list_append PySem.F.type_list_append mt_append (pv 4) (pa_cons (pe_op op_modN (pe_op op_fdivN (pv 6) pe_int) pe_int) pa_nil)))))))))
      (pss_one (ps_ret (pv 4)))))))), fun ds M Φ Ψ h => ?_⟩)
  · obtain ⟨ns, at', n, rfl, _⟩ := h
    rfl
  · obtain ⟨ns, at', n, rfl, hl, ha, hn, q⟩ := h
    dsimp only [cx_nox, cx_k, cx_blk, cx_nox2, cx_tr, cx_suite]
    change wps K _ _ [some _, some _, some _, none, none, none, none] _ _
    have hat : ∀ h : at' < ns.length, L2.atI (ns.map D.int) (at' : Int) = some (.int ns[at']) := fun h => atI_map (List.getElem?_eq_getElem h)
    walk_at "dr"
    refine ⟨fun h => ?_, fun h => ?_⟩
    · have hx := hat (by have := of_decide_eq_true h; rw [List.length_map] at this; omega)
      walk_at "dr"
      refine ⟨fun h => ?_, fun h => ?_⟩
      all_goals walk_at "dr"
      all_goals
        rename_i p hp
        refine s_for (i_rng1 ?_)
        walk_at "dr"
        refine ⟨⟨by omega, by omega⟩, fun i ρ' M' => ∃ (c : Int) (x y : Option D) (Q : List Int), ρ' = [some (.scr (ns.map .int)), some (.int at'), some (.int n), some (.int c), some (.ref p), x, y] ∧ M' = mup M p (.lst (Q.map .int)) ∧ Q.length = i ∧ ∀ x ∈ Q, 0 ≤ x ∧ x < 1009, ⟨_, _, _, [], rfl, rfl, rfl, fun _ h => nomatch h⟩, fun _ _ _ _ _ => trivial, ?_, ?_⟩
        · rintro i ρ' M' hi ⟨c, x, y, Q, rfl, rfl, hQ, hq⟩
          have add : ∀ z : Int, ∀ x ∈ Q ++ [z.fmod 1009], 0 ≤ x ∧ x < 1009 := fun z x hx => by
            rcases List.mem_append.mp hx with hx | hx
            · exact hq x hx
            · rw [List.mem_singleton.mp hx]
              exact mod_rng (by decide)
          have hsz : (Q.map D.int).length < 16777216 := by rw [List.length_map]; omega
          walk_at "dr"
          refine ⟨fun h => ?_, fun h => ?_⟩
          all_goals walk_at "dr"
          all_goals exact ⟨_, _, _, Q ++ [_], rfl, by rw [List.map_append]; rfl, by rw [List.length_append, hQ]; rfl, add _⟩
        · rintro ρ' M' ⟨c, x, y, Q, rfl, rfl, hQ, hq⟩
          rw [Int.toNat_natCast] at hQ
          exact wps.ret rfl (DA.Sub.refl _) hp (q Q hQ hq)
    · walk_at "dr"
      refine ⟨fun h => ?_, fun h => ?_⟩
      all_goals walk_at "dr"
      all_goals
        rename_i p hp
        refine s_for (i_rng1 ?_)
        walk_at "dr"
        refine ⟨⟨by omega, by omega⟩, fun i ρ' M' => ∃ (c : Int) (x y : Option D) (Q : List Int), ρ' = [some (.scr (ns.map .int)), some (.int at'), some (.int n), some (.int c), some (.ref p), x, y] ∧ M' = mup M p (.lst (Q.map .int)) ∧ Q.length = i ∧ ∀ x ∈ Q, 0 ≤ x ∧ x < 1009, ⟨_, _, _, [], rfl, rfl, rfl, fun _ h => nomatch h⟩, fun _ _ _ _ _ => trivial, ?_, ?_⟩
        · rintro i ρ' M' hi ⟨c, x, y, Q, rfl, rfl, hQ, hq⟩
          have add : ∀ z : Int, ∀ x ∈ Q ++ [z.fmod 1009], 0 ≤ x ∧ x < 1009 := fun z x hx => by
            rcases List.mem_append.mp hx with hx | hx
            · exact hq x hx
            · rw [List.mem_singleton.mp hx]
              exact mod_rng (by decide)
          have hsz : (Q.map D.int).length < 16777216 := by rw [List.length_map]; omega
          walk_at "dr"
          refine ⟨fun h => ?_, fun h => ?_⟩
          all_goals walk_at "dr"
          all_goals exact ⟨_, _, _, Q ++ [_], rfl, by rw [List.map_append]; rfl, by rw [List.length_append, hQ]; rfl, add _⟩
        · rintro ρ' M' ⟨c, x, y, Q, rfl, rfl, hQ, hq⟩
          rw [Int.toNat_natCast] at hQ
          exact wps.ret rfl (DA.Sub.refl _) hp (q Q hQ hq)
def R__law_drawn : RD := fun ds M Φ _ => ∃ (P : List Int) (a : Addr) (n : Int), ds = [eI P, .ref a] ∧ PoolOk P ∧ M a = some (.lst [.int n]) ∧ 0 ≤ n ∧ ∀ (rs : List Rule) (n' : Int), rsOk rs → 0 ≤ n' → NewL Φ (mup M a (.lst [.int n'])) (rs.map eR)
/-! _law_drawn: 0=pool 1=at 2=rules 3=k 4=first 5=second 6=turn -/
abbrev s__law_drawn : Stmt := topS 18
theorem sc__law_drawn : FnScope ["pool", "at", "rules", "k", "first", "second", "turn"] ["pool", "at"] (defScope s__law_drawn) := ⟨rfl, rfl, rfl, by decide +kernel, rfl, by decide +kernel, by decide +kernel⟩
theorem ok__law_drawn {P : Program} {w : World} {K : PySem.W.Frag} {mg : Str → Option Value} {base : Heap}  (F : FunAt K mg "_law_drawn" "_law_drawn" s__law_drawn ["pool", "at"]) (T : Glb mg) (C__law_next : Cal0 P w K mg base (1) "_law_next" ["pool", "at"] R__law_next) (C__law_part : Cal0 P w K mg base (2) "_law_part" ["pool", "at", "size"] R__law_part) : Cal0 P w K mg base (3) "_law_drawn" ["pool", "at"] R__law_drawn := by
  refine cal0 F sc__law_drawn (fun ds M Φ Ψ h => ?_) (fun f cdv A outer s H E hr => ⟨_, (pss_cons (ps_asg (pe_lstC pa_nil) (pg_name (i := 2) sc__law_drawn.nd rfl (by first | exact Or.inl rfl | exact Or.inr rfl)))
      (pss_cons (ps_for PassesOwn.never rfl (pi_range1 (by rfl) T.m_range (pa_cons (pe_ix ix_seq (pe_lst (pa_cons pe_int (pa_cons pe_int (pa_cons pe_int (pa_cons pe_int (pa_cons pe_int (pa_cons pe_int (pa_cons pe_int pa_nil)))))))) (pe_op op_modN (pe_cal (W := WF) C__law_next (hr.mono (by first | decide | omega)) (by rfl) (pa_cons (pv 0) (pa_cons (pv 1) pa_nil))) pe_int) (fun _ _ => rfl)) pa_nil)) (pg_name (i := 3) sc__law_drawn.nd rfl (by first | exact Or.inl rfl | exact Or.inr rfl))
      (pss_cons (ps_asg (pe_callTy call_tuple_of (by rfl) T.m_tuple (by decide +kernel) (pa_cons (pe_cal (W := WF) C__law_part (hr.mono (by first | decide | omega)) (by rfl) (pa_cons (pv 0) (pa_cons (pv 1) (pa_cons (pe_op op_addU pe_int (pe_op op_modN (pe_cal (W := WF) C__law_next (hr.mono (by first | decide | omega)) (by rfl) (pa_cons (pv 0) (pa_cons (pv 1) pa_nil))) (pe_ix ix_seq (pe_lst (pa_cons pe_int (pa_cons pe_int (pa_cons pe_int pa_nil)))) (pe_op op_modN (pe_cal (W := WF) C__law_next (hr.mono (by first | decide | omega)) (by rfl) (pa_cons (pv 0) (pa_cons (pv 1) pa_nil))) pe_int) (fun _ _ => rfl)))) pa_nil)))) pa_nil)) (pg_name (i := 4) sc__law_drawn.nd rfl (by first | exact Or.inl rfl | exact Or.inr rfl)))
      (pss_cons (ps_asg (pe_callTy call_tuple_of (by rfl) T.m_tuple (by decide +kernel) (pa_cons (pe_cal (W := WF) C__law_part (hr.mono (by first | decide | omega)) (by rfl) (pa_cons (pv 0) (pa_cons (pv 1) (pa_cons (pe_op op_addU pe_int (pe_op op_modN (pe_cal (W := WF) C__law_next (hr.mono (by first | decide | omega)) (by rfl) (pa_cons (pv 0) (pa_cons (pv 1) pa_nil))) pe_int)) pa_nil)))) pa_nil)) (pg_name (i := 5) sc__law_drawn.nd rfl (by first | exact Or.inl rfl | exact Or.inr rfl)))
      (pss_cons (ps_asg (pe_op op_modN (pe_cal (W := WF) C__law_next (hr.mono (by first | decide | omega)) (by rfl) (pa_cons (pv 0) (pa_cons (pv 1) pa_nil))) pe_int) (pg_name (i := 6) sc__law_drawn.nd rfl (by first | exact Or.inl rfl | exact Or.inr rfl)))
      (pss_one (ps_if (PW.pt (pw_and (pt_cmpR (op_eqU hr.units) (pv 6) pe_int (nomark _)) (pw_and1 (pt_cmpR op_gt (pv 3) pe_int (nomark _))))) (pss_one (ps_expr (pe_bm PySem.F.plainAttrs_list PySem.F.slot_list_append PySem.F.type_list_append mt_append (pv 2) (pa_cons (pe_ix ix_seq (pv 2) (pe_op op_modN (pe_cal (W := WF) C__law_next (hr.mono (by first | decide | omega)) (by rfl) (pa_cons (pv 0) (pa_cons (pv 1) pa_nil))) (pv 3)) (fun _ _ => rfl)) pa_nil)))) (pss_one (ps_if (pt_cmpR (op_eqU hr.units) (pv 6) pe_int (nomark _)) (pss_one (ps_expr (pe_bm PySem.F.plainAttrs_list PySem.F.slot_list_append PySem.F.type_list_append mt_append (pv 2) (pa_cons (pe_tup (pa_cons (pv 4) (pa_cons (pv 4) pa_nil))) pa_nil)))) (pss_one (ps_expr (pe_bm PySem.F.plainAttrs_list PySem.F.slot_list_append PySem.F.type_list_append mt_append (pv 2) (pa_cons (pe_tup (pa_cons (pv 4) (pa_cons (pv 5) pa_nil))) pa_nil))))))))))))
      (pss_one (ps_ret (pv 2))))), fun ds M Φ Ψ h => ?_⟩)
  · obtain ⟨P, a, n, rfl, _⟩ := h
    rfl
  · obtain ⟨P, a, n, rfl, hP, hm, hn, q⟩ := h
    dsimp only [cx_nox, cx_k, cx_blk, cx_nox2, cx_tr, cx_suite]
    change wps K _ _ [some _, some _, none, none, none, none, none] _ _
    walk_at "dr"
    rename_i p hp
    have hpa : p ≠ a := by
      rintro rfl
      rw [hm] at hp
      cases hp
    have hap : a ≠ p := Ne.symm hpa
    have e0 : mup M p (.lst []) = mup (mup M p (.lst [])) a (.lst [.int n]) := (mup_self (by rw [mup_ne hap]; exact hm)).symm
    rw [e0]
    have h7 : ∀ d ∈ ([.int 3, .int 1, .int 5, .int 2, .int 6, .int 0, .int 4] : List D), ∃ j : Nat, d = .int j ∧ j ≤ 6 := by
      intro d hd
      simp only [List.mem_cons, List.not_mem_nil, or_false] at hd
      rcases hd with rfl | rfl | rfl | rfl | rfl | rfl | rfl
      · exact ⟨3, rfl, by decide⟩
      · exact ⟨1, rfl, by decide⟩
      · exact ⟨5, rfl, by decide⟩
      · exact ⟨2, rfl, by decide⟩
      · exact ⟨6, rfl, by decide⟩
      · exact ⟨0, rfl, by decide⟩
      · exact ⟨4, rfl, by decide⟩
    have h3 : ∀ d ∈ ([.int 1, .int 2, .int 3] : List D), ∃ j : Nat, d = .int j ∧ 0 < j ∧ j ≤ 3 := by
      intro d hd
      simp only [List.mem_cons, List.not_mem_nil, or_false] at hd
      rcases hd with rfl | rfl | rfl
      · exact ⟨1, rfl, by decide, by decide⟩
      · exact ⟨2, rfl, by decide, by decide⟩
      · exact ⟨3, rfl, by decide, by decide⟩
    refine s_for (i_rng1 ?_)
    walk_at "dr"
    rename_i v n1 hv hn1
    refine o_ixMod (.lst (.imm _)) rfl (by decide) hv fun d hd => ?_
    obtain ⟨j, rfl, hj⟩ := h7 d hd
    walk_at "dr"
    refine ⟨⟨by omega, by omega⟩, fun k ρ' M' => ∃ (x y z t : Option D) (rs : List Rule) (m : Int), ρ' = [some (eI P), some (.ref a), some (.ref p), x, y, z, t] ∧ M' = mup (mup M p (.lst (rs.map eR))) a (.lst [.int m]) ∧ 0 ≤ m ∧ rs.length = k ∧ ∀ r ∈ rs, rOk r, ⟨_, _, _, _, [], n1, rfl, rfl, hn1, rfl, fun _ h => nomatch h⟩, fun _ _ _ _ _ => trivial, ?_, ?_⟩
    · rintro k ρ' M' hk ⟨x, y, z, t, rs, m, rfl, rfl, hm0, hl, hrs⟩
      rw [Int.toNat_natCast] at hk
      walk_at "dr"
      rename_i v1 m1 hv1 hm1 v2 m2 hv2 hm2
      refine o_ixMod (.lst (.imm _)) rfl (by decide) hv2 fun d hd => ?_
      obtain ⟨j1, rfl, hj1, hj2⟩ := h3 d hd
      walk_at "dr"
      have hsz : (rs.map eR).length < 16777216 := by rw [List.length_map]; omega
      have hlk : ∀ m : Int, mup (mup M p (.lst (rs.map eR))) a (.lst [.int m]) p = some (.lst (rs.map eR)) := fun m => by rw [mup_ne hpa, mup_same]
      have fin : ∀ (r : Rule) (m : Int) (x y z t : Option D), rOk r → 0 ≤ m → ∃ (x' y' z' t' : Option D) (rs' : List Rule) (m' : Int), [some (eI P), some (.ref a), some (.ref p), x, y, z, t] = [some (eI P), some (.ref a), some (.ref p), x', y', z', t'] ∧ mup (mup (mup M p (.lst (rs.map eR))) a (.lst [.int m])) p (.lst (rs.map eR ++ [eR r])) = mup (mup M p (.lst (rs'.map eR))) a (.lst [.int m']) ∧ 0 ≤ m' ∧ rs'.length = k + 1 ∧ ∀ r ∈ rs', rOk r :=
        fun r m x y z t h1 h2 => ⟨x, y, z, t, rs ++ [r], m, rfl, by rw [mup3 hpa, List.map_append]; rfl, h2, by rw [List.length_append, hl]; rfl, fun u hu => by
          rcases List.mem_append.mp hu with hu | hu
          · exact hrs u hu
          · rw [List.mem_singleton.mp hu]
            exact h1⟩
      obtain ⟨t1, ht1, hl1, hl1'⟩ : ∃ t1 : Nat, 1 + v1.fmod (j1 : Int) = (t1 : Int) ∧ 1 ≤ t1 ∧ t1 ≤ 3 := by
        obtain ⟨j, e, h⟩ := mod_nat (v := v1) (m := (j1 : Int)) (by omega)
        exact ⟨1 + j, by omega, by omega, by omega⟩
      rw [ht1]
      refine ⟨P, a, m2, t1, rfl, hP, mup_same, hm2, by omega, fun w1 m3 ho1 hw1 hm3 => .imm ?_⟩
      simp only [mup_mup]
      walk_at "dr"
      rename_i v3 m4 hv3 hm4
      obtain ⟨t2, ht2, hl2, hl2'⟩ : ∃ t2 : Nat, 1 + v3.fmod 3 = (t2 : Int) ∧ 1 ≤ t2 ∧ t2 ≤ 3 := by
        obtain ⟨j, e, h⟩ := mod_nat (v := v3) (m := 3) (by omega)
        exact ⟨1 + j, by omega, by omega, by omega⟩
      rw [ht2]
      refine ⟨P, a, m4, t2, rfl, hP, mup_same, hm4, by omega, fun w2 m5 ho2 hw2 hm5 => .imm ?_⟩
      simp only [mup_mup]
      have r11 : rOk (w1, w1) := ⟨fun z => by rw [show w1 = [] from z] at hw1; simp at hw1; omega, by show w1.length ≤ 3; omega, by show w1.length ≤ 3; omega, ho1, ho1⟩
      have r12 : rOk (w1, w2) := ⟨fun z => by rw [show w1 = [] from z] at hw1; simp at hw1; omega, by show w1.length ≤ 3; omega, by show w2.length ≤ 3; omega, ho1, ho2⟩
      walk_at "dr"
      rename_i v5 m6 hv5 hm6
      have other : wps K WF (tIfS (tTest (tOp (rEqU K) (tVar 6) (tC (V.int 1)))) (tDrop (tBM K "list" rAppend (tVar 2) (tCons (tTup (tCons (tVar 4) (tCons (tVar 4) tNil))) tNil))) (tDrop (tBM K "list" rAppend (tVar 2) (tCons (tTup (tCons (tVar 4) (tCons (tVar 5) tNil))) tNil))))
          [some (eI P), some (.ref a), some (.ref p), some (.int k), some (eP w1), some (eP w2), some (.int (v5.fmod 8))] (mup (mup M p (.lst (rs.map eR))) a (.lst [.int m6]))
          { nx := fun ρ' M' => ∃ (x y z t : Option D) (rs : List Rule) (m : Int), ρ' = [some (eI P), some (.ref a), some (.ref p), x, y, z, t] ∧ M' = mup (mup M p (.lst (rs.map eR))) a (.lst [.int m]) ∧ 0 ≤ m ∧ rs.length = k + 1 ∧ ∀ r ∈ rs, rOk r, rt := Φ, bk := fun ρ' M' => wps K WF (tRet (tVar 2)) ρ' M' { nx := fun _ M' => Φ D.non M', rt := Φ }, ct := fun ρ' M' => ∃ (x y z t : Option D) (rs : List Rule) (m : Int), ρ' = [some (eI P), some (.ref a), some (.ref p), x, y, z, t] ∧ M' = mup (mup M p (.lst (rs.map eR))) a (.lst [.int m]) ∧ 0 ≤ m ∧ rs.length = k + 1 ∧ ∀ r ∈ rs, rOk r } := by
        walk_at "dr"
        refine ⟨fun h => ?_, fun h => ?_⟩
        · walk_at "dr"
          exact fin (w1, w1) m6 _ _ _ _ r11 hm6
        · walk_at "dr"
          exact fin (w1, w2) m6 _ _ _ _ r12 hm6
      refine ⟨fun h => ?_, fun h => ?_⟩
      · walk_at "dr"
        refine ⟨fun h2 => ?_, fun _ => other⟩
        have hk0 : (0 : Int) < (k : Int) := of_decide_eq_true h2
        have hk1 : (k : Int) ≠ 0 := by omega
        walk_at "dr"
        rename_i v6 m7 hv6 hm7
        refine o_ixMod (.lst (.cell (hlk m7))) (by rw [List.length_map, hl]) hk0 hv6 fun d hd => ?_
        obtain ⟨r, h1, rfl⟩ := List.mem_map.mp hd
        walk_at "dr"
        exact fin r m7 _ _ _ _ (hrs r h1) hm7
      · exact two_f other
    · rintro ρ' M' ⟨x, y, z, t, rs, m, rfl, rfl, hm0, hl, hrs⟩
      rw [Int.toNat_natCast] at hl
      refine wps.ret rfl (N := mup M a (.lst [.int m])) ?_ (by rw [mup_ne hpa]; exact hp) (q rs m ⟨hrs, by omega⟩ hm0)
      rw [mup_comm hap]
      exact DA.Sub.refl _
end P4


section P5
local macro_rules | `(tactic| walk_at "isi") => `(tactic| first
  | ((with_reducible show wpn _ _ [(.non : D), _] _ _); first | with_reducible refine c_isi .non kt_NoneType_int ?_ | with_reducible refine c_isi .non kt_NoneType_bool ?_ | with_reducible refine c_isi .non kt_NoneType_str ?_ | with_reducible refine c_isi .non kt_NoneType_tuple ?_ | with_reducible refine c_isi .non kt_NoneType_list ?_ | with_reducible refine c_isi .non kt_NoneType_dict ?_ )
  | ((with_reducible show wpn _ _ [(.bl _ : D), _] _ _); first | with_reducible refine c_isi (.bl _) kt_bool_int ?_ | with_reducible refine c_isi (.bl _) kt_bool_bool ?_ | with_reducible refine c_isi (.bl _) kt_bool_str ?_ | with_reducible refine c_isi (.bl _) kt_bool_tuple ?_ | with_reducible refine c_isi (.bl _) kt_bool_list ?_ | with_reducible refine c_isi (.bl _) kt_bool_dict ?_ )
  | ((with_reducible show wpn _ _ [(.int _ : D), _] _ _); first | with_reducible refine c_isi (.int _) kt_int_int ?_ | with_reducible refine c_isi (.int _) kt_int_bool ?_ | with_reducible refine c_isi (.int _) kt_int_str ?_ | with_reducible refine c_isi (.int _) kt_int_tuple ?_ | with_reducible refine c_isi (.int _) kt_int_list ?_ | with_reducible refine c_isi (.int _) kt_int_dict ?_ )
  | ((with_reducible show wpn _ _ [(.str _ : D), _] _ _); first | with_reducible refine c_isi (.str _) kt_str_int ?_ | with_reducible refine c_isi (.str _) kt_str_bool ?_ | with_reducible refine c_isi (.str _) kt_str_str ?_ | with_reducible refine c_isi (.str _) kt_str_tuple ?_ | with_reducible refine c_isi (.str _) kt_str_list ?_ | with_reducible refine c_isi (.str _) kt_str_dict ?_ )
  | ((with_reducible show wpn _ _ [(.lst _ : D), _] _ _); first | with_reducible refine c_isi (.lst _) kt_list_int ?_ | with_reducible refine c_isi (.lst _) kt_list_bool ?_ | with_reducible refine c_isi (.lst _) kt_list_str ?_ | with_reducible refine c_isi (.lst _) kt_list_tuple ?_ | with_reducible refine c_isi (.lst _) kt_list_list ?_ | with_reducible refine c_isi (.lst _) kt_list_dict ?_ )
  | ((with_reducible show wpn _ _ [(.tup _ : D), _] _ _); first | with_reducible refine c_isi (.tup _) kt_tuple_int ?_ | with_reducible refine c_isi (.tup _) kt_tuple_bool ?_ | with_reducible refine c_isi (.tup _) kt_tuple_str ?_ | with_reducible refine c_isi (.tup _) kt_tuple_tuple ?_ | with_reducible refine c_isi (.tup _) kt_tuple_list ?_ | with_reducible refine c_isi (.tup _) kt_tuple_dict ?_ )
  | (first | refine c_isi (.cell (by walk_at "lk")) kt_list_int ?_ | refine c_isi (.cell (by walk_at "lk")) kt_list_bool ?_ | refine c_isi (.cell (by walk_at "lk")) kt_list_str ?_ | refine c_isi (.cell (by walk_at "lk")) kt_list_tuple ?_ | refine c_isi (.cell (by walk_at "lk")) kt_list_list ?_ | refine c_isi (.cell (by walk_at "lk")) kt_list_dict ?_ ))
local macro_rules | `(tactic| walk_at "ne") => `(tactic| first
  | assumption
  | exact Ne.symm (by assumption)
  | exact mne (by assumption) (by assumption)
  | exact Ne.symm (mne (by assumption) (by assumption)))
local macro_rules | `(tactic| walk_at "lk") => `(tactic| first
  | with_reducible exact mup_same
  | assumption
  | (refine Eq.trans (mup_ne (by walk_at "ne")) ?_; walk_at "lk"))
local macro_rules | `(tactic| walk_at "sz") => `(tactic| first
  | exact Nat.le_of_ble_eq_true rfl
  | assumption
  | omega
  | (simp only [List.length_append, List.length_map, List.length_cons, List.length_nil, List.length_replicate, List.length_take, List.length_drop]; omega)
  | (simp only [List.length_append, List.length_map, List.length_cons, List.length_nil, List.length_replicate] at *; omega))
local macro_rules | `(tactic| walk_at "ix") => `(tactic| first
  | exact rfl
  | assumption
  | exact atI_nat (by assumption)
  | exact atI_map (by assumption))
local macro_rules | `(tactic| walk_at "cm") => `(tactic| first
  | exact Or.inl ⟨by decide, by decide⟩
  | exact Or.inr ⟨by decide, by decide⟩
  | exact Or.inl ⟨by omega, by omega⟩
  | exact Or.inr ⟨by omega, by omega⟩
  | exact Or.inl (cm_mod (by decide) (by decide)))
local macro_rules | `(tactic| walk_at "sv") => `(tactic| first
  | with_reducible exact .lst (.imm _)
  | with_reducible exact .tup _
  | with_reducible exact .scr _
  | exact .lst (.cell (by walk_at "lk")))
local macro_rules | `(tactic| walk_at "kv") => `(tactic| first
  | with_reducible exact .lst (.imm _)
  | with_reducible exact .scr _
  | exact .lst (.cell (by walk_at "lk")))
local macro_rules | `(tactic| walk_at "lv") => `(tactic| first
  | with_reducible exact .imm _
  | exact .cell (by walk_at "lk"))
local macro_rules | `(tactic| walk_at "cl") => `(tactic| fail "no callee's word")
local macro_rules | `(tactic| walk_at "rs") => `(tactic| fail "no raise")
local macro_rules | `(tactic| walk_at "d_s") => `(tactic| first
  | with_reducible refine s_seq ?_
  | with_reducible refine s_asg ?_
  | with_reducible refine s_ret ?_
  | with_reducible refine s_if ?_
  | with_reducible refine s_drop ?_
  | with_reducible refine s_next ?_
  | with_reducible refine s_retN ?_
  | with_reducible refine s_brk ?_
  | with_reducible refine s_cont ?_
  | with_reducible refine s_dput ?_
  | walk_at "rs")
local macro_rules | `(tactic| walk_at "ec") => `(tactic| fail "no wish about calls")
local macro_rules | `(tactic| walk_at "d_e") => `(tactic| first
  | walk_at "ec"
  | ((with_reducible refine' e_var ?vh ?vk); (case vh => exact rfl))
  | with_reducible refine e_op ?_
  | with_reducible refine e_int ?_
  | with_reducible refine e_str ?_
  | with_reducible refine e_cb ?_
  | with_reducible refine e_call ?_
  | with_reducible refine e_tup ?_
  | with_reducible refine e_lst ?_
  | with_reducible refine e_sl ?_
  | with_reducible refine e_and ?_
  | with_reducible refine e_not ?_
  | with_reducible refine e_bl ?_
  | with_reducible refine e_non ?_
  | with_reducible refine e_or ?_
  | with_reducible refine e_ite ?_
  | with_reducible refine e_notT ?_
  | with_reducible refine e_ty ?_
  | with_reducible refine e_un ?_
  | with_reducible refine e_bm ?_
  | with_reducible refine e_joined ?_
  | with_reducible refine e_lstC ?_
  | with_reducible refine e_dget2 ?_
  | with_reducible refine e_dget ?_
  | with_reducible refine e_dget1 ?_
  | with_reducible refine e_din ?_
  | ((with_reducible refine e_dnew ?_); intro _ _)
  | with_reducible refine e_orL ?_)
local macro_rules | `(tactic| walk_at "d_t") => `(tactic| first
  | with_reducible refine t_test ?_
  | with_reducible refine t_not ?_
  | with_reducible refine t_and ?_
  | with_reducible refine t_or ?_
  | with_reducible refine t_yes ?_
  | with_reducible refine t_B ?_
  | with_reducible refine t_tru ?_)
local macro_rules | `(tactic| walk_at "d_2") => `(tactic| first
  | with_reducible refine o_addI ?_
  | with_reducible refine o_eqI ?_
  | with_reducible refine o_eqS ?_
  | ((with_reducible refine' o_ix ?xs1 ?xs2 ?xs3); (case xs1 => walk_at "sv"); (case xs2 => walk_at "ix"))
  | with_reducible refine o_neI ?_
  | with_reducible refine o_neS ?_
  | with_reducible refine o_lt ?_
  | with_reducible refine o_le ?_
  | with_reducible refine o_gt ?_
  | with_reducible refine o_ge ?_
  | with_reducible refine o_subI ?_
  | ((with_reducible refine o_mod ?md ?_); (case md => first | decide | omega | assumption))
  | ((with_reducible refine o_fdiv ?md ?_); (case md => first | decide | exact ⟨by omega, by omega⟩))
  | ((with_reducible refine o_mulI ?cm ?_); (case cm => walk_at "cm"))
  | ((with_reducible refine o_addT ?sz ?_); (case sz => walk_at "sz"))
  | ((with_reducible refine' o_addL ?l1 ?l2 ?sz ?n); (case l1 => walk_at "lv"); (case l2 => walk_at "lv"); (case sz => walk_at "sz"); (try simp only [← List.map_append]); first | assumption | refine .imm ?_)
  | ((with_reducible refine o_isN rfl ?_); try dsimp only)
  | ((with_reducible refine o_notN rfl ?_); try dsimp only)
  | with_reducible refine o_eqB ?_
  | with_reducible refine o_neB ?_
  | ((with_reducible refine o_pow ?cp ?_); (case cp => exact ⟨by decide, by decide, by decide⟩)))
local macro_rules | `(tactic| walk_at "d_n") => `(tactic| first
  | ((with_reducible refine' c_len ?xs1 ?xs3); (case xs1 => walk_at "sv"))
  | walk_at "isi"
  | ((with_reducible refine' c_list ?xs1 ?xs3); (case xs1 => walk_at "sv"); first | assumption | refine .imm ?_)
  | ((with_reducible refine' c_tupleL ?xs1 ?xs3); (case xs1 => walk_at "kv"))
  | with_reducible refine c_tupleT ?_
  | with_reducible refine c_intI ?_
  | with_reducible refine c_intB ?_
  | with_reducible refine c_max2 ?_
  | with_reducible refine c_min2 ?_
  | ((with_reducible refine' c_listC ?xs1 ?xs3); (case xs1 => walk_at "sv"); intro p hp))
local macro_rules | `(tactic| walk_at "d_m") => `(tactic| first
  | ((with_reducible refine' m_append ?lk ?sz ?q); (case lk => walk_at "lk"); (case sz => walk_at "sz"); try simp only [mup_mup])
  | ((with_reducible refine' m_extend ?lk ?lv ?sz ?q); (case lk => walk_at "lk"); (case lv => walk_at "lv"); (case sz => walk_at "sz"); try simp only [mup_mup]))
local macro_rules | `(tactic| walk_at "d_g") => `(tactic| first
  | ((with_reducible refine g_name ?_); try dsimp only [List.set_cons_succ, List.set_cons_zero])
  | (with_reducible refine g_tup rfl ?_)
  | (with_reducible refine g_setL ?_)
  | (with_reducible refine gl_tup rfl ?_)
  | ((with_reducible refine gl_name ?gm ?_); (case gm => decide); try dsimp only [DA.dwipe, List.set_cons_succ, List.set_cons_zero]))
local macro_rules | `(tactic| walk_at "d_h") => `(tactic| first
  | with_reducible refine g_nil ?_
  | ((with_reducible refine g_cons ?_); try dsimp only [List.set_cons_succ, List.set_cons_zero])
  | with_reducible refine g_consG ?_
  | with_reducible refine gl_nil ?_
  | ((with_reducible refine gl_cons ?gm ?_); (case gm => decide); try dsimp only [DA.dwipe, List.set_cons_succ, List.set_cons_zero])
  | with_reducible refine gl_consG ?_)
local macro_rules | `(tactic| walk_at "d_x") => `(tactic| first
  | with_reducible refine ⟨_, Tv.bl _, ?_⟩
  | ((with_reducible refine ⟨_, rfl, ?_⟩); try dsimp only)
  | with_reducible refine two_t ?_
  | with_reducible refine two_f ?_
  | with_reducible refine two_nt ?_
  | with_reducible refine two_nf ?_
  | ((with_reducible refine ⟨?szl, NewL.imm ?_⟩); (case szl => exact Nat.le_of_ble_eq_true rfl))
  | ((with_reducible refine ⟨?szl, fun p hp => ?_⟩); (case szl => exact Nat.le_of_ble_eq_true rfl))
  | ((with_reducible refine ⟨?szl, ?_⟩); (case szl => exact Nat.le_of_ble_eq_true rfl))
  | ((with_reducible refine' ⟨_, _, _, _, rfl, rfl, ?lk, ?ij, ?_⟩); (case lk => walk_at "lk"); (case ij => exact rfl); try dsimp only [List.set_cons_succ, List.set_cons_zero])
  | ((with_reducible refine' ⟨_, _, rfl, ?lk, ?_⟩); (case lk => walk_at "lk"))
  | ((with_reducible refine' ⟨_, .inr _, ?lk, rfl, ?_⟩); (case lk => walk_at "lk"))
  | ((with_reducible refine' ⟨_, .inl _, ?lk, rfl, ?_⟩); (case lk => walk_at "lk"))
  | ((with_reducible refine' ⟨_, _, .inr _, rfl, ?lk, rfl, ?sz, ?_⟩); (case lk => walk_at "lk"); (case sz => walk_at "sz"); try simp only [mup_mup])
  | ((with_reducible refine' ⟨_, _, .inl _, rfl, ?lk, rfl, ?sz, ?_⟩); (case lk => walk_at "lk"); (case sz => walk_at "sz"); try simp only [mup_mup])
  | ((with_reducible refine ⟨?tyc, ?_⟩); (case tyc => exact ty_cell (by walk_at "lk")))
  | walk_at "cl")
local macro_rules | `(tactic| walk_at "ds") => `(tactic| first
  | ((with_reducible show wpe _ _ _ _ _ _ _); walk_at "d_e")
  | ((with_reducible show wps _ _ _ _ _ _); walk_at "d_s")
  | ((with_reducible show wp2 _ _ _ _ _ _); walk_at "d_2")
  | ((with_reducible show wpa _ _ _ _ _ _ _); first | with_reducible refine a_cons ?_ | with_reducible refine a_nil ?_)
  | ((with_reducible show wpn _ _ _ _ _); walk_at "d_n")
  | ((with_reducible show wpt _ _ _ _ _ _ _); walk_at "d_t")
  | ((with_reducible show wpg _ _ _ _ _ _ _ _); walk_at "d_g")
  | ((with_reducible show wpgs _ _ _ _ _ _ _ _); walk_at "d_h")
  | ((with_reducible show wpgl _ _ _ _ _ _ _); walk_at "d_g")
  | ((with_reducible show wpgls _ _ _ _ _ _ _); walk_at "d_h")
  | ((with_reducible show wpm _ _ _ _ _ _); walk_at "d_m")
  | ((with_reducible show wpo _ _ _ _ _ _ _); first | with_reducible refine p_none ?_ | with_reducible refine p_some ?_)
  | ((with_reducible show wps3 _ _ _ _ _ _ _); first | ((with_reducible refine' sl_L ?kv ?q); (case kv => walk_at "kv"); (try simp only [cut_to, cut_from, cut_from2, cut_at, List.length_map]); first | assumption | refine .imm ?_) | ((with_reducible refine sl_T ?_); try simp only [cut_to, cut_from, cut_from2, cut_at, List.length_map]))
  | ((with_reducible show wp1 _ _ _ _ _); first | with_reducible refine u_neg ?_)
  | ((with_reducible show wpj _ _ _ _ _ _ _ _); first | with_reducible refine j_nil ?_ | with_reducible refine j_cons ?_)
  | walk_at "d_x"
  | dsimp only)
local macro_rules | `(tactic| walk_at "dr") => `(tactic| repeat (walk_at "ds"))

local macro_rules | `(tactic| walk_at "cl") => `(tactic| ((refine l_next (by assumption) (by walk_at "lk") (by assumption) ?_); intro _ _ _ _; try simp only [mup_mup]))
/-- the mixed word -/
abbrev mixed (w : Wd) (j : Nat) (odd : D) : List D := (w.take j).map D.str ++ [odd] ++ (w.drop j).map D.str ++ [.non]
theorem mixed_chk {w : Wd} (hw : wOk w) {j : Nat} {odd : D} (hj : j ≤ w.length) (ho : okS odd = false) : chk (.lst (mixed w j odd)) = some (j : Int) := by
  show Option.map Int.ofNat ((mixed w j odd).findIdx? fun d => !okS d) = some (j : Int)
  have hl : ((w.take j).map D.str).length = j := by rw [List.length_map, List.length_take]; omega
  have e : (mixed w j odd).findIdx? (fun d => !okS d) = some j := by
    rw [List.findIdx?_eq_some_iff_getElem]
    have hlen : j < (mixed w j odd).length := by
      simp only [mixed, List.length_append, hl, List.length_cons, List.length_nil]
      omega
    refine ⟨hlen, ?_, fun i hi => ?_⟩
    · have : (mixed w j odd)[j]? = some odd := by
        rw [List.getElem?_append_left (by simp only [List.length_append, hl, List.length_cons]; omega), List.getElem?_append_left (by simp only [List.length_append, hl, List.length_cons]; omega), List.getElem?_append_right (by omega), hl, Nat.sub_self]
        rfl
      rw [List.getElem?_eq_getElem hlen] at this
      rw [Option.some.inj this, ho]
      rfl
    · have hi2 : i < ((w.take j).map D.str).length := by omega
      have : (mixed w j odd)[i]? = ((w.take j).map D.str)[i]? := by
        rw [List.getElem?_append_left (by simp only [List.length_append, hl, List.length_cons]; omega), List.getElem?_append_left (by simp only [List.length_append, hl, List.length_cons]; omega), List.getElem?_append_left hi2]
      rw [List.getElem?_eq_getElem (by omega), List.getElem?_eq_getElem hi2] at this
      rw [Option.some.inj this, List.getElem_map]
      have hm : (w.take j)[i]'(by rw [List.length_map] at hi2; exact hi2) ∈ menu := hw _ (List.mem_of_mem_take (List.getElem_mem _))
      show ¬ (!!decide (_ = _)) = true
      rw [decide_eq_false (menu_ne hm)]
      decide
  rw [e]
  rfl
theorem mixed_pls {w : Wd} {j : Nat} {odd : D} (ho : Pl odd) : Pls (.lst (mixed w j odd)) := fun d hd => by
  rcases List.mem_append.mp hd with hd | hd
  · rcases List.mem_append.mp hd with hd | hd
    · rcases List.mem_append.mp hd with hd | hd
      · obtain ⟨s, _, rfl⟩ := List.mem_map.mp hd
        exact .str s
      · rw [List.mem_singleton.mp hd]
        exact ho
    · obtain ⟨s, _, rfl⟩ := List.mem_map.mp hd
      exact .str s
  · rw [List.mem_singleton.mp hd]
    exact .non
def R__law_refused (ad : Adr) : RD := fun ds M Φ _ => ∃ (rs : List Rule) (w : Wd) (P : List Int) (a : Addr) (n : Int), ds = [eRs rs, eW w, eI P, .ref a] ∧ rsOk rs ∧ wOk w ∧ w.length ≤ 500 ∧ PoolOk P ∧ M a = some (.lst [.int n]) ∧ 0 ≤ n ∧ ∀ n' : Int, 0 ≤ n' → Φ (.bl true) (mup M a (.lst [.int n']))
/-! _law_refused: 0=rules 1=word 2=pool 3=at 4=place 5=odd 6=mixed 7=name 8=value -/
abbrev s__law_refused : Stmt := topS 20
theorem sc__law_refused : FnScope ["rules", "word", "pool", "at", "place", "odd", "mixed", "name", "value"] ["rules", "word", "pool", "at"] (defScope s__law_refused) := ⟨rfl, rfl, rfl, by decide +kernel, rfl, by decide +kernel, by decide +kernel⟩
theorem ok__law_refused {P : Program} {w : World} {K : PySem.W.Frag} {mg : Str → Option Value} {base : Heap}  (F : FunAt K mg "_law_refused" "_law_refused" s__law_refused ["rules", "word", "pool", "at"]) (T : Glb mg) (C__law_next : Cal0 P w K mg base (1) "_law_next" ["pool", "at"] R__law_next) (C__law_fails : Cal0 P w K mg base (6) "_law_fails" ["word", "rules", "given", "steps"] (R__law_fails a)) : Cal0 P w K mg base (7) "_law_refused" ["rules", "word", "pool", "at"] (R__law_refused a) := by
  refine cal0 F sc__law_refused (fun ds M Φ Ψ h => ?_) (fun f cdv A outer s H E hr => ⟨_, (pss_cons (ps_asg (pe_op op_modN (pe_cal (W := WF) C__law_next (hr.mono (by first | decide | omega)) (by rfl) (pa_cons (pv 2) (pa_cons (pv 3) pa_nil))) (pe_op op_addU (pe_callB call_lenU (by rfl) T.m_len (by decide +kernel) (pa_cons (pv 1) pa_nil)) pe_int)) (pg_name (i := 4) sc__law_refused.nd rfl (by first | exact Or.inl rfl | exact Or.inr rfl)))
      (pss_cons (ps_asg (pe_ix ix_seq (pe_lst (pa_cons pe_non (pa_cons pe_str (pa_cons pe_int (pa_cons (pe_lst (pa_cons pe_str pa_nil)) (pa_cons (pe_tup (pa_cons pe_str pa_nil)) (pa_cons pe_bl pa_nil))))))) (pe_op op_modN (pe_cal (W := WF) C__law_next (hr.mono (by first | decide | omega)) (by rfl) (pa_cons (pv 2) (pa_cons (pv 3) pa_nil))) pe_int) (fun _ _ => rfl)) (pg_name (i := 5) sc__law_refused.nd rfl (by first | exact Or.inl rfl | exact Or.inr rfl)))
      (pss_cons (ps_asg (pe_op op_addU (pe_op op_addU (pe_op op_addU (pe_slice sl_U (pv 1) po_none (po_some (pv 4))) (pe_lst (pa_cons (pv 5) pa_nil))) (pe_slice sl_U (pv 1) (po_some (pv 4)) po_none)) (pe_lst (pa_cons pe_non pa_nil))) (pg_name (i := 6) sc__law_refused.nd rfl (by first | exact Or.inl rfl | exact Or.inr rfl)))
      (pss_cons (ps_for PassesOwn.never rfl (pi_seq (pe_lst (pa_cons pe_str (pa_cons pe_str (pa_cons pe_str pa_nil))))) (pg_name (i := 7) sc__law_refused.nd rfl (by first | exact Or.inl rfl | exact Or.inr rfl))
      (pss_cons (ps_if (pt_cmpR (op_neU hr.units) (pe_cal (W := WF) C__law_fails (hr.mono (by first | decide | omega)) (by rfl) (pa_cons (pv 7) (pa_cons (pe_callTy call_list_of (by rfl) T.m_list (by decide +kernel) (pa_cons (pv 0) pa_nil)) (pa_cons (pv 6) (pa_cons (pe_lst pa_nil) pa_nil))))) (pv 4) (nomark _)) (pss_one (ps_ret pe_bl)) pss_nil)
      (pss_one (ps_for PassesOwn.never rfl (pi_seq (pe_lst (pa_cons pe_non (pa_cons pe_str (pa_cons (pe_callTy call_tuple_of (by rfl) T.m_tuple (by decide +kernel) (pa_cons (pv 1) pa_nil)) (pa_cons pe_int pa_nil)))))) (pg_name (i := 8) sc__law_refused.nd rfl (by first | exact Or.inl rfl | exact Or.inr rfl))
      (pss_one (ps_if (pt_cmpR (op_neU hr.units) (pe_cal (W := WF) C__law_fails (hr.mono (by first | decide | omega)) (by rfl) (pa_cons (pv 7) (pa_cons (pe_callTy call_list_of (by rfl) T.m_list (by decide +kernel) (pa_cons (pv 0) pa_nil)) (pa_cons (pv 8) (pa_cons (pe_lst pa_nil) pa_nil))))) (pe_un un_neg pe_int) (nomark _)) (pss_one (ps_ret pe_bl)) pss_nil))))))
      (pss_one (ps_ret pe_bl)))))), fun ds M Φ Ψ h => ?_⟩)
  · obtain ⟨rs, w, P, a, n, rfl, _⟩ := h
    rfl
  · obtain ⟨rs, w, P, at', n, rfl, hr, hw, lw, hP, hm, hn, q⟩ := h
    dsimp only [cx_nox, cx_k, cx_blk, cx_nox2, cx_tr, cx_suite]
    change wps K _ _ [some _, some _, some _, some _, none, none, none, none, none] _ _
    have odds : ∀ d ∈ ([.non, .str "", .int 1, .lst [.str "a"], .tup [.str "a"], .bl true] : List D), okS d = false ∧ Pl d := by
      intro d hd
      simp only [List.mem_cons, List.not_mem_nil, or_false] at hd
      rcases hd with rfl | rfl | rfl | rfl | rfl | rfl
      · exact ⟨rfl, .non⟩
      · exact ⟨by decide +kernel, .str _⟩
      · exact ⟨rfl, .int _⟩
      · exact ⟨rfl, .lst _⟩
      · exact ⟨rfl, .tup _⟩
      · exact ⟨rfl, .bl _⟩
    have hw0 : ((w.map D.str).length : Int) + 1 ≠ 0 := by omega
    walk_at "dr"
    rename_i v1 n1 hv1 hn1 v2 n2 hv2 hn2
    refine o_ixMod (.lst (.imm _)) rfl (by decide) hv2 fun odd hodd => ?_
    obtain ⟨ho1, ho2⟩ := odds odd hodd
    obtain ⟨j, hj, hjl⟩ := mod_nat (v := v1) (m := ((w.map D.str).length : Int) + 1) (by omega)
    rw [List.length_map] at hjl
    rw [hj]
    have hmx := mixed_chk hw (j := j) (by omega) ho1
    have hml := mixed_pls (w := w) (j := j) ho2
    generalize hM : mup M at' (.lst [.int n2]) = M0
    have q0 := q n2 hn2
    rw [hM] at q0
    have names : ∀ d ∈ ([.str "steps_from", .str "stepped", .str "derived"] : List D), ∃ nm, d = .str nm := by
      intro d hd
      simp only [List.mem_cons, List.not_mem_nil, or_false] at hd
      rcases hd with rfl | rfl | rfl <;> exact ⟨_, rfl⟩
    have vals : ∀ d ∈ ([.non, .str "ab", .tup (w.map D.str), .int 3] : List D), Pl d ∧ Pls d ∧ chk d = some (-1) ∧ ∀ ds, d ≠ .lst ds := by
      intro d hd
      simp only [List.mem_cons, List.not_mem_nil, or_false] at hd
      rcases hd with rfl | rfl | rfl | rfl
      · exact ⟨.non, .non, rfl, fun _ z => nomatch z⟩
      · exact ⟨.str _, .str _, rfl, fun _ z => nomatch z⟩
      · exact ⟨.tup _, .tup _, rfl, fun _ z => nomatch z⟩
      · exact ⟨.int _, .int _, rfl, fun _ z => nomatch z⟩
    have hlm : ∀ ds, D.lst (mixed w j odd) = .lst ds → ds.length ≤ 1000 := fun ds e => by
      rw [← D.lst.inj e]
      simp only [mixed, List.length_append, List.length_map, List.length_take, List.length_drop, List.length_cons, List.length_nil]
      omega
    walk_at "dr"
    refine s_for (i_seq ?_)
    walk_at "dr"
    refine ⟨_, .inl rfl, fun i ρ' M' => ∃ x y, ρ' = [some (eRs rs), some (eW w), some (eI P), some (.ref at'), some (.int j), some odd, some (.lst (mixed w j odd)), x, y] ∧ DA.Sub M0 M', ⟨_, _, rfl, DA.Sub.refl _⟩, fun _ _ _ _ _ => trivial, ?_, ?_⟩
    · rintro i ρ' M' hi ⟨x, y, rfl, hs⟩
      obtain ⟨nm, hnm⟩ := names _ (nth_mem hi)
      rw [hnm]
      walk_at "dr"
      refine ⟨rs, _, [], nm, j, rfl, hr, .lst _, hml, (fun _ h => nomatch h), by decide, hlm, .inl hmx, fun M2 hM2 => ?_⟩
      walk_at "dr"
      refine two_no (by simp) ?_
      walk_at "dr"
      refine s_for (i_seq ?_)
      walk_at "dr"
      refine ⟨_, .inl rfl, fun i ρ' M' => ∃ y, ρ' = [some (eRs rs), some (eW w), some (eI P), some (.ref at'), some (.int j), some odd, some (.lst (mixed w j odd)), some (.str nm), y] ∧ DA.Sub M0 M', ⟨_, rfl, hs.trans hM2⟩, fun _ _ _ _ _ => trivial, ?_, ?_⟩
      · rintro i ρ' M' hi ⟨y, rfl, hs⟩
        obtain ⟨v1, v2, v3, v4⟩ := vals _ (nth_mem hi)
        generalize nth _ i = d at v1 v2 v3 v4
        walk_at "dr"
        refine ⟨rs, d, [], nm, -1, rfl, hr, v1, v2, (fun _ h => nomatch h), by decide, fun ds e => absurd e (v4 ds), .inl v3, fun M2 hM2 => ?_⟩
        walk_at "dr"
        refine two_no (by simp) ?_
        walk_at "dr"
        first | exact ⟨_, rfl, hs.trans hM2⟩ | exact hs.trans hM2
      · rintro ρ' M' ⟨y, rfl, hs⟩
        exact ⟨_, _, rfl, hs⟩
    · rintro ρ' M' ⟨x, y, rfl, hs⟩
      refine s_less hs ?_
      walk_at "dr"
      exact q0
end P5


section P6
local macro_rules | `(tactic| walk_at "isi") => `(tactic| first
  | ((with_reducible show wpn _ _ [(.non : D), _] _ _); first | with_reducible refine c_isi .non kt_NoneType_int ?_ | with_reducible refine c_isi .non kt_NoneType_bool ?_ | with_reducible refine c_isi .non kt_NoneType_str ?_ | with_reducible refine c_isi .non kt_NoneType_tuple ?_ | with_reducible refine c_isi .non kt_NoneType_list ?_ | with_reducible refine c_isi .non kt_NoneType_dict ?_ )
  | ((with_reducible show wpn _ _ [(.bl _ : D), _] _ _); first | with_reducible refine c_isi (.bl _) kt_bool_int ?_ | with_reducible refine c_isi (.bl _) kt_bool_bool ?_ | with_reducible refine c_isi (.bl _) kt_bool_str ?_ | with_reducible refine c_isi (.bl _) kt_bool_tuple ?_ | with_reducible refine c_isi (.bl _) kt_bool_list ?_ | with_reducible refine c_isi (.bl _) kt_bool_dict ?_ )
  | ((with_reducible show wpn _ _ [(.int _ : D), _] _ _); first | with_reducible refine c_isi (.int _) kt_int_int ?_ | with_reducible refine c_isi (.int _) kt_int_bool ?_ | with_reducible refine c_isi (.int _) kt_int_str ?_ | with_reducible refine c_isi (.int _) kt_int_tuple ?_ | with_reducible refine c_isi (.int _) kt_int_list ?_ | with_reducible refine c_isi (.int _) kt_int_dict ?_ )
  | ((with_reducible show wpn _ _ [(.str _ : D), _] _ _); first | with_reducible refine c_isi (.str _) kt_str_int ?_ | with_reducible refine c_isi (.str _) kt_str_bool ?_ | with_reducible refine c_isi (.str _) kt_str_str ?_ | with_reducible refine c_isi (.str _) kt_str_tuple ?_ | with_reducible refine c_isi (.str _) kt_str_list ?_ | with_reducible refine c_isi (.str _) kt_str_dict ?_ )
  | ((with_reducible show wpn _ _ [(.lst _ : D), _] _ _); first | with_reducible refine c_isi (.lst _) kt_list_int ?_ | with_reducible refine c_isi (.lst _) kt_list_bool ?_ | with_reducible refine c_isi (.lst _) kt_list_str ?_ | with_reducible refine c_isi (.lst _) kt_list_tuple ?_ | with_reducible refine c_isi (.lst _) kt_list_list ?_ | with_reducible refine c_isi (.lst _) kt_list_dict ?_ )
  | ((with_reducible show wpn _ _ [(.tup _ : D), _] _ _); first | with_reducible refine c_isi (.tup _) kt_tuple_int ?_ | with_reducible refine c_isi (.tup _) kt_tuple_bool ?_ | with_reducible refine c_isi (.tup _) kt_tuple_str ?_ | with_reducible refine c_isi (.tup _) kt_tuple_tuple ?_ | with_reducible refine c_isi (.tup _) kt_tuple_list ?_ | with_reducible refine c_isi (.tup _) kt_tuple_dict ?_ )
  | (first | refine c_isi (.cell (by walk_at "lk")) kt_list_int ?_ | refine c_isi (.cell (by walk_at "lk")) kt_list_bool ?_ | refine c_isi (.cell (by walk_at "lk")) kt_list_str ?_ | refine c_isi (.cell (by walk_at "lk")) kt_list_tuple ?_ | refine c_isi (.cell (by walk_at "lk")) kt_list_list ?_ | refine c_isi (.cell (by walk_at "lk")) kt_list_dict ?_ ))
local macro_rules | `(tactic| walk_at "ne") => `(tactic| first
  | assumption
  | exact Ne.symm (by assumption)
  | exact mne (by assumption) (by assumption)
  | exact Ne.symm (mne (by assumption) (by assumption)))
local macro_rules | `(tactic| walk_at "lk") => `(tactic| first
  | with_reducible exact mup_same
  | assumption
  | (refine Eq.trans (mup_ne (by walk_at "ne")) ?_; walk_at "lk"))
local macro_rules | `(tactic| walk_at "sz") => `(tactic| first
  | exact Nat.le_of_ble_eq_true rfl
  | assumption
  | omega
  | (simp only [List.length_append, List.length_map, List.length_cons, List.length_nil, List.length_replicate, List.length_take, List.length_drop]; omega)
  | (simp only [List.length_append, List.length_map, List.length_cons, List.length_nil, List.length_replicate] at *; omega))
local macro_rules | `(tactic| walk_at "ix") => `(tactic| first
  | exact rfl
  | assumption
  | exact atI_nat (by assumption)
  | exact atI_map (by assumption))
local macro_rules | `(tactic| walk_at "cm") => `(tactic| first
  | exact Or.inl ⟨by decide, by decide⟩
  | exact Or.inr ⟨by decide, by decide⟩
  | exact Or.inl ⟨by omega, by omega⟩
  | exact Or.inr ⟨by omega, by omega⟩
  | exact Or.inl (cm_mod (by decide) (by decide)))
local macro_rules | `(tactic| walk_at "sv") => `(tactic| first
  | with_reducible exact .lst (.imm _)
  | with_reducible exact .tup _
  | with_reducible exact .scr _
  | exact .lst (.cell (by walk_at "lk")))
local macro_rules | `(tactic| walk_at "kv") => `(tactic| first
  | with_reducible exact .lst (.imm _)
  | with_reducible exact .scr _
  | exact .lst (.cell (by walk_at "lk")))
local macro_rules | `(tactic| walk_at "lv") => `(tactic| first
  | with_reducible exact .imm _
  | exact .cell (by walk_at "lk"))
local macro_rules | `(tactic| walk_at "cl") => `(tactic| fail "no callee's word")
local macro_rules | `(tactic| walk_at "rs") => `(tactic| fail "no raise")
local macro_rules | `(tactic| walk_at "d_s") => `(tactic| first
  | with_reducible refine s_seq ?_
  | with_reducible refine s_asg ?_
  | with_reducible refine s_ret ?_
  | with_reducible refine s_if ?_
  | with_reducible refine s_drop ?_
  | with_reducible refine s_next ?_
  | with_reducible refine s_retN ?_
  | with_reducible refine s_brk ?_
  | with_reducible refine s_cont ?_
  | with_reducible refine s_dput ?_
  | walk_at "rs")
local macro_rules | `(tactic| walk_at "ec") => `(tactic| fail "no wish about calls")
local macro_rules | `(tactic| walk_at "d_e") => `(tactic| first
  | walk_at "ec"
  | ((with_reducible refine' e_var ?vh ?vk); (case vh => exact rfl))
  | with_reducible refine e_op ?_
  | with_reducible refine e_int ?_
  | with_reducible refine e_str ?_
  | with_reducible refine e_cb ?_
  | with_reducible refine e_call ?_
  | with_reducible refine e_tup ?_
  | with_reducible refine e_lst ?_
  | with_reducible refine e_sl ?_
  | with_reducible refine e_and ?_
  | with_reducible refine e_not ?_
  | with_reducible refine e_bl ?_
  | with_reducible refine e_non ?_
  | with_reducible refine e_or ?_
  | with_reducible refine e_ite ?_
  | with_reducible refine e_notT ?_
  | with_reducible refine e_ty ?_
  | with_reducible refine e_un ?_
  | with_reducible refine e_bm ?_
  | with_reducible refine e_joined ?_
  | with_reducible refine e_lstC ?_
  | with_reducible refine e_dget2 ?_
  | with_reducible refine e_dget ?_
  | with_reducible refine e_dget1 ?_
  | with_reducible refine e_din ?_
  | ((with_reducible refine e_dnew ?_); intro _ _)
  | with_reducible refine e_orL ?_)
local macro_rules | `(tactic| walk_at "d_t") => `(tactic| first
  | with_reducible refine t_test ?_
  | with_reducible refine t_not ?_
  | with_reducible refine t_and ?_
  | with_reducible refine t_or ?_
  | with_reducible refine t_yes ?_
  | with_reducible refine t_B ?_
  | with_reducible refine t_tru ?_)
local macro_rules | `(tactic| walk_at "d_2") => `(tactic| first
  | with_reducible refine o_addI ?_
  | with_reducible refine o_eqI ?_
  | with_reducible refine o_eqS ?_
  | ((with_reducible refine' o_ix ?xs1 ?xs2 ?xs3); (case xs1 => walk_at "sv"); (case xs2 => walk_at "ix"))
  | with_reducible refine o_neI ?_
  | with_reducible refine o_neS ?_
  | with_reducible refine o_lt ?_
  | with_reducible refine o_le ?_
  | with_reducible refine o_gt ?_
  | with_reducible refine o_ge ?_
  | with_reducible refine o_subI ?_
  | ((with_reducible refine o_mod ?md ?_); (case md => first | decide | omega | assumption))
  | ((with_reducible refine o_fdiv ?md ?_); (case md => first | decide | exact ⟨by omega, by omega⟩))
  | ((with_reducible refine o_mulI ?cm ?_); (case cm => walk_at "cm"))
  | ((with_reducible refine o_addT ?sz ?_); (case sz => walk_at "sz"))
  | ((with_reducible refine' o_addL ?l1 ?l2 ?sz ?n); (case l1 => walk_at "lv"); (case l2 => walk_at "lv"); (case sz => walk_at "sz"); (try simp only [← List.map_append]); first | assumption | refine .imm ?_)
  | ((with_reducible refine o_isN rfl ?_); try dsimp only)
  | ((with_reducible refine o_notN rfl ?_); try dsimp only)
  | with_reducible refine o_eqB ?_
  | with_reducible refine o_neB ?_
  | ((with_reducible refine o_pow ?cp ?_); (case cp => exact ⟨by decide, by decide, by decide⟩)))
local macro_rules | `(tactic| walk_at "d_n") => `(tactic| first
  | ((with_reducible refine' c_len ?xs1 ?xs3); (case xs1 => walk_at "sv"))
  | walk_at "isi"
  | ((with_reducible refine' c_list ?xs1 ?xs3); (case xs1 => walk_at "sv"); first | assumption | refine .imm ?_)
  | ((with_reducible refine' c_tupleL ?xs1 ?xs3); (case xs1 => walk_at "kv"))
  | with_reducible refine c_tupleT ?_
  | with_reducible refine c_intI ?_
  | with_reducible refine c_intB ?_
  | with_reducible refine c_max2 ?_
  | with_reducible refine c_min2 ?_
  | ((with_reducible refine' c_listC ?xs1 ?xs3); (case xs1 => walk_at "sv"); intro p hp))
local macro_rules | `(tactic| walk_at "d_m") => `(tactic| first
  | ((with_reducible refine' m_append ?lk ?sz ?q); (case lk => walk_at "lk"); (case sz => walk_at "sz"); try simp only [mup_mup])
  | ((with_reducible refine' m_extend ?lk ?lv ?sz ?q); (case lk => walk_at "lk"); (case lv => walk_at "lv"); (case sz => walk_at "sz"); try simp only [mup_mup]))
local macro_rules | `(tactic| walk_at "d_g") => `(tactic| first
  | ((with_reducible refine g_name ?_); try dsimp only [List.set_cons_succ, List.set_cons_zero])
  | (with_reducible refine g_tup rfl ?_)
  | (with_reducible refine g_setL ?_)
  | (with_reducible refine gl_tup rfl ?_)
  | ((with_reducible refine gl_name ?gm ?_); (case gm => decide); try dsimp only [DA.dwipe, List.set_cons_succ, List.set_cons_zero]))
local macro_rules | `(tactic| walk_at "d_h") => `(tactic| first
  | with_reducible refine g_nil ?_
  | ((with_reducible refine g_cons ?_); try dsimp only [List.set_cons_succ, List.set_cons_zero])
  | with_reducible refine g_consG ?_
  | with_reducible refine gl_nil ?_
  | ((with_reducible refine gl_cons ?gm ?_); (case gm => decide); try dsimp only [DA.dwipe, List.set_cons_succ, List.set_cons_zero])
  | with_reducible refine gl_consG ?_)
local macro_rules | `(tactic| walk_at "d_x") => `(tactic| first
  | with_reducible refine ⟨_, Tv.bl _, ?_⟩
  | ((with_reducible refine ⟨_, rfl, ?_⟩); try dsimp only)
  | with_reducible refine two_t ?_
  | with_reducible refine two_f ?_
  | with_reducible refine two_nt ?_
  | with_reducible refine two_nf ?_
  | ((with_reducible refine ⟨?szl, NewL.imm ?_⟩); (case szl => exact Nat.le_of_ble_eq_true rfl))
  | ((with_reducible refine ⟨?szl, fun p hp => ?_⟩); (case szl => exact Nat.le_of_ble_eq_true rfl))
  | ((with_reducible refine ⟨?szl, ?_⟩); (case szl => exact Nat.le_of_ble_eq_true rfl))
  | ((with_reducible refine' ⟨_, _, _, _, rfl, rfl, ?lk, ?ij, ?_⟩); (case lk => walk_at "lk"); (case ij => exact rfl); try dsimp only [List.set_cons_succ, List.set_cons_zero])
  | ((with_reducible refine' ⟨_, _, rfl, ?lk, ?_⟩); (case lk => walk_at "lk"))
  | ((with_reducible refine' ⟨_, .inr _, ?lk, rfl, ?_⟩); (case lk => walk_at "lk"))
  | ((with_reducible refine' ⟨_, .inl _, ?lk, rfl, ?_⟩); (case lk => walk_at "lk"))
  | ((with_reducible refine' ⟨_, _, .inr _, rfl, ?lk, rfl, ?sz, ?_⟩); (case lk => walk_at "lk"); (case sz => walk_at "sz"); try simp only [mup_mup])
  | ((with_reducible refine' ⟨_, _, .inl _, rfl, ?lk, rfl, ?sz, ?_⟩); (case lk => walk_at "lk"); (case sz => walk_at "sz"); try simp only [mup_mup])
  | ((with_reducible refine ⟨?tyc, ?_⟩); (case tyc => exact ty_cell (by walk_at "lk")))
  | walk_at "cl")
local macro_rules | `(tactic| walk_at "ds") => `(tactic| first
  | ((with_reducible show wpe _ _ _ _ _ _ _); walk_at "d_e")
  | ((with_reducible show wps _ _ _ _ _ _); walk_at "d_s")
  | ((with_reducible show wp2 _ _ _ _ _ _); walk_at "d_2")
  | ((with_reducible show wpa _ _ _ _ _ _ _); first | with_reducible refine a_cons ?_ | with_reducible refine a_nil ?_)
  | ((with_reducible show wpn _ _ _ _ _); walk_at "d_n")
  | ((with_reducible show wpt _ _ _ _ _ _ _); walk_at "d_t")
  | ((with_reducible show wpg _ _ _ _ _ _ _ _); walk_at "d_g")
  | ((with_reducible show wpgs _ _ _ _ _ _ _ _); walk_at "d_h")
  | ((with_reducible show wpgl _ _ _ _ _ _ _); walk_at "d_g")
  | ((with_reducible show wpgls _ _ _ _ _ _ _); walk_at "d_h")
  | ((with_reducible show wpm _ _ _ _ _ _); walk_at "d_m")
  | ((with_reducible show wpo _ _ _ _ _ _ _); first | with_reducible refine p_none ?_ | with_reducible refine p_some ?_)
  | ((with_reducible show wps3 _ _ _ _ _ _ _); first | ((with_reducible refine' sl_L ?kv ?q); (case kv => walk_at "kv"); (try simp only [cut_to, cut_from, cut_from2, cut_at, List.length_map]); first | assumption | refine .imm ?_) | ((with_reducible refine sl_T ?_); try simp only [cut_to, cut_from, cut_from2, cut_at, List.length_map]))
  | ((with_reducible show wp1 _ _ _ _ _); first | with_reducible refine u_neg ?_)
  | ((with_reducible show wpj _ _ _ _ _ _ _ _); first | with_reducible refine j_nil ?_ | with_reducible refine j_cons ?_)
  | walk_at "d_x"
  | dsimp only)
local macro_rules | `(tactic| walk_at "dr") => `(tactic| repeat (walk_at "ds"))

/-- a thing that is handed as a step -/
structure StI (d : D) : Prop where
  s : St2 d
  o : okd 2 d = true
  c : ∀ ds, d = .tup ds → ∀ e ∈ ds, isScal e = true
theorem fm_some {α β : Type} (g : α → β) : ∀ l : List α, (l.filterMap fun j => some (g j)) = l.map g
  | [] => rfl
  | a :: l => by rw [List.filterMap_cons, List.map_cons, fm_some g l]
theorem mem_steps {rs : List Rule} {w : Wd} (hr : rsOk rs) {k p : Nat} : (k, p) ∈ stepsL rs w ↔ ∃ v, stpN rs w k p = some v := by
  have h0 : (k, p) ∈ stepsL rs w ↔ k < rs.length ∧ p ∈ hits w (rs.getD k ([], [])).1 (w.length + 1 - (rs.getD k ([], [])).1.length) := by
    unfold stepsL stepsTo
    rw [List.mem_flatMap]
    constructor
    · rintro ⟨i, hi, h⟩
      unfold stepsAt at h
      obtain ⟨q, hq, e⟩ := List.mem_map.mp h
      cases e
      exact ⟨List.mem_range.mp hi, hq⟩
    · rintro ⟨h1, h2⟩
      exact ⟨k, List.mem_range.mpr h1, List.mem_map.mpr ⟨p, h2, rfl⟩⟩
  rw [h0]
  constructor
  · rintro ⟨h1, h2⟩
    have hk := List.getElem?_eq_getElem h1
    generalize rs[k] = u at hk
    have hg : rs.getD k ([], []) = u := by rw [List.getD_eq_getElem?_getD, hk]; rfl
    rw [hg] at h2
    unfold hits at h2
    rw [List.mem_filter, List.mem_range] at h2
    have hu := hr.all u (List.mem_of_getElem? hk)
    have hl : u.1.length ≠ 0 := fun z => hu.ne (List.length_eq_zero_iff.mp z)
    rw [stpN_some hk, if_pos ⟨of_decide_eq_true h2.2, by omega⟩]
    exact ⟨_, rfl⟩
  · rintro ⟨v, hv⟩
    cases hk : rs[k]? with
    | none =>
      rw [stpN_none hk] at hv
      cases hv
    | some u =>
      have hu := hr.all u (List.mem_of_getElem? hk)
      have hg : rs.getD k ([], []) = u := by rw [List.getD_eq_getElem?_getD, hk]; rfl
      rw [stpN_some hk] at hv
      split at hv
      · rename_i hc
        refine ⟨(List.getElem?_eq_some_iff.mp hk).1, ?_⟩
        rw [hg]
        unfold hits
        rw [List.mem_filter, List.mem_range]
        exact ⟨by omega, decide_eq_true hc.1⟩
      · cases hv
theorem stp_good {rs : List Rule} {w v : Wd} {d : D} (hr : rsOk rs) (h : stp rs w d = some v) : ∃ k p, d = eSt (k, p) ∧ (k, p) ∈ stepsL rs w := by
  unfold stp at h
  split at h
  · rename_i y z
    unfold stp2 at h
    split at h
    · rename_i r p
      split at h
      · rename_i hc
        obtain ⟨k, rfl⟩ := Int.eq_ofNat_of_zero_le hc.1
        obtain ⟨q, rfl⟩ := Int.eq_ofNat_of_zero_le hc.2
        exact ⟨k, q, rfl, (mem_steps hr).mpr ⟨v, h⟩⟩
      · cases h
    · cases h
  · cases h
theorem okd_eSt (s : Nat × Nat) : okd 1 (eSt s) = true := by simp [eSt, okd, okds]
theorem cln_eSt (s : Nat × Nat) : cln (eSt s) = true := by simp [eSt, cln, clns]
theorem okd_eSts (l : List (Nat × Nat)) : okd 2 (eSts l) = true := by
  unfold okd
  rw [okds_map fun a _ => okd_eSt a]
  rfl
theorem any_steps {d : D} (hc : cln d = true) : ∀ l : List (Nat × Nat), ((toPs (l.map eSt)).any fun z => PyData.eqv z (toP d)) = true ↔ d ∈ l.map eSt
  | [] => by simp [toPs]
  | s :: l => by
    rw [List.map_cons, toPs, List.any_cons, Bool.or_eq_true, any_steps hc l, eqv_cln (cln_eSt s) hc, List.mem_cons]
    constructor
    · rintro (h | h)
      · exact .inl h.symm
      · exact .inr h
    · rintro (h | h)
      · exact .inl h.symm
      · exact .inr h
theorem o_inSteps {K : PySem.W.Frag} {M : Mem} {Φ : DP} {d : D} (ho : okd 2 d = true) (l : List (Nat × Nat)) (q : ∀ b, (cln d = true → (b = true ↔ d ∈ l.map eSt)) → Φ (.bl b) M) : wp2 K (rInU K) d (eSts l) M Φ :=
  o_inDt (pv_d M ho) (pv_d M (okd_eSts l)) (shaped_d ho (by decide)) (shaped_d (okd_eSts l) (by decide)) rfl (q _ fun hc => any_steps hc l)
theorem sd_strs {w : Wd} (h : w.length ≤ 1000000) : Sd 5 (eW w) := .lst (by rw [List.length_map]; exact h) fun d hd => by
  obtain ⟨s, _, rfl⟩ := List.mem_map.mp hd
  exact .str s
def isBl : D → Bool
  | .bl _ => true
  | _ => false
theorem isB {K : PySem.W.Frag} {M : Mem} {Φ : DP} {y : D} (h : isScal y = true) (q : Φ (.bl (isBl y)) M) : wpn K (rIsi K) [y, .ty "bool"] M Φ := by
  cases y with
  | non => exact c_isi .non kt_NoneType_bool q
  | bl b => exact c_isi (.bl b) kt_bool_bool q
  | int i => exact c_isi (.int i) kt_int_bool q
  | str x => exact c_isi (.str x) kt_str_bool q
  | _ => cases h
theorem cln_scal {y : D} (h : isScal y = true) (e : isBl y = false) : cln y = true := by
  cases y with
  | non => rfl
  | bl b => cases e
  | int i => rfl
  | str x => rfl
  | _ => cases h
theorem two_ok (i j : Int) : StI (.tup [.int i, .int j]) := ⟨.tup (by simp) fun e he => by
  simp only [List.mem_cons, List.not_mem_nil, or_false] at he
  rcases he with rfl | rfl <;> exact .int _, by simp [okd, okds], fun es e => by
  rw [← D.tup.inj e]
  simp [isScal]⟩
theorem first_ok (a b : Nat) : ∀ d ∈ ([.non, .tup [], .tup [.int 0], .str "00", .tup [.bl true, .int 0], .tup [.int 0, .bl false], .tup [.int (-1), .int 0], .tup [.int 0, .int (-1)], .tup [.int a, .int 0], .tup [.int 0, .int b], .tup [.int 0, .int 0, .int 0], .tup [.non, .int 0], .tup [.str "0", .int 0]] : List D), StI d := by
  intro d hd
  simp only [List.mem_cons, List.not_mem_nil, or_false] at hd
  have pl : ∀ e : D, isScal e = true → Pl e := fun e he => by
    cases e with
    | non => exact .non
    | bl b => exact .bl b
    | int i => exact .int i
    | str x => exact .str x
    | _ => cases he
  have tp : ∀ ds : List D, ds.length ≤ 1000 → (∀ e ∈ ds, isScal e = true) → okd 2 (.tup ds) = true → StI (.tup ds) := fun ds h1 h2 h3 => ⟨.tup h1 fun e he => pl e (h2 e he), h3, fun es e => by rw [← D.tup.inj e]; exact h2⟩
  rcases hd with rfl | rfl | rfl | rfl | rfl | rfl | rfl | rfl | rfl | rfl | rfl | rfl | rfl
  case inl => exact ⟨.no .non (fun _ z => nomatch z), by simp [okd], fun _ z => nomatch z⟩
  case inr.inr.inr.inl => exact ⟨.no (.str _) (fun _ z => nomatch z), by simp only [okd]; decide +kernel, fun _ z => nomatch z⟩
  case inr.inr.inr.inr.inr.inr.inr.inr.inr.inr.inr.inr => exact tp _ (by simp) (by simp [isScal]) (by simp only [okd, okds]; decide +kernel)
  all_goals exact tp _ (by simp) (by simp [isScal]) (by simp [okd, okds])
def R__law_impossible (ad : Adr) : RD := fun ds M Φ _ => ∃ (rs : List Rule) (w : Wd) (x y : D), ds = [eRs rs, eW w, x, y] ∧ rsOk rs ∧ wOk w ∧ w.length ≤ 500 ∧ Φ (.bl true) M
/-! _law_impossible: 0=rules 1=word 2=pool 3=at 4=found 5=k 6=place 7=due 8=step 9=given -/
abbrev s__law_impossible : Stmt := topS 21
theorem sc__law_impossible : FnScope ["rules", "word", "pool", "at", "found", "k", "place", "due", "step", "given"] ["rules", "word", "pool", "at"] (defScope s__law_impossible) := ⟨rfl, rfl, rfl, by decide +kernel, rfl, by decide +kernel, by decide +kernel⟩
theorem ok__law_impossible {P : Program} {w : World} {K : PySem.W.Frag} {mg : Str → Option Value} {base : Heap}  {a : Adr} (F : FunAt K mg "_law_impossible" "_law_impossible" s__law_impossible ["rules", "word", "pool", "at"]) (T : Glb mg) (C__law_steps : Cal0 P w K mg base (1) "_law_steps" ["rules", "word"] R__law_steps) (C__law_same : Cal0 P w K mg base (5) "_law_same" ["told", "due"] (R__law_same 5)) (C__law_stepped : Cal0 P w K mg base (1) "_law_stepped" ["rules", "word", "step"] R__law_stepped) (C_stepped : CalX P w K mg base (4) "stepped" ["rules", "word", "step"] (R_stepped a)) : Cal0 P w K mg base (6) "_law_impossible" ["rules", "word", "pool", "at"] (R__law_impossible a) := by
  refine cal0 F sc__law_impossible (fun ds M Φ Ψ h => ?_) (fun f cdv A outer s H E hr => ⟨_, (pss_cons (ps_asg (pe_lst (pa_cons pe_non (pa_cons (pe_tup pa_nil) (pa_cons (pe_tup (pa_cons pe_int pa_nil)) (pa_cons pe_str (pa_cons (pe_tup (pa_cons pe_bl (pa_cons pe_int pa_nil))) (pa_cons (pe_tup (pa_cons pe_int (pa_cons pe_bl pa_nil))) (pa_cons (pe_tup (pa_cons (pe_un un_neg pe_int) (pa_cons pe_int pa_nil))) (pa_cons (pe_tup (pa_cons pe_int (pa_cons (pe_un un_neg pe_int) pa_nil))) (pa_cons (pe_tup (pa_cons (pe_callB call_lenU (by rfl) T.m_len (by decide +kernel) (pa_cons (pv 0) pa_nil)) (pa_cons pe_int pa_nil))) (pa_cons (pe_tup (pa_cons pe_int (pa_cons (pe_callB call_lenU (by rfl) T.m_len (by decide +kernel) (pa_cons (pv 1) pa_nil)) pa_nil))) (pa_cons (pe_tup (pa_cons pe_int (pa_cons pe_int (pa_cons pe_int pa_nil)))) (pa_cons (pe_tup (pa_cons pe_non (pa_cons pe_int pa_nil))) (pa_cons (pe_tup (pa_cons pe_str (pa_cons pe_int pa_nil))) pa_nil)))))))))))))) (pg_name (i := 4) sc__law_impossible.nd rfl (by first | exact Or.inl rfl | exact Or.inr rfl)))
      (pss_cons (ps_for PassesOwn.never rfl (pi_range1 (by rfl) T.m_range (pa_cons (pe_callB call_lenU (by rfl) T.m_len (by decide +kernel) (pa_cons (pv 0) pa_nil)) pa_nil)) (pg_name (i := 5) sc__law_impossible.nd rfl (by first | exact Or.inl rfl | exact Or.inr rfl))
      (pss_one (ps_asg (pe_op op_addU (pe_op op_addU (pv 4) (pe_lc (own := [("place", 6)]) (by rfl) sc__law_impossible.nd (pi_range1 (by rfl) T.m_range (pa_cons (pe_op op_addU (pe_callB call_lenU (by rfl) T.m_len (by decide +kernel) (pa_cons (pv 1) pa_nil)) pe_int) pa_nil)) (blkOk_by (own := [("place", 6)]) (N := ["rules", "word", "pool", "at", "found", "k", "place", "due", "step", "given"]) (sc := defScope s__law_impossible) (by decide +kernel)) (fun _ _ _ _ _ => (pg_name (i := 6) sc__law_impossible.nd rfl (by first | exact Or.inl rfl | exact Or.inr rfl))) (fun _ _ _ _ _ => pts_nil) (fun _ _ _ _ _ => (pe_cast (pe_tup (pa_cons (pv 5) (pa_cons (pv 6) pa_nil))) (by (try dsimp only [cx_nox, cx_k, cx_blk, cx_nox2, cx_tr, cx_suite]); try rfl))))) (pe_lst (pa_cons (pe_tup (pa_cons (pv 5) (pa_cons (pe_un un_neg (pe_callB call_lenU (by rfl) T.m_len (by decide +kernel) (pa_cons (pe_ix ix_seq (pe_ix ix_seq (pv 0) (pv 5) (fun _ _ => rfl)) pe_int (fun _ _ => rfl)) pa_nil))) pa_nil))) (pa_cons (pe_lst (pa_cons (pv 5) (pa_cons pe_int pa_nil))) pa_nil)))) (pg_name (i := 4) sc__law_impossible.nd rfl (by first | exact Or.inl rfl | exact Or.inr rfl)))))
      (pss_cons (ps_asg (pe_cal (W := WF) C__law_steps (hr.mono (by first | decide | omega)) (by rfl) (pa_cons (pv 0) (pa_cons (pv 1) pa_nil))) (pg_name (i := 7) sc__law_impossible.nd rfl (by first | exact Or.inl rfl | exact Or.inr rfl)))
      (pss_cons (ps_for PassesOwn.never rfl (pi_seq (pv 4)) (pg_name (i := 8) sc__law_impossible.nd rfl (by first | exact Or.inl rfl | exact Or.inr rfl))
      (pss_cons (ps_asg (pe_callTy call_list_of (by rfl) T.m_list (by decide +kernel) (pa_cons (pv 1) pa_nil)) (pg_name (i := 9) sc__law_impossible.nd rfl (by first | exact Or.inl rfl | exact Or.inr rfl)))
      (pss_cons (ps_if (PW.pt (pw_and (pt_truth (pe_callB call_isi (by rfl) T.m_isinstance (by decide +kernel) (pa_cons (pv 8) (pa_cons (pe_bltn (v := .ty "tuple") (by rfl) T.m_tuple (by decide +kernel) rfl) pa_nil))) (by intro _; rfl)) (pw_and (pt_cmpR (op_eqU hr.units) (pe_callB call_lenU (by rfl) T.m_len (by decide +kernel) (pa_cons (pv 8) pa_nil)) pe_int (nomark _)) (pw_and (pt_cmpR (op_inU (Room.units65 hr)) (pv 8) (pv 7) (by rfl)) (pw_and (pt_not (pt_truth (pe_callB call_isi (by rfl) T.m_isinstance (by decide +kernel) (pa_cons (pe_ix ix_seq (pv 8) pe_int (fun _ _ => rfl)) (pa_cons (pe_bltn (v := .ty "bool") (by rfl) T.m_bool (by decide +kernel) rfl) pa_nil))) (by intro _; rfl))) (pw_and1 (pt_not (pt_truth (pe_callB call_isi (by rfl) T.m_isinstance (by decide +kernel) (pa_cons (pe_ix ix_seq (pv 8) pe_int (fun _ _ => rfl)) (pa_cons (pe_bltn (v := .ty "bool") (by rfl) T.m_bool (by decide +kernel) rfl) pa_nil))) (by intro _; rfl))))))))) (pss_one (ps_if (pt_not (pt_truth (pe_cal (W := WF) C__law_same (hr.mono (by first | decide | omega)) (by rfl) (pa_cons (pe_calX (W := WF) C_stepped takes0 (hr.mono (by first | decide | omega)) (by rfl) (pa_cons (pe_callTy call_list_of (by rfl) T.m_list (by decide +kernel) (pa_cons (pv 0) pa_nil)) (pa_cons (pv 9) (pa_cons (pv 8) pa_nil)))) (pa_cons (pe_cal (W := WF) C__law_stepped (hr.mono (by first | decide | omega)) (by rfl) (pa_cons (pv 0) (pa_cons (pv 1) (pa_cons (pv 8) pa_nil)))) pa_nil))) (by intro _; rfl))) (pss_one (ps_ret pe_bl)) pss_nil)) (pss_one (ps_if (pt_cmpR op_notN (pe_calX (W := WF) C_stepped takes0 (hr.mono (by first | decide | omega)) (by rfl) (pa_cons (pe_callTy call_list_of (by rfl) T.m_list (by decide +kernel) (pa_cons (pv 0) pa_nil)) (pa_cons (pv 9) (pa_cons (pv 8) pa_nil)))) pe_non (nomark _)) (pss_one (ps_ret pe_bl)) pss_nil)))
      (pss_one (ps_if (pt_cmpR (op_neU hr.units) (pv 9) (pv 1) (nomark _)) (pss_one (ps_ret pe_bl)) pss_nil)))))
      (pss_one (ps_ret pe_bl)))))), fun ds M Φ Ψ h => ?_⟩)
  · obtain ⟨rs, w, P, a, rfl, _⟩ := h
    rfl
  · obtain ⟨rs, w, x, y, rfl, hr, hw, lw, q⟩ := h
    dsimp only [cx_nox, cx_k, cx_blk, cx_nox2, cx_tr, cx_suite]
    change wps K _ _ [some _, some _, some _, some _, none, none, none, none, none, none] _ _
    walk_at "dr"
    refine s_for (i_rng1 ?_)
    walk_at "dr"
    have hrl := hr.len
    refine ⟨⟨by omega, by simp only [List.length_map]; omega⟩, fun i ρ' M' => ∃ u v ds, ρ' = [some (eRs rs), some (eW w), some x, some y, some (.lst ds), u, v, none, none, none] ∧ M' = M ∧ (∀ d ∈ ds, StI d) ∧ ds.length ≤ 13 + i * 600, ⟨_, _, _, rfl, rfl, first_ok _ _, by simp⟩, fun _ _ _ _ _ => trivial, ?_, ?_⟩
    · rintro i ρ' M' hi ⟨u, v, ds, rfl, rfl, hds, hdl⟩
      rw [List.length_map, Int.toNat_natCast] at hi
      have hk := List.getElem?_eq_getElem hi
      generalize rs[i] = r at hk
      walk_at "dr"
      refine e_lcP (f := fun j => some (.tup [.int i, .int j])) (i_rng1 ?_)
      walk_at "dr"
      have hn : ((w.map D.str).length + 1 : Int).toNat = w.length + 1 := by simp only [List.length_map]; omega
      rw [hn]
      refine ⟨⟨by omega, by simp only [List.length_map]; omega⟩, fun _ _ => trivial, by omega, fun j N hj hs => ?_, .imm ?_⟩
      · walk_at "dr"
        exact ⟨DA.Sub.refl _, rfl⟩
      · rw [fm_some]
        have hi6 : i * 600 ≤ 3600 := by omega
        have hsz1 : (ds ++ (List.range (w.length + 1)).map fun j : Nat => D.tup [.int i, .int j]).length ≤ 16777216 := by
          rw [List.length_append, List.length_map, List.length_range]
          omega
        have hsz2 : (ds ++ (List.range (w.length + 1)).map (fun j : Nat => D.tup [.int i, .int j]) ++ [D.tup [.int i, .int (-((r.1.map D.str).length : Int))], D.lst [.int i, .int 0]]).length ≤ 16777216 := by
          rw [List.length_append, List.length_append, List.length_map, List.length_range]
          simp only [List.length_cons, List.length_nil]
          omega
        walk_at "dr"
        refine ⟨_, _, _, rfl, rfl, fun d h => ?_, ?_⟩
        · rcases List.mem_append.mp h with h | h
          · rcases List.mem_append.mp h with h | h
            · exact hds d h
            · obtain ⟨j, _, rfl⟩ := List.mem_map.mp h
              exact two_ok i j
          · simp only [List.mem_cons, List.not_mem_nil, or_false] at h
            rcases h with rfl | rfl
            · exact two_ok i _
            · exact ⟨.no (.lst _) (fun _ z => nomatch z), by simp [okd, okds], fun _ z => nomatch z⟩
        · rw [List.length_append, List.length_append, List.length_map, List.length_range]
          simp only [List.length_cons, List.length_nil]
          omega
    · rintro ρ' M' ⟨u, v, ds, rfl, rfl, hds, hdl⟩
      rw [List.length_map, Int.toNat_natCast] at hdl
      walk_at "dr"
      refine ⟨rs, w, rfl, hr, hw, by omega, .imm ?_⟩
      walk_at "dr"
      refine s_for (i_seq (e_var rfl ⟨ds, .inl rfl, fun i ρ2 M2 => ∃ s t, ρ2 = [some (eRs rs), some (eW w), some x, some y, some (.lst ds), u, v, some (eSts (stepsL rs w)), s, t] ∧ M2 = M', ⟨_, _, rfl, rfl⟩, fun _ _ _ _ _ => trivial, ?_, ?_⟩))
      · rintro i ρ' M' hi ⟨s, t, rfl, rfl⟩
        have hd := hds _ (nth_mem hi)
        generalize nth ds i = d at hd
        walk_at "dr"
        have els : stp rs w d = none → True := fun _ => trivial
        by_cases hg : ∃ k p, d = eSt (k, p) ∧ (k, p) ∈ stepsL rs w
        · obtain ⟨k, p, rfl, hmem⟩ := hg
          obtain ⟨v1, hv1⟩ := (mem_steps hr).mp hmem
          walk_at "dr"
          refine two_yes rfl ?_
          walk_at "dr"
          refine o_inSteps hd.o _ fun b hb => ?_
          have hb1 : b = true := (hb (cln_eSt _)).mpr (List.mem_map.mpr ⟨_, hmem, rfl⟩)
          subst hb1
          walk_at "dr"
          have hst : stp rs w (eSt (k, p)) = some v1 := by rw [eSt, stp_nat]; exact hv1
          have hv2 := (stp_ok hr hw hst).2
          have hv3 : ∃ u, rs[k]? = some u ∧ v1 = w.take p ++ u.2 ++ w.drop (p + u.1.length) := by
            cases hk : rs[k]? with
            | none =>
              rw [stpN_none hk] at hv1
              cases hv1
            | some u =>
              rw [stpN_some hk] at hv1
              split at hv1
              · cases hv1
                exact ⟨u, rfl, rfl⟩
              · cases hv1
          obtain ⟨u1, hk, he⟩ := hv3
          refine ⟨rs, eW w, _, rfl, hr, .lst _, pls_eW w, hd.s, len_eW (by omega), fun j hj => ?_, fun _ => ⟨w, rfl, hw, by omega, fun h => ?_, fun v hv => ?_⟩⟩
          · rw [chk_eW hw] at hj
            cases hj
          · rw [hst] at h
            cases h
          · rw [hst] at hv
            cases hv
            refine .imm ?_
            walk_at "dr"
            refine ⟨rs, w, k, p, u1, rfl, hk, by omega, (hr.all u1 (List.mem_of_getElem? hk)).l2, .imm ?_⟩
            rw [← he]
            walk_at "dr"
            refine ⟨_, rfl, sd_strs (by omega), ?_⟩
            walk_at "dr"
            refine o_neSame (.same _) (.same _) (okd_eW hw) (by decide) ?_
            walk_at "dr"
            try exact ⟨_, _, rfl, rfl⟩
        · have hno : stp rs w d = none := by
            cases e : stp rs w d with
            | none => rfl
            | some v => exact absurd (stp_good hr e) hg
          cases hd.s with
          | no h nt =>
            cases h
            case tup ds => exact absurd rfl (nt ds)
            all_goals walk_at "dr"
            all_goals
              refine ⟨rs, eW w, _, rfl, hr, .lst _, pls_eW w, hd.s, len_eW (by omega), fun j hj => ?_, fun _ => ⟨w, rfl, hw, by omega, fun _ => ?_, fun v hv => ?_⟩⟩
              · rw [chk_eW hw] at hj
                cases hj
              · walk_at "dr"
                refine o_neSame (.same _) (.same _) (okd_eW hw) (by decide) ?_
                walk_at "dr"
                try exact ⟨_, _, rfl, rfl⟩
              · rw [hno] at hv
                cases hv
          | @tup es hl hp =>
            have hc := hd.c es rfl
            match es, hl, hp, hc, hd, hg, hno with
            | [], _, _, _, hd, _, hno =>
              walk_at "dr"
              refine two_no rfl ?_
              walk_at "dr"
              refine ⟨rs, eW w, _, rfl, hr, .lst _, pls_eW w, hd.s, len_eW (by omega), fun j hj => ?_, fun _ => ⟨w, rfl, hw, by omega, fun _ => ?_, fun v hv => ?_⟩⟩
              · rw [chk_eW hw] at hj
                cases hj
              · walk_at "dr"
                refine o_neSame (.same _) (.same _) (okd_eW hw) (by decide) ?_
                walk_at "dr"
                try exact ⟨_, _, rfl, rfl⟩
              · rw [hno] at hv
                cases hv
            | [_], _, _, _, hd, _, hno =>
              walk_at "dr"
              refine two_no rfl ?_
              walk_at "dr"
              refine ⟨rs, eW w, _, rfl, hr, .lst _, pls_eW w, hd.s, len_eW (by omega), fun j hj => ?_, fun _ => ⟨w, rfl, hw, by omega, fun _ => ?_, fun v hv => ?_⟩⟩
              · rw [chk_eW hw] at hj
                cases hj
              · walk_at "dr"
                refine o_neSame (.same _) (.same _) (okd_eW hw) (by decide) ?_
                walk_at "dr"
                try exact ⟨_, _, rfl, rfl⟩
              · rw [hno] at hv
                cases hv
            | _ :: _ :: _ :: r, _, _, _, hd, _, hno =>
              walk_at "dr"
              refine two_no (by simp only [List.length_cons, decide_eq_false_iff_not]; omega) ?_
              walk_at "dr"
              refine ⟨rs, eW w, _, rfl, hr, .lst _, pls_eW w, hd.s, len_eW (by omega), fun j hj => ?_, fun _ => ⟨w, rfl, hw, by omega, fun _ => ?_, fun v hv => ?_⟩⟩
              · rw [chk_eW hw] at hj
                cases hj
              · walk_at "dr"
                refine o_neSame (.same _) (.same _) (okd_eW hw) (by decide) ?_
                walk_at "dr"
                try exact ⟨_, _, rfl, rfl⟩
              · rw [hno] at hv
                cases hv
            | [y, z], _, _, hc, hd, hg, hno =>
              have hy := hc y (by simp)
              have hz := hc z (by simp)
              walk_at "dr"
              refine two_yes rfl ?_
              walk_at "dr"
              refine o_inSteps hd.o _ fun b hb => ?_
              cases b with
              | false =>
                walk_at "dr"
                refine ⟨rs, eW w, _, rfl, hr, .lst _, pls_eW w, hd.s, len_eW (by omega), fun j hj => ?_, fun _ => ⟨w, rfl, hw, by omega, fun _ => ?_, fun v hv => ?_⟩⟩
                · rw [chk_eW hw] at hj
                  cases hj
                · walk_at "dr"
                  refine o_neSame (.same _) (.same _) (okd_eW hw) (by decide) ?_
                  walk_at "dr"
                  try exact ⟨_, _, rfl, rfl⟩
                · rw [hno] at hv
                  cases hv
              | true =>
                walk_at "dr"
                refine isB hy ?_
                cases e : isBl y with
                | true =>
                  walk_at "dr"
                  refine ⟨rs, eW w, _, rfl, hr, .lst _, pls_eW w, hd.s, len_eW (by omega), fun j hj => ?_, fun _ => ⟨w, rfl, hw, by omega, fun _ => ?_, fun v hv => ?_⟩⟩
                  · rw [chk_eW hw] at hj
                    cases hj
                  · walk_at "dr"
                    refine o_neSame (.same _) (.same _) (okd_eW hw) (by decide) ?_
                    walk_at "dr"
                    try exact ⟨_, _, rfl, rfl⟩
                  · rw [hno] at hv
                    cases hv
                | false =>
                  walk_at "dr"
                  refine isB hz ?_
                  cases e2 : isBl z with
                  | true =>
                    walk_at "dr"
                    refine ⟨rs, eW w, _, rfl, hr, .lst _, pls_eW w, hd.s, len_eW (by omega), fun j hj => ?_, fun _ => ⟨w, rfl, hw, by omega, fun _ => ?_, fun v hv => ?_⟩⟩
                    · rw [chk_eW hw] at hj
                      cases hj
                    · walk_at "dr"
                      refine o_neSame (.same _) (.same _) (okd_eW hw) (by decide) ?_
                      walk_at "dr"
                      try exact ⟨_, _, rfl, rfl⟩
                    · rw [hno] at hv
                      cases hv
                  | false =>
                    exfalso
                    have hcl : cln (.tup [y, z]) = true := by
                      unfold cln clns clns clns
                      rw [cln_scal hy e, cln_scal hz e2]
                      rfl
                    obtain ⟨s, h1, h2⟩ := List.mem_map.mp ((hb hcl).mp rfl)
                    exact hg ⟨s.1, s.2, h2.symm, h1⟩
      · rintro ρ' M' ⟨s, t, rfl, rfl⟩
        walk_at "dr"
        exact q
end P6


section P7

local macro_rules | `(tactic| walk_at "cl") => `(tactic| ((refine l_next (by assumption) (by walk_at "lk") (by assumption) ?_); intro _ _ _ _; try simp only [mup_mup]))
theorem s_mid {K : PySem.W.Frag} {W : WX} {ρ : List (Option D)} {M : Mem} {E : DE} {ts : TS} (I : EP') (h1 : wps K W ts ρ M { E with nx := I }) (h2 : ∀ ρ' M', I ρ' M' → E.nx ρ' M') : wps K W ts ρ M E :=
  wps.imp h1 h2 (fun _ _ h => h) (fun _ _ h => h) (fun _ _ h => h) (fun _ _ _ _ _ h => h)
theorem mup4 {M : Mem} {a b c : Addr} {x y z u : MO} (h1 : a ≠ b) (h2 : a ≠ c) : mup (mup (mup (mup M a x) b y) c z) a u = mup (mup (mup M a u) b y) c z := by
  rw [mup_comm (Ne.symm h2), mup3 h1]
theorem Cells.view {M M' : Mem} {p : Addr} {cs : List Addr} {vs : List Wd} (h : Cells M M' p cs vs) : Vw M' (.ref p) (.lst (vs.map eW)) := by
  refine .cell h.lst ?_
  have key : ∀ (cs : List Addr) (vs : List Wd), cs.length = vs.length → (∀ (i : Nat) (c : Addr) (v : Wd), cs[i]? = some c → vs[i]? = some v → M' c = some (.lst (v.map .str))) → Vws M' (cs.map D.ref) (vs.map eW) := by
    intro cs
    induction cs with
    | nil =>
      intro vs hl _
      cases vs with
      | nil => exact .nil
      | cons v vs => simp at hl
    | cons c cs ih =>
      intro vs hl he
      cases vs with
      | nil => simp at hl
      | cons v vs => exact .cons (.cell (he 0 c v rfl rfl) (Vws.refl _)) (ih vs (by simpa using hl) fun i c v h1 h2 => he (i + 1) c v (by simpa using h1) (by simpa using h2))
  exact key cs vs h.len h.each
theorem Cells.first {M M' : Mem} {p : Addr} {cs : List Addr} {vs : List Wd} (h : Cells M M' p cs vs) (hl : 0 < vs.length) : ∃ c v, L2.atI (cs.map D.ref) 0 = some (.ref c) ∧ c ∈ cs ∧ v ∈ vs ∧ M' c = some (.lst (v.map .str)) := by
  have h1 : 0 < cs.length := by rw [h.len]; exact hl
  refine ⟨cs[0], vs[0], atI_map (k := 0) (List.getElem?_eq_getElem h1), List.getElem_mem _, List.getElem_mem _, h.each 0 _ _ (List.getElem?_eq_getElem h1) (List.getElem?_eq_getElem hl)⟩
theorem Cells.lastM {M M' : Mem} {p : Addr} {cs : List Addr} {vs : List Wd} {i : Nat} {v : Wd} (h : Cells M M' p cs vs) (hl : vs.length = i + 1) (hv : vs[i]? = some v) : ∃ c, L2.atI (cs.map D.ref) (-1) = some (.ref c) ∧ M' c = some (.lst (v.map .str)) ∧ c ∈ cs := by
  have hi : i < cs.length := by rw [h.len]; omega
  refine ⟨cs[i], ?_, h.each i _ v (List.getElem?_eq_getElem hi) hv, List.getElem_mem _⟩
  unfold L2.atI L2.ixN
  have h1 : (cs.map D.ref).length = i + 1 := by rw [List.length_map, h.len, hl]
  rw [h1, if_neg (by decide), if_pos (by omega), show (-1 + ((i + 1 : Nat) : Int)).toNat = i by omega, Option.bind_some, List.getElem?_map, List.getElem?_eq_getElem hi]
  rfl
theorem sdW {n : Nat} {w : Wd} (h : w.length ≤ 1000000) : Sd (n + 2) (eW w) := .lst (by rw [List.length_map]; exact h) fun d hd => by
  obtain ⟨s, _, rfl⟩ := List.mem_map.mp hd
  exact .str s
theorem odd_no {rs : List Rule} (hr : rsOk rs) (v : Wd) : ∀ d ∈ ([.tup [.int ((rs.map eR).length : Int), .int 0], .tup [.int 0, .int ((v.map D.str).length : Int)], .non, .tup [.int 0, .int (-1)], .tup [.int (-1), .int 0], .lst [.int 0, .int 0]] : List D), St2 d ∧ stp rs v d = none := by
  intro d hd
  simp only [List.mem_cons, List.not_mem_nil, or_false] at hd
  have two : ∀ i j : Int, St2 (.tup [.int i, .int j]) := fun i j => .tup (by simp) fun e he => by
    simp only [List.mem_cons, List.not_mem_nil, or_false] at he
    rcases he with rfl | rfl <;> exact .int _
  rcases hd with rfl | rfl | rfl | rfl | rfl | rfl
  · exact ⟨two _ _, (stp_nat rs v _ 0).trans (stpN_none (List.getElem?_eq_none (by rw [List.length_map]; exact Nat.le_refl _)))⟩
  · refine ⟨two _ _, (stp_nat rs v 0 _).trans ?_⟩
    cases hk : rs[0]? with
    | none => exact stpN_none hk
    | some u =>
      have hu := hr.all u (List.mem_of_getElem? hk)
      rw [stpN_some hk, if_neg]
      rintro ⟨h1, h2⟩
      rw [List.length_map] at h2
      have : u.1.length ≠ 0 := fun z => hu.ne (List.length_eq_zero_iff.mp z)
      omega
  · exact ⟨.no .non (fun _ z => nomatch z), rfl⟩
  · exact ⟨two _ _, stp_no2 rfl⟩
  · exact ⟨two _ _, stp_no1 rfl⟩
  · exact ⟨.no (.lst _) (fun _ z => nomatch z), rfl⟩
theorem atI_last {α : Type} (f : α → D) (l : List α) (i : Nat) (x : α) (hl : l.length = i + 1) (h : l[i]? = some x) : L2.atI (l.map f) (-1) = some (f x) := by
  unfold L2.atI L2.ixN
  rw [List.length_map, hl, if_neg (by decide), if_pos (by omega), show (-1 + ((i + 1 : Nat) : Int)).toNat = i by omega, Option.bind_some, List.getElem?_map, h]
  rfl
theorem atI_end (l : List D) (x : D) : L2.atI (l ++ [x]) (-1) = some x := by
  unfold L2.atI L2.ixN
  rw [List.length_append, List.length_cons, List.length_nil, if_neg (by decide), if_pos (by omega), show (-1 + ((l.length + (0 + 1) : Nat) : Int)).toNat = l.length by omega, Option.bind_some, List.getElem?_append_right (Nat.le_refl _), Nat.sub_self]
  rfl
theorem dw_pre {rs : List Rule} {w : Wd} {a b : List D} : ∀ k, k ≤ a.length → dw rs w (a ++ b) k = dw rs w a k
  | 0, _ => rfl
  | k + 1, h => by
    show (dw rs w (a ++ b) k).bind _ = (dw rs w a k).bind _
    rw [dw_pre k (by omega), List.getElem?_append_left (by omega)]
/-- the row so far -/
structure Row (rs : List Rule) (w : Wd) (vs : List Wd) (ss : List (Nat × Nat)) : Prop where
  len : vs.length = ss.length + 1
  all : ∀ k, k ≤ ss.length → dw rs w (ss.map eSt) k = vs[k]?
theorem Row.last {rs : List Rule} {w : Wd} {vs : List Wd} {ss : List (Nat × Nat)} (h : Row rs w vs ss) : ∃ v, vs[ss.length]? = some v ∧ dw rs w (ss.map eSt) ss.length = some v := by
  have h1 : ss.length < vs.length := by rw [h.len]; omega
  exact ⟨vs[ss.length], List.getElem?_eq_getElem h1, by rw [h.all _ (Nat.le_refl _)]; exact List.getElem?_eq_getElem h1⟩
theorem Row.more {rs : List Rule} {w v u : Wd} {vs : List Wd} {ss : List (Nat × Nat)} {s : Nat × Nat} (h : Row rs w vs ss) (hv : vs[ss.length]? = some v) (hs : stp rs v (eSt s) = some u) : Row rs w (vs ++ [u]) (ss ++ [s]) := by
  refine ⟨by rw [List.length_append, List.length_append, h.len]; rfl, fun k hk => ?_⟩
  rw [List.length_append, List.length_cons, List.length_nil] at hk
  by_cases e : k ≤ ss.length
  · rw [List.map_append, dw_pre k (by rw [List.length_map]; exact e), h.all k e, List.getElem?_append_left (by rw [h.len]; omega)]
  · obtain rfl : k = ss.length + 1 := by omega
    rw [List.getElem?_append_right (by rw [h.len]; omega), h.len, Nat.sub_self]
    show (dw rs w ((ss ++ [s]).map eSt) ss.length).bind _ = some u
    rw [List.map_append, dw_pre _ (by rw [List.length_map]; omega), h.all _ (Nat.le_refl _), hv, Option.bind_some, List.getElem?_append_right (by rw [List.length_map]; omega), List.length_map, Nat.sub_self]
    exact hs
theorem Row.ok {rs : List Rule} {w v : Wd} {vs : List Wd} {ss : List (Nat × Nat)} (h : Row rs w vs ss) (hr : rsOk rs) (hw : wOk w) {k : Nat} (hk : vs[k]? = some v) : wOk v ∧ v.length ≤ w.length + 3 * k := by
  have h1 := (List.getElem?_eq_some_iff.mp hk).1
  exact dw_ok hr hw k v (by rw [h.all k (by have := h.len; omega)]; exact hk)
theorem Row.step {rs : List Rule} {w v : Wd} {vs : List Wd} {ss : List (Nat × Nat)} {d : D} (h : Row rs w vs ss) {k : Nat} (h1 : dw rs w (ss.map eSt) k = some v) (h2 : (ss.map eSt)[k]? = some d) (h3 : stp rs v d = none) : False := by
  have hk : k < (ss.map eSt).length := (List.getElem?_eq_some_iff.mp h2).1
  rw [List.length_map] at hk
  have h4 := h.all (k + 1) (by omega)
  rw [dw_stop h1 h2 h3 (Nat.lt_succ_self k), List.getElem?_eq_getElem (by rw [h.len]; omega)] at h4
  cases h4
theorem Row.uniq {rs : List Rule} {w : Wd} {vs us : List Wd} {ss : List (Nat × Nat)} (h : Row rs w vs ss) (hl : us.length = ss.length + 1) (hd : ∀ k, k ≤ ss.length → dw rs w (ss.map eSt) k = us[k]?) : us = vs := by
  apply List.ext_getElem?
  intro k
  by_cases e : k ≤ ss.length
  · rw [← hd k e, h.all k e]
  · rw [List.getElem?_eq_none (by omega), List.getElem?_eq_none (by rw [h.len]; omega)]
local macro_rules | `(tactic| walk_at "ec") => `(tactic| with_reducible refine e_callN (R := R__law_same 5) ?_)
def R__law_row (ad : Adr) : RD := fun ds M Φ _ => ∃ (rs : List Rule) (w : Wd) (P : List Int) (a : Addr) (n : Int), ds = [eRs rs, eW w, eI P, .ref a] ∧ rsOk rs ∧ wOk w ∧ w.length ≤ 200 ∧ PoolOk P ∧ M a = some (.lst [.int n]) ∧ 0 ≤ n ∧ ∀ M', Φ (.bl true) M'
/-! _law_row: 0=rules 1=word 2=pool 3=at 4=words 5=steps 6=k 7=due 8=given 9=handed 10=told 11=place 12=wide 13=odd -/
abbrev s__law_row : Stmt := topS 22
theorem sc__law_row : FnScope ["rules", "word", "pool", "at", "words", "steps", "k", "due", "given", "handed", "told", "place", "wide", "odd"] ["rules", "word", "pool", "at"] (defScope s__law_row) := ⟨rfl, rfl, rfl, by decide +kernel, rfl, by decide +kernel, by decide +kernel⟩
theorem ok__law_row {P : Program} {w : World} {K : PySem.W.Frag} {mg : Str → Option Value} {base : Heap}  {a : Adr} (F : FunAt K mg "_law_row" "_law_row" s__law_row ["rules", "word", "pool", "at"]) (T : Glb mg) (C__law_next : Cal0 P w K mg base (1) "_law_next" ["pool", "at"] R__law_next) (C__law_steps : Cal0 P w K mg base (1) "_law_steps" ["rules", "word"] R__law_steps) (C__law_stepped : Cal0 P w K mg base (1) "_law_stepped" ["rules", "word", "step"] R__law_stepped) (C_derived : CalX P w K mg base (5) "derived" ["rules", "word", "steps"] (R_derived a)) (C__law_same : Cal0 P w K mg base (5) "_law_same" ["told", "due"] (R__law_same 5)) (C__law_fails : Cal0 P w K mg base (6) "_law_fails" ["word", "rules", "given", "steps"] (R__law_fails a)) : Cal0 P w K mg base (7) "_law_row" ["rules", "word", "pool", "at"] (R__law_row a) := by
  refine cal0 F sc__law_row (fun ds M Φ Ψ h => ?_) (fun f cdv A outer s H E hr => ⟨_, (pss_cons (ps_par (i := 4) (j := 5) (by rfl) sc__law_row.nd rfl rfl (by decide) rfl rfl (pa_cons (pe_lstC (pa_cons (pe_callTy call_list_of (by rfl) T.m_list (by decide +kernel) (pa_cons (pv 1) pa_nil)) pa_nil)) (pa_cons (pe_lstC pa_nil) pa_nil)) (by rfl))
      (pss_cons (ps_for PassesOwn.never rfl (pi_range1 (by rfl) T.m_range (pa_cons (pe_op op_modN (pe_cal (W := WF) C__law_next (hr.mono (by first | decide | omega)) (by rfl) (pa_cons (pv 2) (pa_cons (pv 3) pa_nil))) pe_int) pa_nil)) (pg_name (i := 6) sc__law_row.nd rfl (by first | exact Or.inl rfl | exact Or.inr rfl))
      (pss_cons (ps_asg (pe_cal (W := WF) C__law_steps (hr.mono (by first | decide | omega)) (by rfl) (pa_cons (pv 0) (pa_cons (pe_ix ix_seq (pv 4) (pe_un un_neg pe_int) (fun _ _ => rfl)) pa_nil))) (pg_name (i := 7) sc__law_row.nd rfl (by first | exact Or.inl rfl | exact Or.inr rfl)))
      (pss_cons (ps_if (pt_cmpR (op_eqU hr.units) (pv 7) (pe_lst pa_nil) (nomark _)) (pss_one ps_break) pss_nil)
      (pss_cons (ps_expr (pe_bm PySem.F.plainAttrs_list PySem.F.slot_list_append PySem.F.type_list_append mt_append (pv 5) (pa_cons (pe_ix ix_seq (pv 7) (pe_op op_modN (pe_cal (W := WF) C__law_next (hr.mono (by first | decide | omega)) (by rfl) (pa_cons (pv 2) (pa_cons (pv 3) pa_nil))) (pe_callB call_lenU (by rfl) T.m_len (by decide +kernel) (pa_cons (pv 7) pa_nil))) (fun _ _ => rfl)) pa_nil)))
      (pss_one (ps_expr (pe_bm PySem.F.plainAttrs_list PySem.F.slot_list_append PySem.F.type_list_append mt_append (pv 4) (pa_cons (pe_cal (W := WF) C__law_stepped (hr.mono (by first | decide | omega)) (by rfl) (pa_cons (pv 0) (pa_cons (pe_ix ix_seq (pv 4) (pe_un un_neg pe_int) (fun _ _ => rfl)) (pa_cons (pe_ix ix_seq (pv 5) (pe_un un_neg pe_int) (fun _ _ => rfl)) pa_nil)))) pa_nil))))))))
      (pss_cons (ps_par (i := 8) (j := 9) (by rfl) sc__law_row.nd rfl rfl (by decide) rfl rfl (pa_cons (pe_callTy call_list_of (by rfl) T.m_list (by decide +kernel) (pa_cons (pv 1) pa_nil)) (pa_cons (pe_callTy call_list_of (by rfl) T.m_list (by decide +kernel) (pa_cons (pv 5) pa_nil)) pa_nil)) (by rfl))
      (pss_cons (ps_asg (pe_calX (W := WF) C_derived takes0 (hr.mono (by first | decide | omega)) (by rfl) (pa_cons (pe_callTy call_list_of (by rfl) T.m_list (by decide +kernel) (pa_cons (pv 0) pa_nil)) (pa_cons (pv 8) (pa_cons (pv 9) pa_nil)))) (pg_name (i := 10) sc__law_row.nd rfl (by first | exact Or.inl rfl | exact Or.inr rfl)))
      (pss_cons (ps_if (PW.pt (pw_or (pt_not (pt_truth (pe_cal (W := WF) C__law_same (hr.mono (by first | decide | omega)) (by rfl) (pa_cons (pv 10) (pa_cons (pv 4) pa_nil))) (by intro _; rfl))) (pw_or (pt_cmpR (op_neU hr.units) (pv 8) (pv 1) (nomark _)) (pw_or1 (pt_cmpR (op_neU hr.units) (pv 9) (pv 5) (nomark _)))))) (pss_one (ps_ret pe_bl)) pss_nil)
      (pss_cons (ps_expr (pe_bm PySem.F.plainAttrs_list PySem.F.slot_list_append PySem.F.type_list_append mt_append (pe_ix ix_seq (pv 10) pe_int (fun _ _ => rfl)) (pa_cons pe_str pa_nil)))
      (pss_cons (ps_expr (pe_bm PySem.F.plainAttrs_list PySem.F.slot_list_append PySem.F.type_list_append mt_append (pe_ix ix_seq (pv 10) (pe_un un_neg pe_int) (fun _ _ => rfl)) (pa_cons pe_str pa_nil)))
      (pss_cons (ps_if (PW.pt (pw_or (pt_cmpR (op_neU hr.units) (pv 8) (pv 1) (nomark _)) (pw_or1 (pt_not (pt_truth (pe_cal (W := WF) C__law_same (hr.mono (by first | decide | omega)) (by rfl) (pa_cons (pe_calX (W := WF) C_derived takes0 (hr.mono (by first | decide | omega)) (by rfl) (pa_cons (pe_callTy call_list_of (by rfl) T.m_list (by decide +kernel) (pa_cons (pv 0) pa_nil)) (pa_cons (pv 8) (pa_cons (pv 9) pa_nil)))) (pa_cons (pv 4) pa_nil))) (by intro _; rfl)))))) (pss_one (ps_ret pe_bl)) pss_nil)
      (pss_cons (ps_asg (pe_op op_modN (pe_cal (W := WF) C__law_next (hr.mono (by first | decide | omega)) (by rfl) (pa_cons (pv 2) (pa_cons (pv 3) pa_nil))) (pe_op op_addU (pe_callB call_lenU (by rfl) T.m_len (by decide +kernel) (pa_cons (pv 5) pa_nil)) pe_int)) (pg_name (i := 11) sc__law_row.nd rfl (by first | exact Or.inl rfl | exact Or.inr rfl)))
      (pss_cons (ps_asg (pe_callB call_lenU (by rfl) T.m_len (by decide +kernel) (pa_cons (pe_ix ix_seq (pv 4) (pv 11) (fun _ _ => rfl)) pa_nil)) (pg_name (i := 12) sc__law_row.nd rfl (by first | exact Or.inl rfl | exact Or.inr rfl)))
      (pss_cons (ps_asg (pe_ix ix_seq (pe_lst (pa_cons (pe_tup (pa_cons (pe_callB call_lenU (by rfl) T.m_len (by decide +kernel) (pa_cons (pv 0) pa_nil)) (pa_cons pe_int pa_nil))) (pa_cons (pe_tup (pa_cons pe_int (pa_cons (pv 12) pa_nil))) (pa_cons pe_non (pa_cons (pe_tup (pa_cons pe_int (pa_cons (pe_un un_neg pe_int) pa_nil))) (pa_cons (pe_tup (pa_cons (pe_un un_neg pe_int) (pa_cons pe_int pa_nil))) (pa_cons (pe_lst (pa_cons pe_int (pa_cons pe_int pa_nil))) pa_nil))))))) (pe_op op_modN (pe_cal (W := WF) C__law_next (hr.mono (by first | decide | omega)) (by rfl) (pa_cons (pv 2) (pa_cons (pv 3) pa_nil))) pe_int) (fun _ _ => rfl)) (pg_name (i := 13) sc__law_row.nd rfl (by first | exact Or.inl rfl | exact Or.inr rfl)))
      (pss_one (ps_ret (pe_cmpR (op_eqU hr.units) (pe_cal (W := WF) C__law_fails (hr.mono (by first | decide | omega)) (by rfl) (pa_cons pe_str (pa_cons (pe_callTy call_list_of (by rfl) T.m_list (by decide +kernel) (pa_cons (pv 0) pa_nil)) (pa_cons (pv 8) (pa_cons (pe_op op_addU (pe_op op_addU (pe_slice sl_U (pv 5) po_none (po_some (pv 11))) (pe_lst (pa_cons (pv 13) pa_nil))) (pe_slice sl_U (pv 5) (po_some (pv 11)) po_none)) pa_nil))))) (pv 11) (nomark _))))))))))))))), fun ds M Φ Ψ h => ?_⟩)
  · obtain ⟨rs, w, P, a, n, rfl, _⟩ := h
    rfl
  · obtain ⟨rs, w, P, at', n, rfl, hr, hw, lw, hP, hm, hn, q⟩ := h
    dsimp only [cx_nox, cx_k, cx_blk, cx_nox2, cx_tr, cx_suite]
    change wps K _ _ [some _, some _, some _, some _, none, none, none, none, none, none, none, none, none, none] _ _
    walk_at "dr"
    rename_i pw hpw ps hps
    have hpwa : pw ≠ at' := by
      rintro rfl
      rw [hm] at hpw
      cases hpw
    have hpsw : ps ≠ pw := by
      rintro rfl
      rw [mup_same] at hps
      cases hps
    have hpsa : ps ≠ at' := by
      rintro rfl
      rw [mup_ne (Ne.symm hpwa), hm] at hps
      cases hps
    have e0 : mup (mup M pw (.lst [eW w])) ps (.lst []) = mup (mup (mup M pw (.lst [eW w])) ps (.lst [])) at' (.lst [.int n]) := (mup_self (by rw [mup_ne (Ne.symm hpsa), mup_ne (Ne.symm hpwa)]; exact hm)).symm
    rw [e0]
    refine s_mid (fun ρ' M' => ∃ (x y : Option D) (vs : List Wd) (ss : List (Nat × Nat)) (m : Int), ρ' = [some (eRs rs), some (eW w), some (eI P), some (.ref at'), some (.ref pw), some (.ref ps), x, y, none, none, none, none, none, none] ∧ M' = mup (mup (mup M pw (.lst (vs.map eW))) ps (.lst (ss.map eSt))) at' (.lst [.int m]) ∧ 0 ≤ m ∧ Row rs w vs ss ∧  ss.length ≤ 12) ?_ ?_
    · refine s_for (i_rng1 ?_)
      walk_at "dr"
      rename_i v1 n1 hv1 hn1
      obtain ⟨j, hj, hjl⟩ := mod_nat (v := v1) (m := 13) (by omega)
      rw [hj]
      refine ⟨⟨by omega, by omega⟩, fun k ρ' M' => ∃ (x y : Option D) (vs : List Wd) (ss : List (Nat × Nat)) (m : Int), ρ' = [some (eRs rs), some (eW w), some (eI P), some (.ref at'), some (.ref pw), some (.ref ps), x, y, none, none, none, none, none, none] ∧ M' = mup (mup (mup M pw (.lst (vs.map eW))) ps (.lst (ss.map eSt))) at' (.lst [.int m]) ∧ 0 ≤ m ∧ Row rs w vs ss ∧  ss.length = k, ⟨_, _, [w], [], n1, rfl, rfl, hn1, ⟨rfl, fun k hk => ?_⟩, rfl⟩, fun _ _ _ _ _ => trivial, ?_, ?_⟩
      · obtain rfl : k = 0 := by simpa using hk
        rfl
      · rintro k ρ' M' hk ⟨x, y, vs, ss, m, rfl, rfl, hm0, hR, hsl⟩
        rw [Int.toNat_natCast] at hk
        obtain ⟨v, hv, _⟩ := hR.last
        obtain ⟨ov, lv⟩ := hR.ok hr hw hv
        have hix := atI_last eW vs ss.length v hR.len hv
        have hz1 : (ss.map eSt).length < 16777216 := by rw [List.length_map]; omega
        have hz2 : (vs.map eW).length < 16777216 := by rw [List.length_map, hR.len]; omega
        walk_at "dr"
        refine ⟨rs, v, rfl, hr, ov, by omega, .imm ?_⟩
        walk_at "dr"
        by_cases he : stepsL rs v = []
        · rw [he]
          refine o_eqSame (.same _) (.same _) (d := .lst []) (n := 1) rfl (by decide) ?_
          walk_at "dr"
          exact ⟨_, _, vs, ss, m, rfl, rfl, hm0, hR, by omega⟩
        · have hl0 : (stepsL rs v).length ≠ 0 := fun z => he (List.length_eq_zero_iff.mp z)
          have hs0 : (0 : Int) < (((stepsL rs v).map eSt).length : Int) := by rw [List.length_map]; omega
          have hs1 : (((stepsL rs v).map eSt).length : Int) ≠ 0 := by omega
          refine o_eqC (b := false) (m := 1) (.same _) (.same _) (okd_eSts _) rfl (by decide) (by decide) (clns_map fun s _ => cln_eSt s) rfl ⟨fun h => (nomatch h), fun h => absurd (List.map_eq_nil_iff.mp (D.lst.inj h)) he⟩ ?_
          walk_at "dr"
          rename_i v2 m2 hv2 hm2
          refine o_ixMod (.lst (.imm _)) rfl hs0 hv2 fun d hd => ?_
          obtain ⟨⟨p, q⟩, hmem, rfl⟩ := List.mem_map.mp hd
          obtain ⟨u, hu⟩ := (mem_steps hr).mp hmem
          have hst : stp rs v (eSt (p, q)) = some u := by rw [eSt, stp_nat]; exact hu
          have hu3 : ∃ r, rs[p]? = some r ∧ u = v.take q ++ r.2 ++ v.drop (q + r.1.length) := by
            cases hk : rs[p]? with
            | none =>
              rw [stpN_none hk] at hu
              cases hu
            | some r =>
              rw [stpN_some hk] at hu
              split at hu
              · cases hu
                exact ⟨r, rfl, rfl⟩
              · cases hu
          obtain ⟨r1, hk1, hue⟩ := hu3
          have hie := atI_end (ss.map eSt) (eSt (p, q))
          walk_at "dr"
          refine ⟨rs, v, p, q, r1, rfl, hk1, by omega, (hr.all r1 (List.mem_of_getElem? hk1)).l2, .imm ?_⟩
          rw [← hue]
          walk_at "dr"
          refine ⟨_, _, vs ++ [u], ss ++ [(p, q)], m2, rfl, ?_, hm2, hR.more hv hst, by rw [List.length_append, hsl]; rfl⟩
          rw [mup3 hpsa, mup4 (Ne.symm hpsw) hpwa, List.map_append, List.map_append]
          rfl
      · rintro ρ' M' ⟨x, y, vs, ss, m, rfl, rfl, hm0, hR, hsl⟩
        exact ⟨x, y, vs, ss, m, rfl, rfl, hm0, hR, by omega⟩
    · rintro ρ' M' ⟨x, y, vs, ss, m, rfl, rfl, hm0, hR, hsl⟩
      have hz3 : ((ss.map eSt)).length ≤ 16777216 := by rw [List.length_map]; omega
      generalize hM0 : mup (mup (mup M pw (.lst (vs.map eW))) ps (.lst (ss.map eSt))) at' (.lst [.int m]) = M0
      have gw : M0 pw = some (.lst (vs.map eW)) := by rw [← hM0, mup_ne hpwa, mup_ne (Ne.symm hpsw), mup_same]
      have gs : M0 ps = some (.lst (ss.map eSt)) := by rw [← hM0, mup_ne hpsa, mup_same]
      have ga : M0 at' = some (.lst [.int m]) := by rw [← hM0, mup_same]
      have stE : ∀ s : Nat × Nat, St2 (eSt s) := fun s => .tup (by simp) fun e he => by
        simp only [List.mem_cons, List.not_mem_nil, or_false] at he
        rcases he with rfl | rfl <;> exact .int _
      have der : ∀ (Mx : Mem) (Φ' : DP) (Ψ' : XP), (∀ p cs M', Cells Mx M' p cs vs → Φ' (.ref p) M') → R_derived a [eRs rs, eW w, .lst (ss.map eSt)] Mx Φ' Ψ' := fun Mx Φ' Ψ' k =>
        ⟨rs, eW w, ss.map eSt, rfl, hr, .lst _, pls_eW w, fun d hd => by
          obtain ⟨s, _, rfl⟩ := List.mem_map.mp hd
          exact stE s, by rw [List.length_map]; omega, len_eW (by omega), fun i hi => absurd hi (by rw [chk_eW hw]; exact fun z => nomatch z), fun _ => ⟨w, rfl, hw, by omega, fun k v d h1 h2 h3 => (hR.step h1 h2 h3).elim, fun us hl hd p cs M' hC => by
          rw [List.length_map] at hl hd
          rw [hR.uniq hl hd] at hC
          exact k p cs M' hC⟩⟩
      obtain ⟨v, hv, _⟩ := hR.last
      have vlen : ∀ u ∈ vs, u.length ≤ 300 := fun u hu => by
        obtain ⟨k, hk⟩ := List.mem_iff_getElem?.mp hu
        have h1 := (List.getElem?_eq_some_iff.mp hk).1
        have h2 := (hR.ok hr hw hk).2
        have := hR.len
        omega
      have hsd : Sd 5 (.lst (vs.map eW)) := .lst (by rw [List.length_map, hR.len]; omega) fun d hd => by
        obtain ⟨u, hu, rfl⟩ := List.mem_map.mp hd
        exact sdW (by have := vlen u hu; omega)
      walk_at "dr"
      refine der _ _ _ fun p1 cs1 M1 hC1 => ?_
      obtain ⟨c0, v0, hx0, hc0, hv0, hm0⟩ := hC1.first (by rw [hR.len]; omega)
      obtain ⟨cl, hxl, hml, hcl⟩ := hC1.lastM hR.len hv
      have l1 := hC1.lst
      have hpc : p1 ≠ c0 := Ne.symm (hC1.fr c0 hc0).2
      have z0 : (v0.map D.str).length < 16777216 := by rw [List.length_map]; have := vlen v0 hv0; omega
      obtain ⟨zs, hzs, hzl⟩ : ∃ zs, mup M1 c0 (.lst (v0.map D.str ++ [.str "spoilt"])) cl = some (.lst zs) ∧ zs.length < 16777216 := by
        by_cases e : cl = c0
        · rw [e]
          exact ⟨_, mup_same, by rw [List.length_append, List.length_map]; simp only [List.length_cons, List.length_nil]; have := vlen v0 hv0; omega⟩
        · exact ⟨_, by rw [mup_ne e]; exact hml, by rw [List.length_map]; have := vlen v (List.mem_of_getElem? hv); omega⟩
      have hS : DA.Sub M0 (mup (mup M1 c0 (.lst (v0.map D.str ++ [.str "spoilt"]))) cl (.lst (zs ++ [.str "spoilt"]))) := fun b o e => by
        rw [mup_ne (mne e (hC1.fr cl hcl).1), mup_ne (mne e (hC1.fr c0 hc0).1)]
        exact hC1.sub b o e
      walk_at "dr"
      refine ⟨[.lst (vs.map eW), .lst (vs.map eW)], .cons hC1.view (.cons (.cell (hC1.sub _ _ gw) (Vws.refl _)) .nil), _, rfl, hsd, .inl ⟨rfl, ?_⟩⟩
      walk_at "dr"
      refine o_neSame (.same _) (.same _) (okd_eW hw) (by decide) ?_
      walk_at "dr"
      refine o_neSame (.same _) (.cell (hC1.sub _ _ gs) (Vws.refl _)) (okd_eSts ss) (by decide) ?_
      walk_at "dr"
      refine o_neSame (.same _) (.same _) (okd_eW hw) (by decide) ?_
      walk_at "dr"
      refine der _ _ _ fun p2 cs2 M3 hC2 => ?_
      have gw3 := hC2.sub _ _ (hS _ _ gw)
      have gs3 := hC2.sub _ _ (hS _ _ gs)
      have ga3 := hC2.sub _ _ (hS _ _ ga)
      have hsl0 : ((ss.map eSt).length : Int) + 1 ≠ 0 := by omega
      walk_at "dr"
      refine ⟨[.lst (vs.map eW), .lst (vs.map eW)], .cons hC2.view (.cons (.cell gw3 (Vws.refl _)) .nil), _, rfl, hsd, .inl ⟨rfl, ?_⟩⟩
      walk_at "dr"
      rename_i v3 m3 hv3 hm3
      obtain ⟨j, hj, hjl⟩ := mod_nat (v := v3) (m := ((ss.map eSt).length : Int) + 1) (by omega)
      rw [List.length_map] at hjl
      rw [hj]
      have hvj : vs[j]? = some (vs[j]'(by rw [hR.len]; omega)) := List.getElem?_eq_getElem (by rw [hR.len]; omega)
      generalize vs[j]'(by rw [hR.len]; omega) = vj at hvj
      walk_at "dr"
      rename_i v4 m4 hv4 hm4
      refine o_ixMod (.lst (.imm _)) rfl (by decide) hv4 fun odd hodd => ?_
      obtain ⟨ho1, ho2⟩ := odd_no hr vj odd hodd
      have hlj : ((ss.take j).map eSt).length = j := by rw [List.length_map, List.length_take]; omega
      have hz5 : ((ss.take j).map eSt ++ [odd]).length ≤ 16777216 := by rw [List.length_append, hlj]; simp only [List.length_cons, List.length_nil]; omega
      have hz6 : ((ss.take j).map eSt ++ [odd] ++ (ss.drop j).map eSt).length ≤ 16777216 := by rw [List.length_append, List.length_append, hlj, List.length_map, List.length_drop]; simp only [List.length_cons, List.length_nil]; omega
      have hz7 : ((ss.take j).map eSt ++ [odd] ++ (ss.drop j).map eSt).length ≤ 20 := by rw [List.length_append, List.length_append, hlj, List.length_map, List.length_drop]; simp only [List.length_cons, List.length_nil]; omega
      walk_at "dr"
      refine ⟨rs, eW w, _, "derived", j, rfl, hr, .lst _, pls_eW w, fun d hd => ?_, hz7, len_eW (by omega), .inr ⟨by decide +kernel, by decide +kernel, w, rfl, hw, by omega, j, vj, odd, rfl, ?_, ?_, ho2⟩, fun M' _ => ?_⟩
      · rcases List.mem_append.mp hd with hd | hd
        · rcases List.mem_append.mp hd with hd | hd
          · obtain ⟨s, _, rfl⟩ := List.mem_map.mp hd
            exact stE s
          · rw [List.mem_singleton.mp hd]
            exact ho1
        · obtain ⟨s, _, rfl⟩ := List.mem_map.mp hd
          exact stE s
      · rw [List.append_assoc, dw_pre j (by rw [hlj]; exact Nat.le_refl _), ← hvj, ← hR.all j (by omega)]
        have e : ss.map eSt = (ss.take j).map eSt ++ (ss.drop j).map eSt := by rw [← List.map_append, List.take_append_drop]
        rw [e, dw_pre j (by rw [hlj]; exact Nat.le_refl _)]
      · rw [List.getElem?_append_left (by rw [List.length_append, hlj]; simp), List.getElem?_append_right (by rw [hlj]; exact Nat.le_refl _), hlj, Nat.sub_self]
        rfl
      · walk_at "dr"
        rw [decide_eq_true rfl]
        exact q _
end P7


section P8

local macro_rules | `(tactic| walk_at "cl") => `(tactic| ((refine l_next (by assumption) (by walk_at "lk") (by assumption) ?_); intro _ _ _ _; try simp only [mup_mup]))
local macro_rules | `(tactic| walk_at "ec") => `(tactic| with_reducible refine e_callN (R := R__law_same 5) ?_)
def R_law : RD := fun ds M Φ _ => ∃ ns : List Int, ds = [.scr (ns.map .int)] ∧ ns.length ≤ 63 ∧ ∀ M', Φ (.bl true) M'
/-! law: 0=script 1=pool 2=at 3=rules 4=word 5=given 6=handed 7=told -/
abbrev s_law : Stmt := topS 23
theorem sc_law : FnScope ["script", "pool", "at", "rules", "word", "given", "handed", "told"] ["script"] (defScope s_law) := ⟨rfl, rfl, rfl, by decide +kernel, rfl, by decide +kernel, by decide +kernel⟩
theorem ok_law {P : Program} {w : World} {K : PySem.W.Frag} {mg : Str → Option Value} {base : Heap}  {a : Adr} {f : Addr} {fd : FuncData} (F : L2.Fun K "law" "law" s_law f fd) (T : Glb mg) (C__law_numbers : Cal0 P w K mg base (1) "_law_numbers" ["script", "at", "count"] R__law_numbers) (C__law_drawn : Cal0 P w K mg base (3) "_law_drawn" ["pool", "at"] R__law_drawn) (C__law_part : Cal0 P w K mg base (2) "_law_part" ["pool", "at", "size"] R__law_part) (C__law_next : Cal0 P w K mg base (1) "_law_next" ["pool", "at"] R__law_next) (C_steps_from : CalX P w K mg base (4) "steps_from" ["rules", "word"] (R_steps_from a)) (C__law_same : Cal0 P w K mg base (5) "_law_same" ["told", "due"] (R__law_same 5)) (C__law_steps : Cal0 P w K mg base (1) "_law_steps" ["rules", "word"] R__law_steps) (C__law_refused : Cal0 P w K mg base (7) "_law_refused" ["rules", "word", "pool", "at"] (R__law_refused a)) (C__law_impossible : Cal0 P w K mg base (6) "_law_impossible" ["rules", "word", "pool", "at"] (R__law_impossible a)) (C__law_row : Cal0 P w K mg base (7) "_law_row" ["rules", "word", "pool", "at"] (R__law_row a)) : FnOk P w K mg base CX0 (8) f fd ["script"] (spD K R_law) := by
  refine DA.fn0 F sc_law (fun ds M Φ Ψ h => ?_) (fun cdv A outer s H E hr => ⟨_, (pss_cons (ps_asg (pe_op op_addU (pe_cal (W := WF) C__law_numbers (hr.mono (by first | decide | omega)) (by rfl) (pa_cons (pv 0) (pa_cons pe_int (pa_cons pe_int pa_nil)))) (pe_cal (W := WF) C__law_numbers (hr.mono (by first | decide | omega)) (by rfl) (pa_cons (pv 0) (pa_cons pe_int (pa_cons pe_int pa_nil))))) (pg_name (i := 1) sc_law.nd rfl (by first | exact Or.inl rfl | exact Or.inr rfl)))
      (pss_cons (ps_asg (pe_lstC (pa_cons pe_int pa_nil)) (pg_name (i := 2) sc_law.nd rfl (by first | exact Or.inl rfl | exact Or.inr rfl)))
      (pss_cons (ps_asg (pe_cal (W := WF) C__law_drawn (hr.mono (by first | decide | omega)) (by rfl) (pa_cons (pv 1) (pa_cons (pv 2) pa_nil))) (pg_name (i := 3) sc_law.nd rfl (by first | exact Or.inl rfl | exact Or.inr rfl)))
      (pss_cons (ps_asg (pe_cal (W := WF) C__law_part (hr.mono (by first | decide | omega)) (by rfl) (pa_cons (pv 1) (pa_cons (pv 2) (pa_cons (pe_ix ix_seq (pe_lst (pa_cons (pe_op op_modN (pe_cal (W := WF) C__law_next (hr.mono (by first | decide | omega)) (by rfl) (pa_cons (pv 1) (pa_cons (pv 2) pa_nil))) pe_int) (pa_cons pe_int pa_nil))) (pe_callTy call_intU (by rfl) T.m_int (by decide +kernel) (pa_cons (pe_cmpR (op_eqU hr.units) (pe_op op_modN (pe_cal (W := WF) C__law_next (hr.mono (by first | decide | omega)) (by rfl) (pa_cons (pv 1) (pa_cons (pv 2) pa_nil))) pe_int) pe_int (nomark _)) pa_nil)) (fun _ _ => rfl)) pa_nil)))) (pg_name (i := 4) sc_law.nd rfl (by first | exact Or.inl rfl | exact Or.inr rfl)))
      (pss_cons (ps_if (PW.pt (pw_and (pt_cmpR op_gt (pe_callB call_lenU (by rfl) T.m_len (by decide +kernel) (pa_cons (pv 3) pa_nil)) pe_int (nomark _)) (pw_and1 (pt_cmpR (op_eqU hr.units) (pe_op op_modN (pe_cal (W := WF) C__law_next (hr.mono (by first | decide | omega)) (by rfl) (pa_cons (pv 1) (pa_cons (pv 2) pa_nil))) pe_int) pe_int (nomark _))))) (pss_one (ps_asg (pe_op op_addU (pe_op op_addU (pv 4) (pe_callTy call_list_of (by rfl) T.m_list (by decide +kernel) (pa_cons (pe_ix ix_seq (pe_ix ix_seq (pv 3) pe_int (fun _ _ => rfl)) pe_int (fun _ _ => rfl)) pa_nil))) (pe_slice sl_U (pv 4) po_none (po_some pe_int))) (pg_name (i := 4) sc_law.nd rfl (by first | exact Or.inl rfl | exact Or.inr rfl)))) pss_nil)
      (pss_cons (ps_par (i := 5) (j := 6) (by rfl) sc_law.nd rfl rfl (by decide) rfl rfl (pa_cons (pe_callTy call_list_of (by rfl) T.m_list (by decide +kernel) (pa_cons (pv 3) pa_nil)) (pa_cons (pe_callTy call_list_of (by rfl) T.m_list (by decide +kernel) (pa_cons (pv 4) pa_nil)) pa_nil)) (by rfl))
      (pss_cons (ps_asg (pe_calX (W := WF) C_steps_from takes0 (hr.mono (by first | decide | omega)) (by rfl) (pa_cons (pv 5) (pa_cons (pv 6) pa_nil))) (pg_name (i := 7) sc_law.nd rfl (by first | exact Or.inl rfl | exact Or.inr rfl)))
      (pss_cons (ps_if (PW.pt (pw_or (pt_not (pt_truth (pe_cal (W := WF) C__law_same (hr.mono (by first | decide | omega)) (by rfl) (pa_cons (pv 7) (pa_cons (pe_cal (W := WF) C__law_steps (hr.mono (by first | decide | omega)) (by rfl) (pa_cons (pv 3) (pa_cons (pv 4) pa_nil))) pa_nil))) (by intro _; rfl))) (pw_or (pt_cmpR (op_neU hr.units) (pv 5) (pv 3) (nomark _)) (pw_or1 (pt_cmpR (op_neU hr.units) (pv 6) (pv 4) (nomark _)))))) (pss_one (ps_ret pe_bl)) pss_nil)
      (pss_cons (ps_expr (pe_bm PySem.F.plainAttrs_list PySem.F.slot_list_append PySem.F.type_list_append mt_append (pv 7) (pa_cons (pe_tup (pa_cons pe_int (pa_cons pe_int pa_nil))) pa_nil)))
      (pss_cons (ps_if (PW.pt (pw_or (pt_not (pt_truth (pe_cal (W := WF) C__law_same (hr.mono (by first | decide | omega)) (by rfl) (pa_cons (pe_calX (W := WF) C_steps_from takes0 (hr.mono (by first | decide | omega)) (by rfl) (pa_cons (pv 5) (pa_cons (pv 6) pa_nil))) (pa_cons (pe_cal (W := WF) C__law_steps (hr.mono (by first | decide | omega)) (by rfl) (pa_cons (pv 3) (pa_cons (pv 4) pa_nil))) pa_nil))) (by intro _; rfl))) (pw_or1 (pt_not (pt_truth (pe_cal (W := WF) C__law_same (hr.mono (by first | decide | omega)) (by rfl) (pa_cons (pe_calX (W := WF) C_steps_from takes0 (hr.mono (by first | decide | omega)) (by rfl) (pa_cons (pv 5) (pa_cons (pe_lst pa_nil) pa_nil))) (pa_cons (pe_lst pa_nil) pa_nil))) (by intro _; rfl)))))) (pss_one (ps_ret pe_bl)) pss_nil)
      (pss_cons (ps_if (PW.pt (pw_or (pt_not (pt_truth (pe_cal (W := WF) C__law_impossible (hr.mono (by first | decide | omega)) (by rfl) (pa_cons (pv 3) (pa_cons (pv 4) (pa_cons (pv 1) (pa_cons (pv 2) pa_nil))))) (by intro _; rfl))) (pw_or1 (pt_not (pt_truth (pe_cal (W := WF) C__law_refused (hr.mono (by first | decide | omega)) (by rfl) (pa_cons (pv 3) (pa_cons (pv 4) (pa_cons (pv 1) (pa_cons (pv 2) pa_nil))))) (by intro _; rfl)))))) (pss_one (ps_ret pe_bl)) pss_nil)
      (pss_one (ps_ret (pe_and (pe_cal (W := WF) C__law_row (hr.mono (by first | decide | omega)) (by rfl) (pa_cons (pv 3) (pa_cons (pv 4) (pa_cons (pv 1) (pa_cons (pv 2) pa_nil))))) (pe_one (pe_cmpR (op_eqU hr.units) (pv 5) (pv 3) (nomark _))))))))))))))))), fun ds M Φ Ψ h => ?_⟩)
  · obtain ⟨ns, rfl, _⟩ := h
    rfl
  · obtain ⟨ns, rfl, hl, q⟩ := h
    dsimp only [cx_nox, cx_k, cx_blk, cx_nox2, cx_tr, cx_suite]
    change wps K _ _ [some _, none, none, none, none, none, none, none] _ _
    walk_at "dr"
    refine ⟨ns, 0, 60, rfl, hl, by decide, by decide, fun P1 l1 b1 => .imm ?_⟩
    walk_at "dr"
    refine ⟨ns, 1, 60, rfl, hl, by decide, by decide, fun P2 l2 b2 => .imm ?_⟩
    have hz : (P1.map D.int ++ P2.map D.int).length ≤ 16777216 := by rw [List.length_append, List.length_map, List.length_map, l1, l2]; decide
    have hP : PoolOk (P1 ++ P2) := ⟨by rw [List.length_append, l1, l2], fun x hx => (List.mem_append.mp hx).elim (b1 x) (b2 x)⟩
    walk_at "dr"
    rename_i pa hpa
    refine ⟨P1 ++ P2, pa, 0, rfl, hP, mup_same, by decide, fun rs n1 hr hn1 => .imm ?_⟩
    simp only [mup_mup]
    walk_at "dr"
    rename_i v1 m1 hv1 hm1 v2 m2 hv2 hm2
    obtain ⟨t, ht, htl⟩ : ∃ t : Nat, L2.atI [D.int (v1.fmod 9), D.int 60] (if decide (v2.fmod 8 = 0) then 1 else 0) = some (.int t) ∧ t ≤ 60 := by
      obtain ⟨j, hj, hjl⟩ := mod_nat (v := v1) (m := 9) (by omega)
      by_cases e : v2.fmod 8 = 0
      · exact ⟨60, by rw [decide_eq_true e]; rfl, by decide⟩
      · exact ⟨j, by rw [decide_eq_false e, hj]; rfl, by omega⟩
    refine o_ix (.lst (.imm _)) ht ?_
    walk_at "dr"
    refine ⟨P1 ++ P2, pa, m2, t, rfl, hP, mup_same, hm2, by omega, fun w0 n2 hw0 hlw hn2 => .imm ?_⟩
    simp only [mup_mup]
    refine g_name ?_
    refine s_seq ?_
    dsimp only [List.set_cons_succ, List.set_cons_zero]
    refine s_mid (fun ρ' M' => ∃ (w : Wd) (n' : Int), ρ' = [some (.scr (ns.map .int)), some (eI (P1 ++ P2)), some (.ref pa), some (eRs rs), some (eW w), none, none, none] ∧ M' = mup M pa (.lst [.int n']) ∧ 0 ≤ n' ∧ wOk w ∧ w.length ≤ 100) ?_ ?_
    · walk_at "dr"
      refine ⟨fun h => ?_, fun h => ?_⟩
      · have h1 := of_decide_eq_true h
        rw [List.length_map] at h1
        have hk := List.getElem?_eq_getElem (show 0 < rs.length by omega)
        generalize rs[0]'(by omega) = r at hk
        have hr1 := hr.all r (List.mem_of_getElem? hk)
        have hr2 := hr1.l1
        have hx0 : L2.atI (rs.map eR) 0 = some (eR r) := atI_map (k := 0) hk
        walk_at "dr"
        rename_i v3 m3 hv3 hm3
        refine ⟨fun h => ?_, fun h => ?_⟩
        · have h2 : DA.cutD (w0.map D.str) none (some 2) = (w0.take 2).map D.str := cut_to D.str w0 2
          walk_at "dr"
          rw [h2]
          walk_at "dr"
          refine ⟨w0 ++ r.1 ++ w0.take 2, m3, rfl, rfl, hm3, (hw0.app hr1.o1).app (hw0.take 2), ?_⟩
          rw [List.length_append, List.length_append, List.length_take]
          omega
        · walk_at "dr"
          exact ⟨w0, m3, rfl, rfl, hm3, hw0, by omega⟩
      · walk_at "dr"
        exact ⟨w0, n2, rfl, rfl, hn2, hw0, by omega⟩
    · rintro ρ' M' ⟨w, n', rfl, rfl, hn', hw, lw⟩
      have hsl := steps_len rs w rs.length
      have hrl := hr.len
      have hml : rs.length * (w.length + 1) ≤ 6 * 101 := Nat.mul_le_mul hrl (by omega)
      have hsl2 : (stepsL rs w).length ≤ 606 := by unfold stepsL; omega
      have hz8 : ((stepsL rs w).map eSt).length < 16777216 := by rw [List.length_map]; omega
      have hsd : Sd 5 (eSts (stepsL rs w)) := .lst (by rw [List.length_map]; omega) fun d hd => by
        obtain ⟨s, _, rfl⟩ := List.mem_map.mp hd
        refine .tup (by simp) fun e he => ?_
        simp only [List.mem_cons, List.not_mem_nil, or_false] at he
        rcases he with rfl | rfl <;> exact .int _
      have hor : okd 3 (eRs rs) = true := by
        unfold okd
        rw [okds_map fun r hr' => ?_]
        · rfl
        · have h1 := hr.all r hr'
          unfold okd okds okds okds
          rw [okd_eP h1.o1, okd_eP h1.o2]
          rfl
      have bad : ∀ {u : Wd} {j : Int}, wOk u → chk (eW u) = some j → False := fun hu h => by
        rw [chk_eW hu] at h
        cases h
      have nilw : wOk [] := fun _ h => nomatch h
      have nils : stepsL rs [] = [] := by
        cases e : stepsL rs [] with
        | nil => rfl
        | cons s l =>
          obtain ⟨k, p⟩ := s
          obtain ⟨v, hv⟩ := (mem_steps hr).mp (show (k, p) ∈ stepsL rs [] by rw [e]; exact List.mem_cons_self)
          cases hk : rs[k]? with
          | none =>
            rw [stpN_none hk] at hv
            cases hv
          | some u =>
            have hu := hr.all u (List.mem_of_getElem? hk)
            rw [stpN_some hk, if_neg] at hv
            · cases hv
            · rintro ⟨h1, h2⟩
              have : u.1.length ≠ 0 := fun z => hu.ne (List.length_eq_zero_iff.mp z)
              simp only [List.length_nil] at h2
              omega
      walk_at "dr"
      refine ⟨rs, eW w, rfl, hr, .lst _, pls_eW w, len_eW (by omega), fun j hj => (bad hw hj).elim, fun _ => ⟨w, rfl, hw, by omega, .cell fun pt hpt => ?_⟩⟩
      have hpp : pa ≠ pt := by
        rintro rfl
        rw [mup_same] at hpt
        cases hpt
      walk_at "dr"
      refine ⟨rs, w, rfl, hr, hw, by omega, .imm ?_⟩
      walk_at "dr"
      refine ⟨[eSts (stepsL rs w), eSts (stepsL rs w)], .cons (.cell mup_same (Vws.refl _)) (.cons (.same _) .nil), _, rfl, hsd, .inl ⟨rfl, ?_⟩⟩
      walk_at "dr"
      refine o_neSame (.same _) (.same _) hor (by decide) ?_
      walk_at "dr"
      refine o_neSame (.same _) (.same _) (okd_eW hw) (by decide) ?_
      walk_at "dr"
      refine ⟨rs, eW w, rfl, hr, .lst _, pls_eW w, len_eW (by omega), fun j hj => (bad hw hj).elim, fun _ => ⟨w, rfl, hw, by omega, .imm ?_⟩⟩
      walk_at "dr"
      refine ⟨rs, w, rfl, hr, hw, by omega, .imm ?_⟩
      walk_at "dr"
      refine ⟨[eSts (stepsL rs w), eSts (stepsL rs w)], .cons (.same _) (.cons (.same _) .nil), _, rfl, hsd, .inl ⟨rfl, ?_⟩⟩
      walk_at "dr"
      refine ⟨rs, eW [], rfl, hr, .lst _, pls_eW [], len_eW (by decide), fun j hj => (bad nilw hj).elim, fun _ => ⟨[], rfl, nilw, by decide, .imm ?_⟩⟩
      rw [nils]
      walk_at "dr"
      refine ⟨[.lst [], .lst []], .cons (.same _) (.cons (.same _) .nil), _, rfl, .lst (by decide) (fun _ h => nomatch h), .inl ⟨rfl, ?_⟩⟩
      walk_at "dr"
      refine ⟨rs, w, _, _, rfl, hr, hw, by omega, ?_⟩
      walk_at "dr"
      refine ⟨rs, w, P1 ++ P2, pa, n', rfl, hr, hw, by omega, hP, by rw [mup_ne hpp, mup_same], hn', fun n3 hn3 => ?_⟩
      walk_at "dr"
      refine ⟨rs, w, P1 ++ P2, pa, n3, rfl, hr, hw, by omega, hP, by rw [mup_same], hn3, fun M' => ?_⟩
      walk_at "dr"
      refine o_eqSame (.same _) (.same _) hor (by decide) ?_
      walk_at "dr"
      exact q _
end P8


section P9
theorem same0 {P : Program} {w : World} {K : PySem.W.Frag} {mg : Str → Option Value} {base : Heap} (F : FunAt K mg "_law_same" "_law_same" s__law_same ["told", "due"]) : Cal0 P w K mg base 0 "_law_same" ["told", "due"] (R__law_same 0) := by
  obtain ⟨f, fd, F, hm, hb⟩ := F
  have no : ∀ vs H Q E, spD K (R__law_same 0) vs H Q E → False := fun vs H Q E ⟨S, M, ds, Φ, Ψ, _, _, ⟨d, _, p, _⟩, _⟩ => by cases p
  exact ⟨f, fd, ⟨fun vs H Q E h => (no _ _ _ _ h).elim, fun A outer s H args us vs Q E _ _ _ _ h => (no _ _ _ _ h).elim⟩, hm, F.kp, hb⟩
theorem ints_rep {K : PySem.W.Frag} {S : Hp} : ∀ ns : List Int, Reps K S (ns.map D.int) (ns.map V.int)
  | [] => .nil
  | n :: r => .cons (.int n) (ints_rep r)
theorem start_ok {K : PySem.W.Frag} {H : Hp} {a : Addr} {ns : List Int} (hl : ns.length ≤ 63) (hS : SqL K H a (ns.map V.int)) : spD K R_law [.ref a] H (fun v _ => v = .bl true) (fun _ _ _ => False) := by
  refine ⟨H, m0, [.scr (ns.map .int)], fun d _ => d = .bl true, xno, sim0 H, .cons (.scr hS (ints_rep ns)) .nil, ⟨ns, rfl, hl, fun _ => rfl⟩, fun d M' v S' H' hd e s r => ?_, fun _ _ _ _ _ _ _ z => z.elim⟩
  subst hd
  cases r
  rfl
/-- an error of the class at S is what «except S» names -/
theorem exm_me {K : PySem.W.Frag} {S : Addr} (h1 : PySem.W.subIn K (.ref S) (.type "BaseException") = some true) (h2 : PySem.W.isClsIn K S = true) (h3 : PySem.W.typeIn K (.ref S) = some (.type "type")) (h4 : PySem.W.subIn K (.ref S) (.ref S) = some true) : PySem.W.exmOne K (.ref S) (.ref S) = some true := by
  have e1 : (PySem.W.subIn K (.ref S) (.type "BaseException") == some true) = true := by rw [h1] <;> rfl
  have e2 : ((PySem.W.clsIn K S).isSome && PySem.W.typeIn K (.ref S) == some (.type "type")) = true := by
    have h5 : (PySem.W.clsIn K S).isSome = true := h2
    rw [h5, h3] <;> rfl
  show (if (PySem.W.subIn K (.ref S) (.type "BaseException") == some true) = true then (if ((PySem.W.clsIn K S).isSome && PySem.W.typeIn K (.ref S) == some (.type "type")) = true then PySem.W.subIn K (.ref S) (.ref S) else none) else none) = some true
  rw [if_pos e1, if_pos e2]
  exact h4
theorem all_mk {P : Program} {w : World} {K : PySem.W.Frag} {h : Heap} {mg : Str → Option Value} {fa : Addr} (X : K.In h) (G : h.Ns mainGlobals mg) (hfa : mg "law" = some (.ref fa))
    {f0 : Addr} {od0 an0 : Option Addr} {sl0 : Array (Option Value)} {oc0 kV0 dc0 pm0 cd0 ct0 : Value}
    {f1 : Addr} {od1 an1 : Option Addr} {sl1 : Array (Option Value)} {oc1 kV1 dc1 pm1 cd1 ct1 : Value}
    {f2 : Addr} {od2 an2 : Option Addr} {sl2 : Array (Option Value)} {oc2 kV2 dc2 pm2 cd2 ct2 : Value}
    {f3 : Addr} {od3 an3 : Option Addr} {sl3 : Array (Option Value)} {oc3 kV3 dc3 pm3 cd3 ct3 : Value}
    {f4 : Addr} {od4 an4 : Option Addr} {sl4 : Array (Option Value)} {oc4 kV4 dc4 pm4 cd4 ct4 : Value}
    {f5 : Addr} {od5 an5 : Option Addr} {sl5 : Array (Option Value)} {oc5 kV5 dc5 pm5 cd5 ct5 : Value}
    {f6 : Addr} {od6 an6 : Option Addr} {sl6 : Array (Option Value)} {oc6 kV6 dc6 pm6 cd6 ct6 : Value}
    {f7 : Addr} {od7 an7 : Option Addr} {sl7 : Array (Option Value)} {oc7 kV7 dc7 pm7 cd7 ct7 : Value}
    {f8 : Addr} {od8 an8 : Option Addr} {sl8 : Array (Option Value)} {oc8 kV8 dc8 pm8 cd8 ct8 : Value}
    {f9 : Addr} {od9 an9 : Option Addr} {sl9 : Array (Option Value)} {oc9 kV9 dc9 pm9 cd9 ct9 : Value}
    {f10 : Addr} {od10 an10 : Option Addr} {sl10 : Array (Option Value)} {oc10 kV10 dc10 pm10 cd10 ct10 : Value}
    {f11 : Addr} {od11 an11 : Option Addr} {sl11 : Array (Option Value)} {oc11 kV11 dc11 pm11 cd11 ct11 : Value}
    {f12 : Addr} {od12 an12 : Option Addr} {sl12 : Array (Option Value)} {oc12 kV12 dc12 pm12 cd12 ct12 : Value}
    {f13 : Addr} {od13 an13 : Option Addr} {sl13 : Array (Option Value)} {oc13 kV13 dc13 pm13 cd13 ct13 : Value}
    {f14 : Addr} {od14 an14 : Option Addr} {sl14 : Array (Option Value)} {oc14 kV14 dc14 pm14 cd14 ct14 : Value}
    {f15 : Addr} {od15 an15 : Option Addr} {sl15 : Array (Option Value)} {oc15 kV15 dc15 pm15 cd15 ct15 : Value}
    {f16 : Addr} {od16 an16 : Option Addr} {sl16 : Array (Option Value)} {oc16 kV16 dc16 pm16 cd16 ct16 : Value}
    {f17 : Addr} {od17 an17 : Option Addr} {sl17 : Array (Option Value)} {oc17 kV17 dc17 pm17 cd17 ct17 : Value}
    {C_BadWord fi_BadWord cda_BadWord cc_BadWord : Addr} {B_BadWord_0 : Addr}
    {nm_BadWord q_BadWord : Str} {N_BadWord : Addr} {bs_BadWord : List Value} {sn_BadWord : List Str} {sub_BadWord : List Value} {ab_BadWord : Bool} {col_BadWord : Option Bool} {dd_BadWord : Option Addr} {m0_BadWord m1_BadWord m2_BadWord m3_BadWord m5_BadWord : Option Value}
    {odi_BadWord ani_BadWord odc_BadWord odd_BadWord : Option Addr} {sli_BadWord slc_BadWord sld_BadWord : Array (Option Value)} {oci_BadWord kVi_BadWord dci_BadWord pmi_BadWord cti_BadWord occ_BadWord ocd_BadWord : Value} {vs_BadWord : Array Value} {file_BadWord : Str} {tf_BadWord : Tok}
    (a0 : PySem.W.nsIn K mainGlobals "is_whole" = some (some (.ref f0))) (l0 : K.lookup f0 = some ⟨oc0, od0, .func (PySem.W.fnOf "is_whole" "is_whole" (defArgs s_is_whole) (defBody s_is_whole) (defScope s_is_whole) .none kV0 dc0 pm0 an0 cd0 ct0), sl0⟩) (c0 : PySem.W.codeIn K cd0 "is_whole" = true) (k0 : PySem.W.keepIn K (.ref f0) = true)
    (a1 : PySem.W.nsIn K mainGlobals "fits_at" = some (some (.ref f1))) (l1 : K.lookup f1 = some ⟨oc1, od1, .func (PySem.W.fnOf "fits_at" "fits_at" (defArgs s_fits_at) (defBody s_fits_at) (defScope s_fits_at) .none kV1 dc1 pm1 an1 cd1 ct1), sl1⟩) (c1 : PySem.W.codeIn K cd1 "fits_at" = true) (k1 : PySem.W.keepIn K (.ref f1) = true)
    (a2 : PySem.W.nsIn K mainGlobals "steps_from" = some (some (.ref f2))) (l2 : K.lookup f2 = some ⟨oc2, od2, .func (PySem.W.fnOf "steps_from" "steps_from" (defArgs s_steps_from) (defBody s_steps_from) (defScope s_steps_from) .none kV2 dc2 pm2 an2 cd2 ct2), sl2⟩) (c2 : PySem.W.codeIn K cd2 "steps_from" = true) (k2 : PySem.W.keepIn K (.ref f2) = true)
    (a3 : PySem.W.nsIn K mainGlobals "check_word" = some (some (.ref f3))) (l3 : K.lookup f3 = some ⟨oc3, od3, .func (PySem.W.fnOf "check_word" "check_word" (defArgs s_check_word) (defBody s_check_word) (defScope s_check_word) .none kV3 dc3 pm3 an3 cd3 ct3), sl3⟩) (c3 : PySem.W.codeIn K cd3 "check_word" = true) (k3 : PySem.W.keepIn K (.ref f3) = true)
    (a4 : PySem.W.nsIn K mainGlobals "stepped" = some (some (.ref f4))) (l4 : K.lookup f4 = some ⟨oc4, od4, .func (PySem.W.fnOf "stepped" "stepped" (defArgs s_stepped) (defBody s_stepped) (defScope s_stepped) .none kV4 dc4 pm4 an4 cd4 ct4), sl4⟩) (c4 : PySem.W.codeIn K cd4 "stepped" = true) (k4 : PySem.W.keepIn K (.ref f4) = true)
    (a5 : PySem.W.nsIn K mainGlobals "derived" = some (some (.ref f5))) (l5 : K.lookup f5 = some ⟨oc5, od5, .func (PySem.W.fnOf "derived" "derived" (defArgs s_derived) (defBody s_derived) (defScope s_derived) .none kV5 dc5 pm5 an5 cd5 ct5), sl5⟩) (c5 : PySem.W.codeIn K cd5 "derived" = true) (k5 : PySem.W.keepIn K (.ref f5) = true)
    (a6 : PySem.W.nsIn K mainGlobals "_law_numbers" = some (some (.ref f6))) (l6 : K.lookup f6 = some ⟨oc6, od6, .func (PySem.W.fnOf "_law_numbers" "_law_numbers" (defArgs s__law_numbers) (defBody s__law_numbers) (defScope s__law_numbers) .none kV6 dc6 pm6 an6 cd6 ct6), sl6⟩) (c6 : PySem.W.codeIn K cd6 "_law_numbers" = true) (k6 : PySem.W.keepIn K (.ref f6) = true)
    (a7 : PySem.W.nsIn K mainGlobals "_law_next" = some (some (.ref f7))) (l7 : K.lookup f7 = some ⟨oc7, od7, .func (PySem.W.fnOf "_law_next" "_law_next" (defArgs s__law_next) (defBody s__law_next) (defScope s__law_next) .none kV7 dc7 pm7 an7 cd7 ct7), sl7⟩) (c7 : PySem.W.codeIn K cd7 "_law_next" = true) (k7 : PySem.W.keepIn K (.ref f7) = true)
    (a8 : PySem.W.nsIn K mainGlobals "_law_same" = some (some (.ref f8))) (l8 : K.lookup f8 = some ⟨oc8, od8, .func (PySem.W.fnOf "_law_same" "_law_same" (defArgs s__law_same) (defBody s__law_same) (defScope s__law_same) .none kV8 dc8 pm8 an8 cd8 ct8), sl8⟩) (c8 : PySem.W.codeIn K cd8 "_law_same" = true) (k8 : PySem.W.keepIn K (.ref f8) = true)
    (a9 : PySem.W.nsIn K mainGlobals "_law_steps" = some (some (.ref f9))) (l9 : K.lookup f9 = some ⟨oc9, od9, .func (PySem.W.fnOf "_law_steps" "_law_steps" (defArgs s__law_steps) (defBody s__law_steps) (defScope s__law_steps) .none kV9 dc9 pm9 an9 cd9 ct9), sl9⟩) (c9 : PySem.W.codeIn K cd9 "_law_steps" = true) (k9 : PySem.W.keepIn K (.ref f9) = true)
    (a10 : PySem.W.nsIn K mainGlobals "_law_stepped" = some (some (.ref f10))) (l10 : K.lookup f10 = some ⟨oc10, od10, .func (PySem.W.fnOf "_law_stepped" "_law_stepped" (defArgs s__law_stepped) (defBody s__law_stepped) (defScope s__law_stepped) .none kV10 dc10 pm10 an10 cd10 ct10), sl10⟩) (c10 : PySem.W.codeIn K cd10 "_law_stepped" = true) (k10 : PySem.W.keepIn K (.ref f10) = true)
    (a11 : PySem.W.nsIn K mainGlobals "_law_part" = some (some (.ref f11))) (l11 : K.lookup f11 = some ⟨oc11, od11, .func (PySem.W.fnOf "_law_part" "_law_part" (defArgs s__law_part) (defBody s__law_part) (defScope s__law_part) .none kV11 dc11 pm11 an11 cd11 ct11), sl11⟩) (c11 : PySem.W.codeIn K cd11 "_law_part" = true) (k11 : PySem.W.keepIn K (.ref f11) = true)
    (a12 : PySem.W.nsIn K mainGlobals "_law_drawn" = some (some (.ref f12))) (l12 : K.lookup f12 = some ⟨oc12, od12, .func (PySem.W.fnOf "_law_drawn" "_law_drawn" (defArgs s__law_drawn) (defBody s__law_drawn) (defScope s__law_drawn) .none kV12 dc12 pm12 an12 cd12 ct12), sl12⟩) (c12 : PySem.W.codeIn K cd12 "_law_drawn" = true) (k12 : PySem.W.keepIn K (.ref f12) = true)
    (a13 : PySem.W.nsIn K mainGlobals "_law_fails" = some (some (.ref f13))) (l13 : K.lookup f13 = some ⟨oc13, od13, .func (PySem.W.fnOf "_law_fails" "_law_fails" (defArgs s__law_fails) (defBody s__law_fails) (defScope s__law_fails) .none kV13 dc13 pm13 an13 cd13 ct13), sl13⟩) (c13 : PySem.W.codeIn K cd13 "_law_fails" = true) (k13 : PySem.W.keepIn K (.ref f13) = true)
    (a14 : PySem.W.nsIn K mainGlobals "_law_refused" = some (some (.ref f14))) (l14 : K.lookup f14 = some ⟨oc14, od14, .func (PySem.W.fnOf "_law_refused" "_law_refused" (defArgs s__law_refused) (defBody s__law_refused) (defScope s__law_refused) .none kV14 dc14 pm14 an14 cd14 ct14), sl14⟩) (c14 : PySem.W.codeIn K cd14 "_law_refused" = true) (k14 : PySem.W.keepIn K (.ref f14) = true)
    (a15 : PySem.W.nsIn K mainGlobals "_law_impossible" = some (some (.ref f15))) (l15 : K.lookup f15 = some ⟨oc15, od15, .func (PySem.W.fnOf "_law_impossible" "_law_impossible" (defArgs s__law_impossible) (defBody s__law_impossible) (defScope s__law_impossible) .none kV15 dc15 pm15 an15 cd15 ct15), sl15⟩) (c15 : PySem.W.codeIn K cd15 "_law_impossible" = true) (k15 : PySem.W.keepIn K (.ref f15) = true)
    (a16 : PySem.W.nsIn K mainGlobals "_law_row" = some (some (.ref f16))) (l16 : K.lookup f16 = some ⟨oc16, od16, .func (PySem.W.fnOf "_law_row" "_law_row" (defArgs s__law_row) (defBody s__law_row) (defScope s__law_row) .none kV16 dc16 pm16 an16 cd16 ct16), sl16⟩) (c16 : PySem.W.codeIn K cd16 "_law_row" = true) (k16 : PySem.W.keepIn K (.ref f16) = true)
    (a17 : PySem.W.nsIn K mainGlobals "law" = some (some (.ref f17))) (l17 : K.lookup f17 = some ⟨oc17, od17, .func (PySem.W.fnOf "law" "law" (defArgs s_law) (defBody s_law) (defScope s_law) .none kV17 dc17 pm17 an17 cd17 ct17), sl17⟩) (c17 : PySem.W.codeIn K cd17 "law" = true) (k17 : PySem.W.keepIn K (.ref f17) = true)
    (aC_BadWord : PySem.W.nsIn K mainGlobals "BadWord" = some (some (.ref C_BadWord)))
    (xL_BadWord : K.lookup C_BadWord = some (excClassObj nm_BadWord q_BadWord C_BadWord N_BadWord bs_BadWord [.ref B_BadWord_0, .type "ValueError", .type "Exception", .type "BaseException", .type "object"] true sn_BadWord sub_BadWord ab_BadWord col_BadWord dd_BadWord m0_BadWord m1_BadWord m2_BadWord m3_BadWord m5_BadWord "ValueError.__new__"))
    (sa_BadWord : PySem.W.findIn K (.ref C_BadWord) "__setattr__" = some (some (.builtin "object.__setattr__")))
    (ga_BadWord : PySem.W.findIn K (.ref C_BadWord) "__getattribute__" = some (some (.builtin "BaseException.__getattribute__")))
    (gg_BadWord : PySem.W.findIn K (.ref C_BadWord) "__getattr__" = some none)
    (ii_BadWord : PySem.W.findIn K (.ref C_BadWord) "__init__" = some (some (.ref fi_BadWord)))
    (ti_BadWord : PySem.W.typeIn K (.ref fi_BadWord) = some (.type "function"))
    (li_BadWord : K.lookup fi_BadWord = some ⟨oci_BadWord, odi_BadWord, .func (PySem.W.ksFn "__init__" "BadWord.__init__" (defArgs s_BW) (defBody s_BW) (defScope s_BW) .none kVi_BadWord dci_BadWord pmi_BadWord ani_BadWord (.ref cda_BadWord) cti_BadWord cc_BadWord), sli_BadWord⟩)
    (ci_BadWord : PySem.W.codeIn K (.ref cda_BadWord) "BadWord.__init__" = true)
    (ld_BadWord : K.lookup cda_BadWord = some ⟨ocd_BadWord, odd_BadWord, .fields vs_BadWord, sld_BadWord⟩)
    (vd_BadWord : vs_BadWord[2]? = some (.str file_BadWord tf_BadWord))
    (fd_BadWord : ((P.main.file : Str) == file_BadWord) = true)
    (lc_BadWord : K.lookup cc_BadWord = some ⟨occ_BadWord, odc_BadWord, .cell (some (.ref C_BadWord)), slc_BadWord⟩)
    (kC_BadWord : PySem.W.keepIn K (.ref C_BadWord) = true)
    (eC_BadWord : PySem.W.subIn K (.ref C_BadWord) (.type "BaseException") = some true)
    (tC_BadWord : PySem.W.typeIn K (.ref C_BadWord) = some (.type "type"))
    (hC_BadWord : PySem.W.hasDictIn K C_BadWord = true)
    (iC_BadWord : PySem.W.isClsIn K C_BadWord = true)
    (sC_BadWord : PySem.W.subIn K (.ref C_BadWord) (.ref C_BadWord) = some true)
    (mr_BadWord : PySem.W.mroIn K C_BadWord (.ref C_BadWord) = some true)
    (su_BadWord : PySem.W.ks_superIn K C_BadWord C_BadWord "__init__" = some (some (.builtin "ValueError.__init__")))
    (iV_BadWord : PySem.W.subIn K (.ref C_BadWord) (.type "ValueError") = some true)
    (noindex_BadWord : PySem.W.findIn K (.ref C_BadWord) "index" = some none)
    (z_len : PySem.W.nsIn K mainGlobals "len" = some none)
    (z_isinstance : PySem.W.nsIn K mainGlobals "isinstance" = some none)
    (z_range : PySem.W.nsIn K mainGlobals "range" = some none)
    (z_enumerate : PySem.W.nsIn K mainGlobals "enumerate" = some none)
    (z_list : PySem.W.nsIn K mainGlobals "list" = some none)
    (z_tuple : PySem.W.nsIn K mainGlobals "tuple" = some none)
    (z_int : PySem.W.nsIn K mainGlobals "int" = some none)
    (z_str : PySem.W.nsIn K mainGlobals "str" = some none)
    (z_bool : PySem.W.nsIn K mainGlobals "bool" = some none)
    (z_super : PySem.W.nsIn K mainGlobals "super" = some none)
    (opq : PySem.W.nsIn K cStatics "thirdparty.any" = some none)
    (ptop : (P.main.scope.names.lookup ("super" : Str)).isSome = false)
    : ∃ fd : FuncData, (∀ (s : Shared) (v : Value), BindsTo s fd ⟨[v], []⟩ [("script", v)]) ∧ ∀ base : Heap, K.In base → base.Ns mainGlobals mg → FnOk P w K mg base CX0 8 fa fd ["script"] (spD K R_law) := by
  have e := hfa.symm.trans (PySem.W.mg_of X G a17)
  cases e
  have F0 := fun_mk (st := s_is_whole) l0 c0 k0
  have A_is_whole : FunAt K mg "is_whole" "is_whole" s_is_whole ["value"] := ⟨_, _, F0, PySem.W.mg_of X G a0, F0.binds (ps := ["value"]) fun _ _ _ _ _ _ us hl => match us, hl with | [_], _ => rfl⟩
  have F1 := fun_mk (st := s_fits_at) l1 c1 k1
  have A_fits_at : FunAt K mg "fits_at" "fits_at" s_fits_at ["word", "part", "place"] := ⟨_, _, F1, PySem.W.mg_of X G a1, F1.binds (ps := ["word", "part", "place"]) fun _ _ _ _ _ _ us hl => match us, hl with | [_, _, _], _ => rfl⟩
  have F2 := fun_mk (st := s_steps_from) l2 c2 k2
  have A_steps_from : FunAt K mg "steps_from" "steps_from" s_steps_from ["rules", "word"] := ⟨_, _, F2, PySem.W.mg_of X G a2, F2.binds (ps := ["rules", "word"]) fun _ _ _ _ _ _ us hl => match us, hl with | [_, _], _ => rfl⟩
  have F3 := fun_mk (st := s_check_word) l3 c3 k3
  have A_check_word : FunAt K mg "check_word" "check_word" s_check_word ["word"] := ⟨_, _, F3, PySem.W.mg_of X G a3, F3.binds (ps := ["word"]) fun _ _ _ _ _ _ us hl => match us, hl with | [_], _ => rfl⟩
  have F4 := fun_mk (st := s_stepped) l4 c4 k4
  have A_stepped : FunAt K mg "stepped" "stepped" s_stepped ["rules", "word", "step"] := ⟨_, _, F4, PySem.W.mg_of X G a4, F4.binds (ps := ["rules", "word", "step"]) fun _ _ _ _ _ _ us hl => match us, hl with | [_, _, _], _ => rfl⟩
  have F5 := fun_mk (st := s_derived) l5 c5 k5
  have A_derived : FunAt K mg "derived" "derived" s_derived ["rules", "word", "steps"] := ⟨_, _, F5, PySem.W.mg_of X G a5, F5.binds (ps := ["rules", "word", "steps"]) fun _ _ _ _ _ _ us hl => match us, hl with | [_, _, _], _ => rfl⟩
  have F6 := fun_mk (st := s__law_numbers) l6 c6 k6
  have A__law_numbers : FunAt K mg "_law_numbers" "_law_numbers" s__law_numbers ["script", "at", "count"] := ⟨_, _, F6, PySem.W.mg_of X G a6, F6.binds (ps := ["script", "at", "count"]) fun _ _ _ _ _ _ us hl => match us, hl with | [_, _, _], _ => rfl⟩
  have F7 := fun_mk (st := s__law_next) l7 c7 k7
  have A__law_next : FunAt K mg "_law_next" "_law_next" s__law_next ["pool", "at"] := ⟨_, _, F7, PySem.W.mg_of X G a7, F7.binds (ps := ["pool", "at"]) fun _ _ _ _ _ _ us hl => match us, hl with | [_, _], _ => rfl⟩
  have F8 := fun_mk (st := s__law_same) l8 c8 k8
  have A__law_same : FunAt K mg "_law_same" "_law_same" s__law_same ["told", "due"] := ⟨_, _, F8, PySem.W.mg_of X G a8, F8.binds (ps := ["told", "due"]) fun _ _ _ _ _ _ us hl => match us, hl with | [_, _], _ => rfl⟩
  have F9 := fun_mk (st := s__law_steps) l9 c9 k9
  have A__law_steps : FunAt K mg "_law_steps" "_law_steps" s__law_steps ["rules", "word"] := ⟨_, _, F9, PySem.W.mg_of X G a9, F9.binds (ps := ["rules", "word"]) fun _ _ _ _ _ _ us hl => match us, hl with | [_, _], _ => rfl⟩
  have F10 := fun_mk (st := s__law_stepped) l10 c10 k10
  have A__law_stepped : FunAt K mg "_law_stepped" "_law_stepped" s__law_stepped ["rules", "word", "step"] := ⟨_, _, F10, PySem.W.mg_of X G a10, F10.binds (ps := ["rules", "word", "step"]) fun _ _ _ _ _ _ us hl => match us, hl with | [_, _, _], _ => rfl⟩
  have F11 := fun_mk (st := s__law_part) l11 c11 k11
  have A__law_part : FunAt K mg "_law_part" "_law_part" s__law_part ["pool", "at", "size"] := ⟨_, _, F11, PySem.W.mg_of X G a11, F11.binds (ps := ["pool", "at", "size"]) fun _ _ _ _ _ _ us hl => match us, hl with | [_, _, _], _ => rfl⟩
  have F12 := fun_mk (st := s__law_drawn) l12 c12 k12
  have A__law_drawn : FunAt K mg "_law_drawn" "_law_drawn" s__law_drawn ["pool", "at"] := ⟨_, _, F12, PySem.W.mg_of X G a12, F12.binds (ps := ["pool", "at"]) fun _ _ _ _ _ _ us hl => match us, hl with | [_, _], _ => rfl⟩
  have F13 := fun_mk (st := s__law_fails) l13 c13 k13
  have A__law_fails : FunAt K mg "_law_fails" "_law_fails" s__law_fails ["word", "rules", "given", "steps"] := ⟨_, _, F13, PySem.W.mg_of X G a13, F13.binds (ps := ["word", "rules", "given", "steps"]) fun _ _ _ _ _ _ us hl => match us, hl with | [_, _, _, _], _ => rfl⟩
  have F14 := fun_mk (st := s__law_refused) l14 c14 k14
  have A__law_refused : FunAt K mg "_law_refused" "_law_refused" s__law_refused ["rules", "word", "pool", "at"] := ⟨_, _, F14, PySem.W.mg_of X G a14, F14.binds (ps := ["rules", "word", "pool", "at"]) fun _ _ _ _ _ _ us hl => match us, hl with | [_, _, _, _], _ => rfl⟩
  have F15 := fun_mk (st := s__law_impossible) l15 c15 k15
  have A__law_impossible : FunAt K mg "_law_impossible" "_law_impossible" s__law_impossible ["rules", "word", "pool", "at"] := ⟨_, _, F15, PySem.W.mg_of X G a15, F15.binds (ps := ["rules", "word", "pool", "at"]) fun _ _ _ _ _ _ us hl => match us, hl with | [_, _, _, _], _ => rfl⟩
  have F16 := fun_mk (st := s__law_row) l16 c16 k16
  have A__law_row : FunAt K mg "_law_row" "_law_row" s__law_row ["rules", "word", "pool", "at"] := ⟨_, _, F16, PySem.W.mg_of X G a16, F16.binds (ps := ["rules", "word", "pool", "at"]) fun _ _ _ _ _ _ us hl => match us, hl with | [_, _, _, _], _ => rfl⟩
  have F17 := fun_mk (st := s_law) l17 c17 k17
  have A_law : FunAt K mg "law" "law" s_law ["script"] := ⟨_, _, F17, PySem.W.mg_of X G a17, F17.binds (ps := ["script"]) fun _ _ _ _ _ _ us hl => match us, hl with | [_], _ => rfl⟩
  have ox_BadWord : OexC K C_BadWord := { cls := ⟨nm_BadWord, q_BadWord, N_BadWord, bs_BadWord, _, sn_BadWord, sub_BadWord, ab_BadWord, col_BadWord, dd_BadWord, m0_BadWord, m1_BadWord, m2_BadWord, m3_BadWord, m5_BadWord, xL_BadWord, by rfl⟩, sa := sa_BadWord, exC := eC_BadWord, tyC := tC_BadWord, kC := kC_BadWord }
  have sup_BadWord : SupC P K mg C_BadWord fi_BadWord "BadWord.__init__" s_BW _ := { ox := ox_BadWord, fn := ⟨_, _, _, _, _, _, _, _, _, _, _, rfl, li_BadWord, ci_BadWord, ⟨_, _, _, _, _, _, ld_BadWord, vd_BadWord, fd_BadWord⟩, ⟨_, _, _, lc_BadWord⟩⟩, ini := ii_BadWord, tyf := ti_BadWord, mro := mr_BadWord, sup := su_BadWord, inV := iV_BadWord, opq := opq, sno := PySem.W.mg_none_of X G z_super, top := ptop }
  have xf_BadWord : XfC K C_BadWord := ⟨ga_BadWord, gg_BadWord, eC_BadWord, hC_BadWord⟩
  have te_BadWord := exm_me eC_BadWord iC_BadWord tC_BadWord sC_BadWord
  have T : Glb mg := { m_len := PySem.W.mg_none_of X G z_len, m_isinstance := PySem.W.mg_none_of X G z_isinstance, m_range := PySem.W.mg_none_of X G z_range, m_enumerate := PySem.W.mg_none_of X G z_enumerate, m_list := PySem.W.mg_none_of X G z_list, m_tuple := PySem.W.mg_none_of X G z_tuple, m_int := PySem.W.mg_none_of X G z_int, m_str := PySem.W.mg_none_of X G z_str, m_bool := PySem.W.mg_none_of X G z_bool, m_super := PySem.W.mg_none_of X G z_super }
  let a : Adr := ⟨C_BadWord⟩
  refine ⟨PySem.W.fnOf "law" "law" (defArgs s_law) (defBody s_law) (defScope s_law) .none kV17 dc17 pm17 an17 cd17 ct17, fun s v => .of_eq rfl, fun base _ _ => ?_⟩
  have XE_BadWord : MakE P w K mg base 1 "BadWord" C_BadWord ok_BadWord mk_BadWord := ⟨fi_BadWord, _, ["self", "index"], ox_BadWord, ii_BadWord, ti_BadWord, init_BW (w := w) (base := base) sup_BadWord noindex_BadWord, PySem.W.mg_of X G aC_BadWord, .all fun us hl => match us, hl with | [_, _], _ => rfl⟩
  have XF_BadWord_index : XfOk K C_BadWord "index" := ⟨xf_BadWord, noindex_BadWord, te_BadWord⟩
  have C_is_whole := ok_is_whole (P := P) (w := w) (base := base) A_is_whole T
  have C_fits_at := ok_fits_at (P := P) (w := w) (base := base) A_fits_at T
  have C_check_word := ok_check_word (P := P) (w := w) (base := base) (a := a) A_check_word T XE_BadWord
  have C_steps_from := ok_steps_from (P := P) (w := w) (base := base) (a := a) A_steps_from T C_check_word C_fits_at
  have C_stepped := ok_stepped (P := P) (w := w) (base := base) (a := a) A_stepped T C_check_word C_is_whole C_fits_at
  have C_derived := ok_derived (P := P) (w := w) (base := base) (a := a) A_derived T C_check_word C_stepped XE_BadWord
  have C__law_numbers := ok__law_numbers (P := P) (w := w) (base := base) A__law_numbers T
  have C__law_next := ok__law_next (P := P) (w := w) (base := base) A__law_next T
  have C__law_same := ok__law_same (P := P) (w := w) (base := base) (n := 4) A__law_same T (ok__law_same (P := P) (w := w) (base := base) (n := 3) A__law_same T (ok__law_same (P := P) (w := w) (base := base) (n := 2) A__law_same T (ok__law_same (P := P) (w := w) (base := base) (n := 1) A__law_same T (ok__law_same (P := P) (w := w) (base := base) (n := 0) A__law_same T (same0 A__law_same)))))
  have C__law_steps := ok__law_steps (P := P) (w := w) (base := base) A__law_steps T
  have C__law_stepped := ok__law_stepped (P := P) (w := w) (base := base) A__law_stepped T
  have C__law_part := ok__law_part (P := P) (w := w) (base := base) A__law_part T C__law_next
  have C__law_drawn := ok__law_drawn (P := P) (w := w) (base := base) A__law_drawn T C__law_next C__law_part
  have C__law_fails := ok__law_fails (P := P) (w := w) (base := base) (a := a) A__law_fails T C_steps_from C_stepped C_derived XE_BadWord XF_BadWord_index
  have C__law_refused := ok__law_refused (P := P) (w := w) (base := base) (a := a) A__law_refused T C__law_next C__law_fails
  have C__law_impossible := ok__law_impossible (P := P) (w := w) (base := base) (a := a) A__law_impossible T C__law_steps C__law_same C__law_stepped C_stepped
  have C__law_row := ok__law_row (P := P) (w := w) (base := base) (a := a) A__law_row T C__law_next C__law_steps C__law_stepped C_derived C__law_same C__law_fails
  exact ok_law (a := a) F17 T C__law_numbers C__law_drawn C__law_part C__law_next C_steps_from C__law_same C__law_steps C__law_refused C__law_impossible C__law_row
end P9
end K64
open PySem PySem.W PyProof.Rows
set_option maxRecDepth 100000 in
set_option maxHeartbeats 0 in
theorem PySem.Challenge.cw_runsolved_k64_steps_of_any_rules_holds : PySem.Challenge.rw_runsolved_k64_steps_of_any_rules.Holds := by
  w_on; o_law; k_head; (case hw => w_witness2)
  k_fill
  refine L2.walk_of (l := PySem.Challenge.rw_runsolved_k64_steps_of_any_rules) (n := 63) (k := 8) (x := "script") (CX := fun _ => L2.CX0) (sp := fun w => DA.spD _ K64.R_law) rfl (by decide) rfl ⟨rfl, by decide, by decide⟩ (fun w h Y => PySem.W.kIn_of Y) ?F (fun _ H a ns hl _ hS => K64.start_ok hl hS) (fun _ _ _ _ _ h => h)
  case F =>
    intro w mg fa h KX G hmg
    refine' K64.all_mk KX G hmg ?a0 ?l0 ?c0 ?k0 ?a1 ?l1 ?c1 ?k1 ?a2 ?l2 ?c2 ?k2 ?a3 ?l3 ?c3 ?k3 ?a4 ?l4 ?c4 ?k4 ?a5 ?l5 ?c5 ?k5 ?a6 ?l6 ?c6 ?k6 ?a7 ?l7 ?c7 ?k7 ?a8 ?l8 ?c8 ?k8 ?a9 ?l9 ?c9 ?k9 ?a10 ?l10 ?c10 ?k10 ?a11 ?l11 ?c11 ?k11 ?a12 ?l12 ?c12 ?k12 ?a13 ?l13 ?c13 ?k13 ?a14 ?l14 ?c14 ?k14 ?a15 ?l15 ?c15 ?k15 ?a16 ?l16 ?c16 ?k16 ?a17 ?l17 ?c17 ?k17 ?aC_BadWord ?xL_BadWord ?sa_BadWord ?ga_BadWord ?gg_BadWord ?ii_BadWord ?ti_BadWord ?li_BadWord ?ci_BadWord ?ld_BadWord ?vd_BadWord ?fd_BadWord ?lc_BadWord ?kC_BadWord ?eC_BadWord ?tC_BadWord ?hC_BadWord ?iC_BadWord ?sC_BadWord ?mr_BadWord ?su_BadWord ?iV_BadWord ?noindex_BadWord ?z_len ?z_isinstance ?z_range ?z_enumerate ?z_list ?z_tuple ?z_int ?z_str ?z_bool ?z_super ?opq ?ptop
    (case a0 => k_is)
    (case l0 => k_is)
    (case c0 => k_is)
    (case k0 => k_is)
    (case a1 => k_is)
    (case l1 => k_is)
    (case c1 => k_is)
    (case k1 => k_is)
    (case a2 => k_is)
    (case l2 => k_is)
    (case c2 => k_is)
    (case k2 => k_is)
    (case a3 => k_is)
    (case l3 => k_is)
    (case c3 => k_is)
    (case k3 => k_is)
    (case a4 => k_is)
    (case l4 => k_is)
    (case c4 => k_is)
    (case k4 => k_is)
    (case a5 => k_is)
    (case l5 => k_is)
    (case c5 => k_is)
    (case k5 => k_is)
    (case a6 => k_is)
    (case l6 => k_is)
    (case c6 => k_is)
    (case k6 => k_is)
    (case a7 => k_is)
    (case l7 => k_is)
    (case c7 => k_is)
    (case k7 => k_is)
    (case a8 => k_is)
    (case l8 => k_is)
    (case c8 => k_is)
    (case k8 => k_is)
    (case a9 => k_is)
    (case l9 => k_is)
    (case c9 => k_is)
    (case k9 => k_is)
    (case a10 => k_is)
    (case l10 => k_is)
    (case c10 => k_is)
    (case k10 => k_is)
    (case a11 => k_is)
    (case l11 => k_is)
    (case c11 => k_is)
    (case k11 => k_is)
    (case a12 => k_is)
    (case l12 => k_is)
    (case c12 => k_is)
    (case k12 => k_is)
    (case a13 => k_is)
    (case l13 => k_is)
    (case c13 => k_is)
    (case k13 => k_is)
    (case a14 => k_is)
    (case l14 => k_is)
    (case c14 => k_is)
    (case k14 => k_is)
    (case a15 => k_is)
    (case l15 => k_is)
    (case c15 => k_is)
    (case k15 => k_is)
    (case a16 => k_is)
    (case l16 => k_is)
    (case c16 => k_is)
    (case k16 => k_is)
    (case a17 => k_is)
    (case l17 => k_is)
    (case c17 => k_is)
    (case k17 => k_is)
    (case aC_BadWord => k_is)
    (case xL_BadWord => k_is)
    (case sa_BadWord => k_is)
    (case ga_BadWord => k_is)
    (case gg_BadWord => k_is)
    (case ii_BadWord => k_is)
    (case ti_BadWord => k_is)
    (case li_BadWord => k_is)
    (case ci_BadWord => k_is)
    (case ld_BadWord => k_is)
    (case vd_BadWord => exact rfl)
    (case fd_BadWord => decide +kernel)
    (case lc_BadWord => k_is)
    (case kC_BadWord => k_is)
    (case eC_BadWord => k_is)
    (case tC_BadWord => k_is)
    (case hC_BadWord => k_is)
    (case iC_BadWord => k_is)
    (case sC_BadWord => first | rfl | k_is)
    (case mr_BadWord => k_is)
    (case su_BadWord => ks_is)
    (case iV_BadWord => k_is)
    (case noindex_BadWord => k_is)
    (case z_len => k_is)
    (case z_isinstance => k_is)
    (case z_range => k_is)
    (case z_enumerate => k_is)
    (case z_list => k_is)
    (case z_tuple => k_is)
    (case z_int => k_is)
    (case z_str => k_is)
    (case z_bool => k_is)
    (case z_super => k_is)
    (case opq => k_is)
    (case ptop => decide +kernel)
