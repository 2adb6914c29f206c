import PyProof.Rows.All
import Wide.All
import OpenK.AllK
import Wide.FinOn
import KE.KStateDown
import HandS.ForMost
import HandS.Flow
import HandS.Walk
import HandS.Zip
import HandS.Star
import HandS.Defaults
import HandS.DictComp
import HandS.TupAny
import HandS.FStr
import HandS.IsInst
import HandS.More
import HandS.Style
import HandS.Exc
import HandS.TryMany
import HandS.ExcInit
import HandS.ExcIs
import HandS.Wide
import HandS.WordsExc
import HandS.Head0
import HandS.Head1
import HandS.Head2
import HandS.HeadEnd
import HandS.HeadHook1
import HandS.HeadHook2
import HandS.HeadHook3
import KE.KExcSuper
import KE.KDictKeyed
import KE.GoesMore
import KE.KeyNested
import HandS.MakeKwOnly
import HandS.ExcField
import KE.KExcIs
import HandS.NestedK
import HandS.ClsMeth
import HandS.CallSlots
import PyProof.StrLawsIn
import PySem.Challenge.RW_wirewatch_k95_whole_flat_and_rewritten
set_option Elab.async false
set_option linter.all false
set_option maxHeartbeats 200000
set_option maxRecDepth 512
/-! M1: nets, what is sound, valuations, runs (plain Lean) -/
namespace Wi
abbrev S := PySem.Str

inductive Op where
  | zero | one | buf | not | and | or | xor | mux
  deriving DecidableEq
def Op.ar : Op → Nat
  | .zero => 0
  | .one => 0
  | .buf => 1
  | .not => 1
  | .and => 2
  | .or => 2
  | .xor => 2
  | .mux => 3
def Op.ev : Op → List Bool → Bool
  | .zero, _ => false
  | .one, _ => true
  | .buf, [a] => a
  | .not, [a] => !a
  | .and, [a, b] => a && b
  | .or, [a, b] => a || b
  | .xor, [a, b] => a != b
  | .mux, [s, a, b] => if s then b else a
  | _, _ => false

structure Gate where
  w : S
  op : Op
  args : List S
  deriving DecidableEq
structure Reg where
  w : S
  fi : Bool
  src : S
  deriving DecidableEq
structure Net where
  ins : List S
  gates : List Gate
  regs : List Reg
  outs : List S
def Net.gw (n : Net) : List S := n.gates.map (·.w)
def Net.rw (n : Net) : List S := n.regs.map (·.w)
def Net.decl (n : Net) : List S := n.ins ++ n.gw ++ n.rw
def Net.gate? (n : Net) (x : S) : Option Gate := n.gates.find? fun g => decide (g.w = x)

/-! ### texts -/
def az (c : Nat) : Bool := decide (97 ≤ c) && decide (c ≤ 122)
def dg (c : Nat) : Bool := decide (48 ≤ c) && decide (c ≤ 57)
def isName (x : S) : Bool := match x.cps.toList with
  | [] => false
  | c :: r => az c && r.all (fun d => az d || dg d) && decide (r.length < 8)
/-- the text of names joined by single dots -/
def dotted (l : List S) : S := PySem.Str.join (PySem.Str.ofString ".") l
def Wire (x : S) : Prop := ∃ l : List S, l ≠ [] ∧ l.length ≤ 100 ∧ (∀ y ∈ l, isName y = true) ∧ x = dotted l

structure Sound (n : Net) : Prop where
  nd : n.decl.Nodup
  wire : ∀ x ∈ n.decl, Wire x
  ar : ∀ g ∈ n.gates, g.args.length = g.op.ar
  args : ∀ g ∈ n.gates, ∀ a ∈ g.args, a ∈ n.decl
  src : ∀ r ∈ n.regs, r.src ∈ n.decl
  outs : ∀ o ∈ n.outs, o ∈ n.decl
  ond : n.outs.Nodup
  acyc : ∃ rk : S → Nat, ∀ g ∈ n.gates, ∀ a ∈ g.args, rk a < rk g.w

theorem Sound.gnd {n : Net} (h : Sound n) : n.gw.Nodup := by
  have h1 := h.nd
  unfold Net.decl at h1
  exact (List.nodup_append.mp (List.nodup_append.mp h1).1).2.1
theorem Sound.ind {n : Net} (h : Sound n) : n.ins.Nodup := by
  have h1 := h.nd
  unfold Net.decl at h1
  exact (List.nodup_append.mp (List.nodup_append.mp h1).1).1
theorem Sound.rnd {n : Net} (h : Sound n) : n.rw.Nodup := by
  have h1 := h.nd
  unfold Net.decl at h1
  exact (List.nodup_append.mp h1).2.1
theorem Sound.ig {n : Net} (h : Sound n) {x : S} (a : x ∈ n.ins) (b : x ∈ n.gw) : False := by
  have h1 := h.nd
  unfold Net.decl at h1
  exact (List.nodup_append.mp (List.nodup_append.mp h1).1).2.2 x a x b rfl
theorem Sound.gr {n : Net} (h : Sound n) {x : S} (a : x ∈ n.gw) (b : x ∈ n.rw) : False := by
  have h1 := h.nd
  unfold Net.decl at h1
  exact (List.nodup_append.mp h1).2.2 x (List.mem_append_right _ a) x b rfl
theorem Sound.ir {n : Net} (h : Sound n) {x : S} (a : x ∈ n.ins) (b : x ∈ n.rw) : False := by
  have h1 := h.nd
  unfold Net.decl at h1
  exact (List.nodup_append.mp h1).2.2 x (List.mem_append_left _ a) x b rfl

/-- a list of things with unlike names: who bears the name -/
theorem find_nd {α : Type} {f : α → S} : ∀ {l : List α} {a : α}, (l.map f).Nodup → a ∈ l → l.find? (fun b => decide (f b = f a)) = some a
  | [], _, _, h => nomatch h
  | b :: r, a, nd, h => by
    have nd' : (f b :: r.map f).Nodup := nd
    obtain ⟨h1, h2⟩ := List.nodup_cons.mp nd'
    rcases List.mem_cons.mp h with e | h
    · subst e
      simp
    · have ne : ¬ f b = f a := fun e => h1 (e ▸ List.mem_map_of_mem h)
      rw [List.find?_cons, decide_eq_false ne]
      exact find_nd h2 h
theorem gate?_of {n : Net} (nd : n.gw.Nodup) {g : Gate} (h : g ∈ n.gates) : n.gate? g.w = some g := find_nd (f := fun g : Gate => g.w) nd h
theorem gate?_some {n : Net} {x : S} {g : Gate} (h : n.gate? x = some g) : g ∈ n.gates ∧ g.w = x := by
  unfold Net.gate? at h
  have h1 := List.mem_of_find?_eq_some h
  have h2 := List.find?_some h
  exact ⟨h1, of_decide_eq_true h2⟩
theorem gate?_none {n : Net} {x : S} (h : n.gate? x = none) : x ∉ n.gw := fun m => by
  obtain ⟨g, hg, e⟩ := List.mem_map.mp m
  unfold Net.gate? at h
  have := List.find?_eq_none.mp h g hg
  exact this (by simp [e])
theorem gate?_not {n : Net} {x : S} (h : x ∉ n.gw) : n.gate? x = none := by
  cases e : n.gate? x with
  | none => rfl
  | some g =>
    obtain ⟨h1, h2⟩ := gate?_some e
    exact absurd (List.mem_map.mpr ⟨g, h1, h2⟩) h

/-! ### valuations -/
def IsVal (n : Net) (ρ : S → Bool) : Prop := ∀ g ∈ n.gates, ρ g.w = g.op.ev (g.args.map ρ)
def Good (n : Net) (row st : List Bool) (ρ : S → Bool) : Prop := IsVal n ρ ∧ n.ins.map ρ = row ∧ n.rw.map ρ = st

theorem val_unique {n : Net} (hs : Sound n) {ρ σ : S → Bool} (h1 : IsVal n ρ) (h2 : IsVal n σ) (hi : ∀ x ∈ n.ins, ρ x = σ x) (hr : ∀ x ∈ n.rw, ρ x = σ x) : ∀ x ∈ n.decl, ρ x = σ x := by
  obtain ⟨rk, hk⟩ := hs.acyc
  have key : ∀ (k : Nat) (x : S), rk x < k → x ∈ n.decl → ρ x = σ x := by
    intro k
    induction k with
    | zero => intro x h; exact absurd h (Nat.not_lt_zero _)
    | succ k ih =>
      intro x hx hd
      rcases List.mem_append.mp hd with hd | hd
      · rcases List.mem_append.mp hd with hd | hd
        · exact hi x hd
        · obtain ⟨g, hg, e⟩ := List.mem_map.mp hd
          subst e
          rw [h1 g hg, h2 g hg]
          congr 1
          refine List.map_congr_left fun a ha => ih a ?_ (hs.args g hg a ha)
          have := hk g hg a ha
          omega
      · exact hr x hd
  exact fun x hx => key (rk x + 1) x (Nat.lt_succ_self _) hx

theorem map_eq_at {α β : Type} {f g : α → β} {l : List α} (h : l.map f = l.map g) : ∀ x ∈ l, f x = g x := by
  induction l with
  | nil => intro x hx; exact nomatch hx
  | cons a r ih =>
    have h' : f a :: r.map f = g a :: r.map g := h
    injection h' with e1 e2
    intro x hx
    rcases List.mem_cons.mp hx with e | hx
    · subst e; exact e1
    · exact ih e2 x hx
theorem good_unique {n : Net} (hs : Sound n) {row st : List Bool} {ρ σ : S → Bool} (h1 : Good n row st ρ) (h2 : Good n row st σ) : ∀ x ∈ n.decl, ρ x = σ x :=
  val_unique hs h1.1 h2.1 (map_eq_at (h1.2.1.trans h2.2.1.symm)) (map_eq_at (h1.2.2.trans h2.2.2.symm))

def evF (n : Net) (base : S → Bool) : Nat → S → Bool
  | 0, x => base x
  | k + 1, x => match n.gate? x with
    | none => base x
    | some g => g.op.ev (g.args.map (evF n base k))
theorem evF_stab {n : Net} {base : S → Bool} {rk : S → Nat} (hk : ∀ g ∈ n.gates, ∀ a ∈ g.args, rk a < rk g.w) : ∀ (k j : Nat) (x : S), rk x < k → rk x < j → evF n base k x = evF n base j x := by
  intro k
  induction k with
  | zero => intro j x h; exact absurd h (Nat.not_lt_zero _)
  | succ k ih =>
    intro j x h1 h2
    cases j with
    | zero => exact absurd h2 (Nat.not_lt_zero _)
    | succ j =>
      unfold evF
      cases e : n.gate? x with
      | none => rfl
      | some g =>
        obtain ⟨hg, ew⟩ := gate?_some e
        show g.op.ev (g.args.map (evF n base k)) = g.op.ev (g.args.map (evF n base j))
        congr 1
        refine List.map_congr_left fun a ha => ih j a ?_ ?_
        · have := hk g hg a ha
          rw [ew] at this
          omega
        · have := hk g hg a ha
          rw [ew] at this
          omega
theorem val_exists {n : Net} (hs : Sound n) (base : S → Bool) : ∃ ρ, IsVal n ρ ∧ ∀ x, x ∉ n.gw → ρ x = base x := by
  obtain ⟨rk, hk⟩ := hs.acyc
  refine ⟨fun x => evF n base (rk x + 1) x, fun g hg => ?_, fun x hx => ?_⟩
  · show evF n base (rk g.w + 1) g.w = _
    unfold evF
    rw [gate?_of hs.gnd hg]
    show g.op.ev (g.args.map (evF n base (rk g.w))) = _
    congr 1
    exact List.map_congr_left fun a ha => evF_stab hk _ _ _ (hk g hg a ha) (Nat.lt_succ_self _)
  · show evF n base (rk x + 1) x = _
    unfold evF
    rw [gate?_not hx]

/-- the bits of a list by the names of another -/
def atB : List S → List Bool → S → Bool
  | x :: xs, b :: bs, y => if x = y then b else atB xs bs y
  | _, _, _ => false
theorem atB_map : ∀ {xs : List S} {bs : List Bool}, xs.Nodup → xs.length = bs.length → xs.map (atB xs bs) = bs
  | [], [], _, _ => rfl
  | [], _ :: _, _, h => by simp at h
  | _ :: _, [], _, h => by simp at h
  | x :: xs, b :: bs, nd, h => by
    obtain ⟨h1, h2⟩ := List.nodup_cons.mp nd
    have ih := atB_map (xs := xs) (bs := bs) h2 (by simpa using h)
    show (if x = x then b else atB xs bs x) :: xs.map (fun y => if x = y then b else atB xs bs y) = b :: bs
    rw [if_pos rfl]
    congr 1
    refine Eq.trans (List.map_congr_left fun y hy => ?_) ih
    rw [if_neg]
    intro e
    subst e
    exact h1 hy
theorem good_exists {n : Net} (hs : Sound n) {row st : List Bool} (h1 : row.length = n.ins.length) (h2 : st.length = n.regs.length) : ∃ ρ, Good n row st ρ := by
  obtain ⟨ρ, hv, hb⟩ := val_exists hs fun x => if x ∈ n.ins then atB n.ins row x else atB n.rw st x
  refine ⟨ρ, hv, ?_, ?_⟩
  · refine Eq.trans (List.map_congr_left fun x hx => ?_) (atB_map hs.ind h1.symm)
    rw [hb x fun z => hs.ig hx z, if_pos hx]
  · refine Eq.trans (List.map_congr_left fun x hx => ?_) (atB_map hs.rnd (by rw [Net.rw, List.length_map]; exact h2.symm))
    rw [hb x fun z => hs.gr z hx, if_neg fun z => hs.ir z hx]

/-! ### runs -/
def RunR (n : Net) : List Bool → List (List Bool) → List (List Bool) → Prop
  | _, [], os => os = []
  | st, r :: rs, os => ∃ ρ os', Good n r st ρ ∧ os = n.outs.map ρ :: os' ∧ RunR n (n.regs.map fun g => ρ g.src) rs os'
theorem run_unique {n : Net} (hs : Sound n) : ∀ {rows : List (List Bool)} {st : List Bool} {a b : List (List Bool)}, RunR n st rows a → RunR n st rows b → a = b
  | [], _, _, _, h1, h2 => Eq.trans h1 (Eq.symm h2)
  | r :: rs, st, a, b, ⟨ρ, a', g1, e1, t1⟩, ⟨σ, b', g2, e2, t2⟩ => by
    have u := good_unique hs g1 g2
    have eo : n.outs.map ρ = n.outs.map σ := List.map_congr_left fun x hx => u x (hs.outs x hx)
    have er : (n.regs.map fun g => ρ g.src) = n.regs.map fun g => σ g.src := List.map_congr_left fun g hg => u _ (hs.src g hg)
    rw [er] at t1
    rw [e1, e2, eo, run_unique hs t1 t2]
structure Refi (n m : Net) : Prop where
  ins : m.ins = n.ins
  outs : m.outs = n.outs
  regs : m.regs.map (fun r => (r.w, r.fi)) = n.regs.map (fun r => (r.w, r.fi))
  val : ∀ ρ, IsVal n ρ → IsVal m ρ
  src : ∀ ρ, IsVal n ρ → (m.regs.map fun r => ρ r.src) = n.regs.map fun r => ρ r.src
theorem Refi.refl (n : Net) : Refi n n := ⟨rfl, rfl, rfl, fun _ h => h, fun _ _ => rfl⟩
theorem Refi.trans {a b c : Net} (h : Refi a b) (k : Refi b c) : Refi a c :=
  ⟨k.ins.trans h.ins, k.outs.trans h.outs, k.regs.trans h.regs, fun ρ x => k.val ρ (h.val ρ x), fun ρ x => (k.src ρ (h.val ρ x)).trans (h.src ρ x)⟩
theorem Refi.rw {n m : Net} (h : Refi n m) : m.rw = n.rw := by
  have := congrArg (List.map (·.1)) h.regs
  rw [List.map_map, List.map_map] at this
  exact this
theorem Refi.firsts {n m : Net} (h : Refi n m) : m.regs.map (·.fi) = n.regs.map (·.fi) := by
  have := congrArg (List.map (·.2)) h.regs
  rw [List.map_map, List.map_map] at this
  exact this
theorem run_refi {n m : Net} (h : Refi n m) : ∀ {rows : List (List Bool)} {st : List Bool} {os : List (List Bool)}, RunR n st rows os → RunR m st rows os
  | [], _, _, r => r
  | r :: rs, st, os, ⟨ρ, os', g, e, t⟩ => by
    refine ⟨ρ, os', ⟨h.val ρ g.1, by rw [h.ins]; exact g.2.1, by rw [h.rw]; exact g.2.2⟩, by rw [h.outs]; exact e, ?_⟩
    rw [h.src ρ g.1]
    exact run_refi h t
theorem run_exists {n : Net} (hs : Sound n) : ∀ (rows : List (List Bool)) (st : List Bool), (∀ r ∈ rows, r.length = n.ins.length) → st.length = n.regs.length → ∃ os, RunR n st rows os
  | [], _, _, _ => ⟨[], rfl⟩
  | r :: rs, st, h1, h2 => by
    obtain ⟨ρ, g⟩ := good_exists hs (h1 r List.mem_cons_self) h2
    obtain ⟨os, h⟩ := run_exists hs rs (n.regs.map fun g => ρ g.src) (fun q hq => h1 q (List.mem_cons_of_mem _ hq)) (by simp)
    exact ⟨_, ρ, os, g, rfl, h⟩
end Wi
set_option maxHeartbeats 200000
set_option maxRecDepth 512
/-! M2: the steps of rewriting, as functions; they keep what is sound and what is computed (plain Lean) -/
namespace Wi
open PySem
inductive Rule where
  | skip | fold | pass | turn | thin | double | share | swap | drop
  deriving DecidableEq
def rules : List Rule := [.skip, .fold, .pass, .turn, .thin, .double, .share, .swap, .drop]
def Op.con (o : Op) : Bool := match o with
  | .zero => true
  | .one => true
  | _ => false
def Net.hasOp (n : Net) (x : S) (o : Op) : Bool := match n.gate? x with
  | some g => decide (g.op = o)
  | none => false
def Net.isCon (n : Net) (x : S) : Bool := match n.gate? x with
  | some g => g.op.con
  | none => false
def Net.plain (n : Net) (args : List S) : Bool := decide args.Nodup && args.all fun a => !n.isCon a
def Net.freeF (n : Net) (acc : List S) (a : S) : List S := if a ∈ acc ∨ n.isCon a = true then acc else acc ++ [a]
def Net.free (n : Net) (args : List S) : List S := args.foldl n.freeF []
def fullT (k : Nat) : Int := 2 ^ (2 ^ k) - 1
def inPat (i : Nat) (full : Int) : Int := full / (2 ^ (2 ^ i) + 1) * 2 ^ (2 ^ i)
def opV (o : Op) (as : List Int) (full : Int) : Int := match o, as with
  | .zero, _ => 0
  | .one, _ => full
  | .buf, [a] => a
  | .not, [a] => Builtin.bitXor full a
  | .and, [a, b] => Builtin.bitAnd a b
  | .or, [a, b] => Builtin.bitOr a b
  | .xor, [a, b] => Builtin.bitXor a b
  | .mux, [s, a, b] => Builtin.bitOr (Builtin.bitAnd a (Builtin.bitXor full s)) (Builtin.bitAnd b s)
  | _, _ => 0
def Net.argV (n : Net) (f : List S) (full : Int) (a : S) : Int := if a ∈ f then inPat (f.idxOf a) full else if n.hasOp a .one = true then full else 0
def Net.locV (n : Net) (g : Gate) : Int := opV g.op (g.args.map (n.argV (n.free g.args) (fullT (n.free g.args).length))) (fullT (n.free g.args).length)
/-- the first free wire whose table is v, from the place at on -/
def copiedF (w : S) (o : Op) (v full : Int) : Nat → List S → Option Gate
  | _, [] => none
  | i, x :: r => if v = inPat i full then some ⟨w, o, [x]⟩ else copiedF w o v full (i + 1) r
def Net.tableStep (n : Net) (r : Rule) (g : Gate) : Option Gate :=
  if g.op.con = true ∨ n.plain g.args = true then none
  else match r with
    | .fold => if n.locV g = 0 then some ⟨g.w, .zero, []⟩ else if n.locV g = fullT (n.free g.args).length then some ⟨g.w, .one, []⟩ else none
    | .pass => if g.op = .buf then none else copiedF g.w .buf (n.locV g) (fullT (n.free g.args).length) 0 (n.free g.args)
    | .turn => if g.op = .not then none else copiedF g.w .not (Builtin.bitXor (fullT (n.free g.args).length) (n.locV g)) (fullT (n.free g.args).length) 0 (n.free g.args)
    | _ => if g.op ≠ .mux ∨ (n.free g.args).length ≠ 2 then none else if n.locV g = 8 then some ⟨g.w, .and, n.free g.args⟩ else if n.locV g = 14 then some ⟨g.w, .or, n.free g.args⟩ else none
def Net.skipped (n : Net) (x : S) : S := match n.gate? x with
  | some g => if g.op = .buf then g.args.headD x else x
  | none => x
def Net.firstOf (n : Net) (o : Op) (args : List S) : Option S := (n.gates.find? fun g => decide (g.op = o ∧ g.args = args)).map (·.w)
def ltS (a b : S) : Bool := decide (a.cps.toList < b.cps.toList)
def Op.sym (o : Op) : Bool := match o with
  | .and => true
  | .or => true
  | .xor => true
  | _ => false
def Net.linkStep (n : Net) (r : Rule) (g : Gate) : Option Gate := match r with
  | .skip => if g.args.map n.skipped ≠ g.args then some ⟨g.w, g.op, g.args.map n.skipped⟩ else none
  | .double => match g.op, g.args with
    | .not, [a] => (match n.gate? a with
      | some h => if h.op = .not then some ⟨g.w, .buf, h.args⟩ else none
      | none => none)
    | _, _ => none
  | .share => match n.firstOf g.op g.args with
    | some f => if g.op = .buf ∨ g.op.con = true ∨ f = g.w then none else some ⟨g.w, .buf, [f]⟩
    | none => none
  | _ => match g.args with
    | [a, b] => if g.op.sym = true ∧ ltS b a = true then some ⟨g.w, g.op, [b, a]⟩ else none
    | _ => none
def Net.usedL (n : Net) : List S := n.gates.flatMap (·.args) ++ n.regs.map (·.src) ++ n.outs
def Net.gateAfter (n : Net) (r : Rule) (g : Gate) : Option (List Gate) := match r with
  | .drop => if g.w ∈ n.usedL then none else some []
  | .fold => (n.tableStep .fold g).map fun h => [h]
  | .pass => (n.tableStep .pass g).map fun h => [h]
  | .turn => (n.tableStep .turn g).map fun h => [h]
  | .thin => (n.tableStep .thin g).map fun h => [h]
  | .skip => (n.linkStep .skip g).map fun h => [h]
  | .double => (n.linkStep .double g).map fun h => [h]
  | .share => (n.linkStep .share g).map fun h => [h]
  | .swap => (n.linkStep .swap g).map fun h => [h]
def Net.regAfter (n : Net) (r : Reg) : Option Reg := if n.hasOp r.src .buf = true then some ⟨r.w, r.fi, n.skipped r.src⟩ else none
def Net.stepsAt (n : Net) (g : Gate) : Option Rule := rules.find? fun r => (n.gateAfter r g).isSome
def firstG (n : Net) : List Gate → Option (Rule × S)
  | [] => none
  | g :: gs => match n.stepsAt g with
    | some r => some (r, g.w)
    | none => firstG n gs
def firstR (n : Net) : List Reg → Option (Rule × S)
  | [] => none
  | r :: rs => match n.regAfter r with
    | some _ => some (.skip, r.w)
    | none => firstR n rs
def Net.firstStep (n : Net) : Option (Rule × S) := match firstG n n.gates with
  | some s => some s
  | none => firstR n n.regs
def putG (gs : List Gate) (w : S) (l : List Gate) : List Gate := gs.flatMap fun h => if h.w = w then l else [h]
def putR (rs : List Reg) (w : S) (r : Reg) : List Reg := rs.map fun h => if h.w = w then r else h
def Net.after (n : Net) (s : Rule × S) : Option Net := match n.gate? s.2 with
  | some g => (n.gateAfter s.1 g).map fun l => ⟨n.ins, putG n.gates s.2 l, n.regs, n.outs⟩
  | none => match n.regs.find? fun r => decide (r.w = s.2) with
    | some r => if s.1 = .skip then (n.regAfter r).map fun q => ⟨n.ins, n.gates, putR n.regs s.2 q, n.outs⟩ else none
    | none => none

/-! ### the tables, by looking at all -/
inductive Cl where
  | c0 | c1 | f0 | f1 | f2
  deriving DecidableEq
def Cl.ix : Cl → Nat
  | .f1 => 1
  | .f2 => 2
  | _ => 0
def Cl.int (full : Int) : Cl → Int
  | .c0 => 0
  | .c1 => full
  | .f0 => inPat 0 full
  | .f1 => inPat 1 full
  | .f2 => inPat 2 full
def Cl.bit (s : Bool × Bool × Bool) : Cl → Bool
  | .c0 => false
  | .c1 => true
  | .f0 => s.1
  | .f1 => s.2.1
  | .f2 => s.2.2
def Cl.ok (k : Nat) : Cl → Bool
  | .c0 => true
  | .c1 => true
  | .f0 => decide (0 < k)
  | .f1 => decide (1 < k)
  | .f2 => decide (2 < k)
def b2n (b : Bool) : Nat := if b then 1 else 0
def rowN (k : Nat) (s : Bool × Bool × Bool) : Nat := (if 0 < k then b2n s.1 else 0) + (if 1 < k then 2 * b2n s.2.1 else 0) + (if 2 < k then 4 * b2n s.2.2 else 0)
def bitN (v : Int) (i : Nat) : Bool := v / 2 ^ i % 2 == 1
def allB : List Bool := [false, true]
def allS : List (Bool × Bool × Bool) := allB.flatMap fun a => allB.flatMap fun b => allB.map fun c => (a, b, c)
def allC : List Cl := [.c0, .c1, .f0, .f1, .f2]
def allO : List Op := [.zero, .one, .buf, .not, .and, .or, .xor, .mux]
def allK : List Nat := [0, 1, 2, 3]
def argsOf (o : Op) : List (List Cl) := match o.ar with
  | 0 => [[]]
  | 1 => allC.map fun a => [a]
  | 2 => allC.flatMap fun a => allC.map fun b => [a, b]
  | _ => allC.flatMap fun a => allC.flatMap fun b => allC.map fun c => [a, b, c]
theorem table_all : (allO.all fun o => allK.all fun k => (argsOf o).all fun cs => !(cs.all (Cl.ok k)) || allS.all fun s => bitN (opV o (cs.map (Cl.int (fullT k))) (fullT k)) (rowN k s) == o.ev (cs.map (Cl.bit s))) = true := by
  decide +kernel
theorem full_all : (allK.all fun k => allS.all fun s => bitN (fullT k) (rowN k s) && !bitN 0 (rowN k s)) = true := by decide +kernel
theorem pat_all : (allK.all fun k => [Cl.f0, Cl.f1, Cl.f2].all fun c => !c.ok k || allS.all fun s => bitN (inPat c.ix (fullT k)) (rowN k s) == c.bit s) = true := by decide +kernel
theorem thin_all : (allS.all fun s => (bitN 8 (rowN 2 s) == (s.1 && s.2.1)) && (bitN 14 (rowN 2 s) == (s.1 || s.2.1))) = true := by decide +kernel
theorem mem_allO (o : Op) : o ∈ allO := by cases o <;> decide
theorem mem_allS (s : Bool × Bool × Bool) : s ∈ allS := by
  obtain ⟨a, b, c⟩ := s
  cases a <;> cases b <;> cases c <;> decide
theorem mem_allC (c : Cl) : c ∈ allC := by cases c <;> decide
theorem mem_argsOf {o : Op} {cs : List Cl} (h : cs.length = o.ar) : cs ∈ argsOf o := by
  unfold argsOf
  match hk : o.ar, cs, h with
  | 0, [], _ => exact List.mem_singleton.mpr rfl
  | 1, [a], _ => exact List.mem_map.mpr ⟨a, mem_allC a, rfl⟩
  | 2, [a, b], _ => exact List.mem_flatMap.mpr ⟨a, mem_allC a, List.mem_map.mpr ⟨b, mem_allC b, rfl⟩⟩
  | 3, [a, b, c], _ => exact List.mem_flatMap.mpr ⟨a, mem_allC a, List.mem_flatMap.mpr ⟨b, mem_allC b, List.mem_map.mpr ⟨c, mem_allC c, rfl⟩⟩⟩
  | k + 4, _, h => exfalso; cases o <;> simp [Op.ar] at hk
theorem table_at {o : Op} {k : Nat} (hk : k < 4) {cs : List Cl} (hl : cs.length = o.ar) (ho : ∀ c ∈ cs, c.ok k = true) (s : Bool × Bool × Bool) :
    bitN (opV o (cs.map (Cl.int (fullT k))) (fullT k)) (rowN k s) = o.ev (cs.map (Cl.bit s)) := by
  have h1 := List.all_eq_true.mp table_all o (mem_allO o)
  have h2 := List.all_eq_true.mp h1 k (by unfold allK; match k, hk with | 0, _ => decide | 1, _ => decide | 2, _ => decide | 3, _ => decide)
  have h3 := List.all_eq_true.mp h2 cs (mem_argsOf hl)
  have h4 : cs.all (Cl.ok k) = true := List.all_eq_true.mpr ho
  rw [h4] at h3
  exact eq_of_beq (List.all_eq_true.mp h3 s (mem_allS s))
theorem mem_allK {k : Nat} (hk : k < 4) : k ∈ allK := by
  unfold allK
  match k, hk with
  | 0, _ => decide
  | 1, _ => decide
  | 2, _ => decide
  | 3, _ => decide
theorem full_at {k : Nat} (hk : k < 4) (s : Bool × Bool × Bool) : bitN (fullT k) (rowN k s) = true ∧ bitN 0 (rowN k s) = false := by
  have h1 := List.all_eq_true.mp (List.all_eq_true.mp full_all k (mem_allK hk)) s (mem_allS s)
  simpa using h1
end Wi
set_option maxHeartbeats 200000
set_option maxRecDepth 512
/-! M3: each step keeps what is sound and what is computed -/
namespace Wi
open PySem
theorem tnot_all : (allO.all fun o => allK.all fun k => (argsOf o).all fun cs => !(cs.all (Cl.ok k)) || allS.all fun s => bitN (Builtin.bitXor (fullT k) (opV o (cs.map (Cl.int (fullT k))) (fullT k))) (rowN k s) == !o.ev (cs.map (Cl.bit s))) = true := by
  decide +kernel
theorem tnot_at {o : Op} {k : Nat} (hk : k < 4) {cs : List Cl} (hl : cs.length = o.ar) (ho : ∀ c ∈ cs, c.ok k = true) (s : Bool × Bool × Bool) :
    bitN (Builtin.bitXor (fullT k) (opV o (cs.map (Cl.int (fullT k))) (fullT k))) (rowN k s) = !o.ev (cs.map (Cl.bit s)) := by
  have h1 := List.all_eq_true.mp tnot_all o (mem_allO o)
  have h2 := List.all_eq_true.mp h1 k (mem_allK hk)
  have h3 := List.all_eq_true.mp h2 cs (mem_argsOf hl)
  have h4 : cs.all (Cl.ok k) = true := List.all_eq_true.mpr ho
  rw [h4] at h3
  exact eq_of_beq (List.all_eq_true.mp h3 s (mem_allS s))
theorem pat_at {k : Nat} (hk : k < 4) {c : Cl} (hc : c = .f0 ∨ c = .f1 ∨ c = .f2) (ho : c.ok k = true) (s : Bool × Bool × Bool) : bitN (inPat c.ix (fullT k)) (rowN k s) = c.bit s := by
  have h1 := List.all_eq_true.mp pat_all k (mem_allK hk)
  have h2 := List.all_eq_true.mp h1 c (by rcases hc with rfl | rfl | rfl <;> decide)
  rw [ho] at h2
  exact eq_of_beq (List.all_eq_true.mp h2 s (mem_allS s))
theorem thin_at (s : Bool × Bool × Bool) : bitN 8 (rowN 2 s) = (s.1 && s.2.1) ∧ bitN 14 (rowN 2 s) = (s.1 || s.2.1) := by
  have h1 := List.all_eq_true.mp thin_all s (mem_allS s)
  have h2 := Bool.and_eq_true_iff.mp h1
  exact ⟨eq_of_beq h2.1, eq_of_beq h2.2⟩

/-! ### the free wires -/
section
variable {n : Net}
theorem freeF_cases (acc : List S) (a : S) : n.freeF acc a = acc ∧ (a ∈ acc ∨ n.isCon a = true) ∨ n.freeF acc a = acc ++ [a] ∧ ¬ (a ∈ acc ∨ n.isCon a = true) := by
  unfold Net.freeF
  by_cases h : a ∈ acc ∨ n.isCon a = true
  · rw [if_pos h]; exact .inl ⟨rfl, h⟩
  · rw [if_neg h]; exact .inr ⟨rfl, h⟩
structure FreeOk (n : Net) (done acc : List S) : Prop where
  nd : acc.Nodup
  sub : ∀ a ∈ acc, a ∈ done ∧ n.isCon a = false
  has : ∀ a ∈ done, n.isCon a = false → a ∈ acc
  len : acc.length ≤ done.length
theorem freeF_ok {done acc : List S} (a : S) (h : FreeOk n done acc) : FreeOk n (done ++ [a]) (n.freeF acc a) := by
  rcases freeF_cases (n := n) acc a with ⟨e, c⟩ | ⟨e, c⟩
  · rw [e]
    refine ⟨h.nd, fun b hb => ⟨List.mem_append_left _ (h.sub b hb).1, (h.sub b hb).2⟩, fun b hb hc => ?_, Nat.le_trans h.len (by simp)⟩
    rcases List.mem_append.mp hb with hb | hb
    · exact h.has b hb hc
    · have eb : b = a := List.mem_singleton.mp hb
      subst eb
      rcases c with c | c
      · exact c
      · rw [hc] at c; cases c
  · rw [e]
    have hca : n.isCon a = false := by
      cases q : n.isCon a with
      | false => rfl
      | true => exact absurd (.inr q) c
    refine ⟨?_, fun b hb => ?_, fun b hb hc => ?_, by have := h.len; simp; omega⟩
    · refine List.nodup_append.mpr ⟨h.nd, by simp, fun x hx y hy e2 => ?_⟩
      have ey : y = a := List.mem_singleton.mp hy
      rw [e2, ey] at hx
      exact c (.inl hx)
    · rcases List.mem_append.mp hb with hb | hb
      · exact ⟨List.mem_append_left _ (h.sub b hb).1, (h.sub b hb).2⟩
      · have eb : b = a := List.mem_singleton.mp hb
        subst eb
        exact ⟨List.mem_append_right _ (List.mem_singleton.mpr rfl), hca⟩
    · rcases List.mem_append.mp hb with hb | hb
      · exact List.mem_append_left _ (h.has b hb hc)
      · exact List.mem_append_right _ hb
theorem foldl_free : ∀ (rest done acc : List S), FreeOk n done acc → FreeOk n (done ++ rest) (rest.foldl n.freeF acc)
  | [], done, acc, h => by simpa using h
  | a :: r, done, acc, h => by
    have := foldl_free r (done ++ [a]) (n.freeF acc a) (freeF_ok a h)
    rwa [List.append_assoc] at this
theorem free_ok (args : List S) : FreeOk n args (n.free args) := by
  have := foldl_free args [] [] (n := n) ⟨List.nodup_nil, (fun _ h => nomatch h), (fun _ h => nomatch h), Nat.le_refl _⟩
  rwa [List.nil_append] at this

/-! ### an argument's class -/
def clI : Nat → Cl
  | 0 => .f0
  | 1 => .f1
  | _ => .f2
def Net.cl (n : Net) (f : List S) (a : S) : Cl := if a ∈ f then clI (f.idxOf a) else if n.hasOp a .one = true then .c1 else .c0
def sOf (ρ : S → Bool) (f : List S) : Bool × Bool × Bool := ((f[0]?.map ρ).getD false, (f[1]?.map ρ).getD false, (f[2]?.map ρ).getD false)
theorem clI_ix {i : Nat} (h : i < 3) : (clI i).ix = i := by
  match i, h with
  | 0, _ => rfl
  | 1, _ => rfl
  | 2, _ => rfl
theorem clI_ok {i k : Nat} (h : i < 3) (hk : i < k) : (clI i).ok k = true := by
  match i, h with
  | 0, _ => exact decide_eq_true hk
  | 1, _ => exact decide_eq_true hk
  | 2, _ => exact decide_eq_true hk
theorem clI_f {i : Nat} : clI i = .f0 ∨ clI i = .f1 ∨ clI i = .f2 := by
  match i with
  | 0 => exact .inl rfl
  | 1 => exact .inr (.inl rfl)
  | _ + 2 => exact .inr (.inr rfl)
theorem clI_bit {ρ : S → Bool} {f : List S} {i : Nat} {a : S} (h : i < 3) (e : f[i]? = some a) : (clI i).bit (sOf ρ f) = ρ a := by
  match i, h with
  | 0, _ => show (f[0]?.map ρ).getD false = _; rw [e]; rfl
  | 1, _ => show (f[1]?.map ρ).getD false = _; rw [e]; rfl
  | 2, _ => show (f[2]?.map ρ).getD false = _; rw [e]; rfl
theorem clI_int {i : Nat} (h : i < 3) (full : Int) : (clI i).int full = inPat i full := by
  match i, h with
  | 0, _ => rfl
  | 1, _ => rfl
  | 2, _ => rfl
theorem idx_at {f : List S} {a : S} (h : a ∈ f) : f[f.idxOf a]? = some a := by
  have h1 : f.idxOf a < f.length := List.idxOf_lt_length_of_mem h
  rw [List.getElem?_eq_getElem h1, List.getElem_idxOf h1]
theorem con_bit (hs : Sound n) {ρ : S → Bool} (hv : IsVal n ρ) {a : S} (h : n.isCon a = true) : ρ a = n.hasOp a .one := by
  unfold Net.isCon at h
  unfold Net.hasOp
  cases e : n.gate? a with
  | none => rw [e] at h; cases h
  | some g =>
    rw [e] at h
    obtain ⟨hg, ew⟩ := gate?_some e
    have q := hv g hg
    rw [ew] at q
    rw [q]
    have h' : g.op.con = true := h
    show g.op.ev _ = decide (g.op = .one)
    cases ho : g.op <;> rw [ho] at h' <;> first | (cases h'; done) | rfl
/-- what the local value of a gate says -/
theorem args_of {hs : Sound n} {g : Gate} (hg : g ∈ n.gates) : g.args.length < 4 := by
  rw [hs.ar g hg]
  cases g.op <;> decide
theorem free_lt (hs : Sound n) {g : Gate} (hg : g ∈ n.gates) : (n.free g.args).length < 4 := Nat.lt_of_le_of_lt (free_ok g.args).len (args_of (hs := hs) hg)
theorem ix_lt (hs : Sound n) {g : Gate} (hg : g ∈ n.gates) {a : S} (ha : a ∈ n.free g.args) : (n.free g.args).idxOf a < 3 ∨ True ∧ (n.free g.args).idxOf a < (n.free g.args).length :=
  .inr ⟨trivial, List.idxOf_lt_length_of_mem ha⟩
theorem cl_all (hs : Sound n) {ρ : S → Bool} (hv : IsVal n ρ) {g : Gate} (hg : g ∈ n.gates) : ∀ a ∈ g.args,
    n.argV (n.free g.args) (fullT (n.free g.args).length) a = (n.cl (n.free g.args) a).int (fullT (n.free g.args).length) ∧ (n.cl (n.free g.args) a).ok (n.free g.args).length = true ∧
    (n.cl (n.free g.args) a).bit (sOf ρ (n.free g.args)) = ρ a := by
  intro a ha
  have hl := free_lt hs hg
  unfold Net.argV Net.cl
  by_cases h : a ∈ n.free g.args
  · have h1 : (n.free g.args).idxOf a < (n.free g.args).length := List.idxOf_lt_length_of_mem h
    have h3 : (n.free g.args).idxOf a < 3 := by omega
    rw [if_pos h, if_pos h]
    exact ⟨(clI_int h3 _).symm, clI_ok h3 h1, clI_bit h3 (idx_at h)⟩
  · rw [if_neg h, if_neg h]
    have hc : n.isCon a = true := by
      cases q : n.isCon a with
      | true => rfl
      | false => exact absurd ((free_ok g.args).has a ha q) h
    have hb := con_bit hs hv hc
    by_cases ho : n.hasOp a .one = true
    · rw [if_pos ho, if_pos ho]
      refine ⟨rfl, rfl, ?_⟩
      rw [hb, ho]; rfl
    · rw [if_neg ho, if_neg ho]
      refine ⟨rfl, rfl, ?_⟩
      rw [hb]
      cases q : n.hasOp a .one with
      | false => rfl
      | true => exact absurd q ho
theorem loc_sem (hs : Sound n) {ρ : S → Bool} (hv : IsVal n ρ) {g : Gate} (hg : g ∈ n.gates) :
    bitN (n.locV g) (rowN (n.free g.args).length (sOf ρ (n.free g.args))) = ρ g.w ∧
    bitN (Builtin.bitXor (fullT (n.free g.args).length) (n.locV g)) (rowN (n.free g.args).length (sOf ρ (n.free g.args))) = !ρ g.w := by
  have ha := cl_all hs hv hg
  have e1 : g.args.map (n.argV (n.free g.args) (fullT (n.free g.args).length)) = (g.args.map (n.cl (n.free g.args))).map (Cl.int (fullT (n.free g.args).length)) := by
    rw [List.map_map]
    exact List.map_congr_left fun a h => (ha a h).1
  have e2 : g.args.map ρ = (g.args.map (n.cl (n.free g.args))).map (Cl.bit (sOf ρ (n.free g.args))) := by
    rw [List.map_map]
    exact List.map_congr_left fun a h => (ha a h).2.2.symm
  have hok : ∀ c ∈ g.args.map (n.cl (n.free g.args)), c.ok (n.free g.args).length = true := fun c hc => by
    obtain ⟨a, h, e⟩ := List.mem_map.mp hc
    rw [← e]
    exact (ha a h).2.1
  have hlen : (g.args.map (n.cl (n.free g.args))).length = g.op.ar := by rw [List.length_map, hs.ar g hg]
  unfold Net.locV
  rw [e1, hv g hg, e2]
  exact ⟨table_at (free_lt hs hg) hlen hok _, tnot_at (free_lt hs hg) hlen hok _⟩

theorem copiedF_some {w : S} {o : Op} {v full : Int} : ∀ {f : List S} {i : Nat} {h : Gate}, copiedF w o v full i f = some h → ∃ j x, f[j]? = some x ∧ h = ⟨w, o, [x]⟩ ∧ v = inPat (i + j) full
  | [], i, h, e => by cases e
  | x :: r, i, h, e => by
    unfold copiedF at e
    split at e
    · rename_i q
      exact ⟨0, x, rfl, (Option.some.inj e).symm, q⟩
    · obtain ⟨j, y, h1, h2, h3⟩ := copiedF_some e
      exact ⟨j + 1, y, h1, h2, by rw [h3]; congr 1; omega⟩

/-- what a step puts in the place of a gate -/
structure Like (n : Net) (g h : Gate) : Prop where
  w : h.w = g.w
  ar : h.args.length = h.op.ar
  args : ∀ a ∈ h.args, a ∈ n.decl
  val : ∀ ρ, IsVal n ρ → h.op.ev (h.args.map ρ) = ρ g.w
theorem free_sub {args : List S} {a : S} (h : a ∈ n.free args) : a ∈ args := ((free_ok args).sub a h).1
theorem tableStep_like (hs : Sound n) {r : Rule} {g h : Gate} (hg : g ∈ n.gates) (e : n.tableStep r g = some h) : Like n g h ∧ ∀ a ∈ h.args, a ∈ g.args := by
  have hl := free_lt hs hg
  have hat : ∀ (j : Nat) (x : S), (n.free g.args)[j]? = some x → j < 3 ∧ j < (n.free g.args).length ∧ x ∈ g.args := fun j x hj => by
    obtain ⟨h1, h2⟩ := List.getElem?_eq_some_iff.mp hj
    exact ⟨by omega, h1, free_sub (List.mem_of_getElem? hj)⟩
  unfold Net.tableStep at e
  split at e
  · cases e
  · split at e
    · split at e
      · rename_i q
        cases e
        refine ⟨⟨rfl, rfl, fun _ h => (nomatch h), fun ρ hv => ?_⟩, fun _ h => (nomatch h)⟩
        have := (loc_sem hs hv hg).1
        rw [q, (full_at hl _).2] at this
        exact this
      · split at e
        · rename_i q
          cases e
          refine ⟨⟨rfl, rfl, fun _ h => (nomatch h), fun ρ hv => ?_⟩, fun _ h => (nomatch h)⟩
          have := (loc_sem hs hv hg).1
          rw [q, (full_at hl _).1] at this
          exact this
        · cases e
    · split at e
      · cases e
      · obtain ⟨j, x, h1, h2, h3⟩ := copiedF_some e
        obtain ⟨j3, jl, hx⟩ := hat j x h1
        subst h2
        have sub : ∀ a ∈ ([x] : List S), a ∈ g.args := fun a ha => by rw [List.mem_singleton.mp ha]; exact hx
        refine ⟨⟨rfl, rfl, fun a ha => hs.args g hg a (sub a ha), fun ρ hv => ?_⟩, sub⟩
        have := (loc_sem hs hv hg).1
        rw [h3, Nat.zero_add, ← clI_ix j3, pat_at hl clI_f (clI_ok j3 jl), clI_bit j3 h1] at this
        exact this
    · split at e
      · cases e
      · obtain ⟨j, x, h1, h2, h3⟩ := copiedF_some e
        obtain ⟨j3, jl, hx⟩ := hat j x h1
        subst h2
        have sub : ∀ a ∈ ([x] : List S), a ∈ g.args := fun a ha => by rw [List.mem_singleton.mp ha]; exact hx
        refine ⟨⟨rfl, rfl, fun a ha => hs.args g hg a (sub a ha), fun ρ hv => ?_⟩, sub⟩
        have := (loc_sem hs hv hg).2
        rw [h3, Nat.zero_add, ← clI_ix j3, pat_at hl clI_f (clI_ok j3 jl), clI_bit j3 h1] at this
        show (!ρ x) = ρ g.w
        rw [this, Bool.not_not]
    · split at e
      · cases e
      · rename_i q
        have hm : (n.free g.args).length = 2 := by
          refine Decidable.byContradiction fun z => q (.inr z)
        match hf : n.free g.args, hm with
        | [x, y], _ =>
        rw [hf] at e
        have ex : (n.free g.args)[0]? = some x := by rw [hf]; rfl
        have ey : (n.free g.args)[1]? = some y := by rw [hf]; rfl
        have sub : ∀ a ∈ ([x, y] : List S), a ∈ g.args := fun a ha => by
          rcases List.mem_cons.mp ha with z | z
          · rw [z]; exact (hat 0 x ex).2.2
          · rw [List.mem_singleton.mp z]; exact (hat 1 y ey).2.2
        split at e
        · rename_i q
          cases e
          refine ⟨⟨rfl, rfl, fun a ha => hs.args g hg a (sub a ha), fun ρ hv => ?_⟩, sub⟩
          have := (loc_sem hs hv hg).1
          rw [q, hf] at this
          rw [← this]
          exact (thin_at (sOf ρ [x, y])).1.symm
        · split at e
          · rename_i q
            cases e
            refine ⟨⟨rfl, rfl, fun a ha => hs.args g hg a (sub a ha), fun ρ hv => ?_⟩, sub⟩
            have := (loc_sem hs hv hg).1
            rw [q, hf] at this
            rw [← this]
            exact (thin_at (sOf ρ [x, y])).2.symm
          · cases e
end
end Wi
set_option maxHeartbeats 200000
set_option maxRecDepth 512
/-! M4: a step's net is sound and computes the same; rewriting, chains -/
namespace Wi
open PySem
section
variable {n : Net}
theorem gate?_mem {x : S} {g : Gate} (h : n.gate? x = some g) : g ∈ n.gates := (gate?_some h).1
theorem gate?_w {x : S} {g : Gate} (h : n.gate? x = some g) : g.w = x := (gate?_some h).2
/-- what skipping gives -/
theorem skipped_ok (hs : Sound n) {x : S} (hx : x ∈ n.decl) : n.skipped x ∈ n.decl ∧ (∀ ρ, IsVal n ρ → ρ (n.skipped x) = ρ x) ∧ ∀ rk : S → Nat, (∀ g ∈ n.gates, ∀ a ∈ g.args, rk a < rk g.w) → rk (n.skipped x) ≤ rk x := by
  unfold Net.skipped
  cases e : n.gate? x with
  | none => exact ⟨hx, fun _ _ => rfl, fun _ _ => Nat.le_refl _⟩
  | some g =>
    obtain ⟨hg, ew⟩ := gate?_some e
    dsimp only
    by_cases ho : g.op = .buf
    · rw [if_pos ho]
      have ha := hs.ar g hg
      rw [ho] at ha
      match hq : g.args, ha with
      | [y], _ =>
        have hy : y ∈ g.args := by rw [hq]; exact List.mem_singleton.mpr rfl
        refine ⟨hs.args g hg y hy, fun ρ hv => ?_, fun rk hk => ?_⟩
        · have q := hv g hg
          rw [ho, hq, ew] at q
          exact q.symm
        · have := hk g hg y hy
          rw [ew] at this
          exact Nat.le_of_lt this
    · rw [if_neg ho]
      exact ⟨hx, fun _ _ => rfl, fun _ _ => Nat.le_refl _⟩
def RkOf (n : Net) (rk : S → Nat) : Prop := ∀ g ∈ n.gates, ∀ a ∈ g.args, rk a < rk g.w
theorem linkStep_like (hs : Sound n) {r : Rule} (hr : r ≠ .share) {g h : Gate} (hg : g ∈ n.gates) (e : n.linkStep r g = some h) : Like n g h ∧ ∀ rk, RkOf n rk → ∀ a ∈ h.args, rk a < rk g.w := by
  unfold Net.linkStep at e
  split at e
  · -- skip
    split at e
    · cases e
      have hd := fun a (ha : a ∈ g.args) => skipped_ok hs (hs.args g hg a ha)
      refine ⟨⟨rfl, by show (g.args.map n.skipped).length = _; rw [List.length_map]; exact hs.ar g hg, fun a ha => ?_, fun ρ hv => ?_⟩, fun rk hk a ha => ?_⟩
      · obtain ⟨b, hb, e⟩ := List.mem_map.mp ha
        rw [← e]
        exact (hd b hb).1
      · show g.op.ev ((g.args.map n.skipped).map ρ) = _
        rw [hv g hg, List.map_map]
        congr 1
        exact List.map_congr_left fun a ha => (hd a ha).2.1 ρ hv
      · obtain ⟨b, hb, e⟩ := List.mem_map.mp ha
        rw [← e]
        exact Nat.lt_of_le_of_lt ((hd b hb).2.2 rk hk) (hk g hg b hb)
    · cases e
  · -- double
    split at e
    · rename_i a ho ha
      split at e
      · rename_i d hd
        split at e
        · rename_i hdo
          cases e
          obtain ⟨hdm, hdw⟩ := gate?_some hd
          have har := hs.ar d hdm
          rw [hdo] at har
          refine ⟨⟨rfl, har, fun x hx => hs.args d hdm x hx, fun ρ hv => ?_⟩, fun rk hk x hx => ?_⟩
          · match hq : d.args, har with
            | [y], _ =>
              have q1 := hv g hg
              have q2 := hv d hdm
              rw [ho, ha] at q1
              rw [hdo, hq, hdw] at q2
              show ρ y = ρ g.w
              have q1' : ρ g.w = !ρ a := q1
              have q2' : ρ a = !ρ y := q2
              rw [q1', q2', Bool.not_not]
          · have h1 := hk d hdm x hx
            have h2 := hk g hg a (by rw [ha]; exact List.mem_singleton.mpr rfl)
            rw [hdw] at h1
            exact Nat.lt_trans h1 h2
        · cases e
      · cases e
    · cases e
  · exact absurd rfl hr
  · -- swap
    split at e
    · rename_i a b ha
      split at e
      · rename_i hc
        cases e
        have hm : ∀ x ∈ ([b, a] : List S), x ∈ g.args := fun x hx => by
          rw [ha]
          rcases List.mem_cons.mp hx with z | z
          · rw [z]; exact List.mem_cons_of_mem _ (List.mem_singleton.mpr rfl)
          · rw [List.mem_singleton.mp z]; exact List.mem_cons_self
        refine ⟨⟨rfl, ?_, fun x hx => hs.args g hg x (hm x hx), fun ρ hv => ?_⟩, fun rk hk x hx => hk g hg x (hm x hx)⟩
        · have q := hs.ar g hg
          rw [ha] at q
          exact q
        · rw [hv g hg, ha]
          have hc1 := hc.1
          cases ho : g.op <;> rw [ho] at hc1 <;> first | (cases hc1; done) | skip
          · show (ρ b && ρ a) = (ρ a && ρ b); exact Bool.and_comm _ _
          · show (ρ b || ρ a) = (ρ a || ρ b); exact Bool.or_comm _ _
          · show (ρ b != ρ a) = (ρ a != ρ b); cases ρ a <;> cases ρ b <;> rfl
      · cases e
    · cases e
theorem firstOf_some {o : Op} {args : List S} {f : S} (h : n.firstOf o args = some f) : ∃ d ∈ n.gates, d.w = f ∧ d.op = o ∧ d.args = args := by
  unfold Net.firstOf at h
  obtain ⟨d, hd, e⟩ := Option.map_eq_some_iff.mp h
  have h1 := List.find?_some hd
  have h2 : d.op = o ∧ d.args = args := of_decide_eq_true h1
  exact ⟨d, List.mem_of_find?_eq_some hd, e, h2.1, h2.2⟩
theorem share_like (hs : Sound n) {g h : Gate} (hg : g ∈ n.gates) (e : n.linkStep .share g = some h) : Like n g h ∧ ∃ d ∈ n.gates, h.args = [d.w] ∧ d.args = g.args ∧ d.w ≠ g.w := by
  unfold Net.linkStep at e
  dsimp only at e
  split at e
  · rename_i f hf
    obtain ⟨d, hd, dw, dop, dar⟩ := firstOf_some hf
    split at e
    · cases e
    · rename_i hc
      cases e
      have hne : d.w ≠ g.w := fun z => hc (.inr (.inr (dw.symm.trans z)))
      refine ⟨⟨rfl, rfl, fun a ha => ?_, fun ρ hv => ?_⟩, d, hd, by rw [dw], dar, hne⟩
      · rw [List.mem_singleton.mp ha, ← dw]
        exact List.mem_append_left _ (List.mem_append_right _ (List.mem_map_of_mem hd))
      · show ρ f = ρ g.w
        rw [← dw, hv d hd, hv g hg, dop, dar]
  · cases e

/-! ### a gate replaced -/
def repl (n : Net) (w : S) (h : Gate) : Net := ⟨n.ins, n.gates.map (fun d => if d.w = w then h else d), n.regs, n.outs⟩
theorem putG_one (gs : List Gate) (w : S) (h : Gate) : putG gs w [h] = gs.map fun d => if d.w = w then h else d := by
  unfold putG
  induction gs with
  | nil => rfl
  | cons d r ih =>
    rw [List.flatMap_cons, List.map_cons, ih]
    by_cases e : d.w = w
    · rw [if_pos e, if_pos e]; rfl
    · rw [if_neg e, if_neg e]; rfl
theorem repl_gw {w : S} {h : Gate} (hw : h.w = w) : (repl n w h).gw = n.gw := by
  show (n.gates.map _).map _ = _
  rw [List.map_map]
  refine List.map_congr_left fun d _ => ?_
  show (if d.w = w then h else d).w = d.w
  by_cases e : d.w = w
  · rw [if_pos e, hw, e]
  · rw [if_neg e]
theorem repl_mem {w : S} {h d : Gate} (hd : d ∈ (repl n w h).gates) : d = h ∨ (d ∈ n.gates ∧ d.w ≠ w) := by
  obtain ⟨c, hc, e⟩ := List.mem_map.mp hd
  by_cases q : c.w = w
  · rw [if_pos q] at e; exact .inl e.symm
  · rw [if_neg q] at e; subst e; exact .inr ⟨hc, q⟩
theorem repl_ok (hs : Sound n) {g h : Gate} (hg : g ∈ n.gates) (L : Like n g h) (ac : ∃ rk : S → Nat, RkOf (repl n g.w h) rk) : Sound (repl n g.w h) ∧ Refi n (repl n g.w h) := by
  have egw := repl_gw (n := n) L.w
  have ed : (repl n g.w h).decl = n.decl := by
    show n.ins ++ (repl n g.w h).gw ++ n.rw = _
    rw [egw]; rfl
  refine ⟨⟨by rw [ed]; exact hs.nd, by rw [ed]; exact hs.wire, fun d hd => ?_, fun d hd => ?_, by rw [ed]; exact hs.src, by rw [ed]; exact hs.outs, hs.ond, ac⟩, ⟨rfl, rfl, rfl, fun ρ hv d hd => ?_, fun _ _ => rfl⟩⟩
  · rcases repl_mem hd with e | ⟨hd, _⟩
    · rw [e]; exact L.ar
    · exact hs.ar d hd
  · rw [ed]
    rcases repl_mem hd with e | ⟨hd, _⟩
    · rw [e]; exact L.args
    · exact hs.args d hd
  · rcases repl_mem hd with e | ⟨hd, _⟩
    · rw [e, L.w, L.val ρ hv]
    · exact hv d hd
theorem repl_rk {g h : Gate} (hg : g ∈ n.gates) (hw : h.w = g.w) {rk : S → Nat} (hk : RkOf n rk) (ha : ∀ a ∈ h.args, rk a < rk g.w) : RkOf (repl n g.w h) rk := fun d hd a hda => by
  rcases repl_mem hd with e | ⟨hd, _⟩
  · subst e; rw [hw]; exact ha a hda
  · exact hk d hd a hda
/-- the greatest of some numbers, and one more -/
def supL (rk : S → Nat) : List S → Nat
  | [] => 0
  | a :: r => max (rk a + 1) (supL rk r)
theorem supL_lt {rk : S → Nat} : ∀ {l : List S} {a : S}, a ∈ l → rk a < supL rk l
  | b :: r, a, h => by
    unfold supL
    rcases List.mem_cons.mp h with e | h
    · subst e; omega
    · have := supL_lt (rk := rk) h
      omega
theorem supL_le {rk : S → Nat} {m : Nat} : ∀ {l : List S}, (∀ a ∈ l, rk a < m) → supL rk l ≤ m
  | [], _ => Nat.zero_le _
  | b :: r, h => by
    unfold supL
    have h1 := h b List.mem_cons_self
    have h2 := supL_le (l := r) fun a ha => h a (List.mem_cons_of_mem _ ha)
    omega
/-- a rank that depends on the arguments alone -/
theorem rk_args (hs : Sound n) : ∃ rk : S → Nat, RkOf n rk ∧ ∀ d ∈ n.gates, ∀ e ∈ n.gates, d.args = e.args → rk d.w = rk e.w := by
  obtain ⟨rk, hk⟩ := hs.acyc
  let r2 : S → Nat := fun x => match n.gate? x with
    | some g => supL rk g.args
    | none => 0
  have at_ : ∀ d ∈ n.gates, r2 d.w = supL rk d.args := fun d hd => by
    show (match n.gate? d.w with | some g => supL rk g.args | none => 0) = _
    rw [gate?_of hs.gnd hd]
  have le : ∀ x, r2 x ≤ rk x := fun x => by
    show (match n.gate? x with | some g => supL rk g.args | none => 0) ≤ _
    cases e : n.gate? x with
    | none => exact Nat.zero_le _
    | some g =>
      obtain ⟨hg, ew⟩ := gate?_some e
      subst ew
      exact supL_le (hk g hg)
  refine ⟨r2, fun g hg a ha => ?_, fun d hd e he q => ?_⟩
  · rw [at_ g hg]
    exact Nat.lt_of_le_of_lt (le a) (supL_lt ha)
  · rw [at_ d hd, at_ e he, q]
theorem share_acyc (hs : Sound n) {g h d : Gate} (hg : g ∈ n.gates) (hw : h.w = g.w) (hd : d ∈ n.gates) (ha : h.args = [d.w]) (hda : d.args = g.args) (hne : d.w ≠ g.w) : ∃ rk, RkOf (repl n g.w h) rk := by
  obtain ⟨rk, hk, heq⟩ := rk_args hs
  refine ⟨fun x => if x = g.w then 2 * rk x + 1 else 2 * rk x, fun c hc a hca => ?_⟩
  dsimp only
  rcases repl_mem hc with e | ⟨hc, hcw⟩
  · subst e
    rw [ha] at hca
    rw [List.mem_singleton.mp hca, if_neg hne, hw, if_pos rfl, heq d hd g hg hda]
    omega
  · have := hk c hc a hca
    rw [if_neg hcw]
    split <;> omega

/-! ### a gate taken out -/
def without (n : Net) (w : S) : Net := ⟨n.ins, n.gates.filter (fun d => decide (d.w ≠ w)), n.regs, n.outs⟩
theorem putG_nil (gs : List Gate) (w : S) : putG gs w [] = gs.filter fun d => decide (d.w ≠ w) := by
  unfold putG
  induction gs with
  | nil => rfl
  | cons d r ih =>
    rw [List.flatMap_cons, ih, List.filter_cons]
    by_cases e : d.w = w
    · rw [if_pos e, if_neg (by simp [e])]; rfl
    · rw [if_neg e, if_pos (by simp [e])]; rfl
theorem without_mem {w : S} {d : Gate} (h : d ∈ (without n w).gates) : d ∈ n.gates ∧ d.w ≠ w := by
  obtain ⟨h1, h2⟩ := List.mem_filter.mp h
  exact ⟨h1, of_decide_eq_true h2⟩
theorem without_sub {w : S} : (without n w).decl.Sublist n.decl := by
  show (n.ins ++ (without n w).gw ++ n.rw).Sublist (n.ins ++ n.gw ++ n.rw)
  exact ((List.Sublist.refl _).append (List.filter_sublist.map _)).append (List.Sublist.refl _)
theorem without_has {w x : S} (hx : x ∈ n.decl) (hw : x ≠ w) : x ∈ (without n w).decl := by
  rcases List.mem_append.mp hx with h | h
  · rcases List.mem_append.mp h with h | h
    · exact List.mem_append_left _ (List.mem_append_left _ h)
    · obtain ⟨d, hd, e⟩ := List.mem_map.mp h
      refine List.mem_append_left _ (List.mem_append_right _ (List.mem_map.mpr ⟨d, List.mem_filter.mpr ⟨hd, ?_⟩, e⟩))
      rw [e]
      exact decide_eq_true hw
  · exact List.mem_append_right _ h
theorem without_ok (hs : Sound n) {g : Gate} (hu : g.w ∉ n.usedL) : Sound (without n g.w) ∧ Refi n (without n g.w) := by
  have u1 : ∀ d ∈ n.gates, ∀ a ∈ d.args, a ≠ g.w := fun d hd a ha e => hu (by
    rw [← e]
    exact List.mem_append_left _ (List.mem_append_left _ (List.mem_flatMap.mpr ⟨d, hd, ha⟩)))
  have u2 : ∀ r ∈ n.regs, r.src ≠ g.w := fun r hr e => hu (by
    rw [← e]
    exact List.mem_append_left _ (List.mem_append_right _ (List.mem_map.mpr ⟨r, hr, rfl⟩)))
  have u3 : ∀ o ∈ n.outs, o ≠ g.w := fun o ho e => hu (by
    rw [← e]
    exact List.mem_append_right _ ho)
  refine ⟨⟨hs.nd.sublist without_sub, fun x hx => hs.wire x (without_sub.mem hx), fun d hd => hs.ar d (without_mem hd).1, fun d hd a ha => ?_, fun r hr => without_has (hs.src r hr) (u2 r hr), fun o ho => without_has (hs.outs o ho) (u3 o ho), hs.ond, ?_⟩,
    ⟨rfl, rfl, rfl, fun ρ hv d hd => hv d (without_mem hd).1, fun _ _ => rfl⟩⟩
  · have hd' := (without_mem hd).1
    exact without_has (hs.args d hd' a ha) (u1 d hd' a ha)
  · obtain ⟨rk, hk⟩ := hs.acyc
    exact ⟨rk, fun d hd => hk d (without_mem hd).1⟩

/-! ### a register's source -/
theorem reg_ok (hs : Sound n) {r q : Reg} (hr : r ∈ n.regs) (e : n.regAfter r = some q) : Sound ⟨n.ins, n.gates, putR n.regs r.w q, n.outs⟩ ∧ Refi n ⟨n.ins, n.gates, putR n.regs r.w q, n.outs⟩ := by
  unfold Net.regAfter at e
  split at e
  · cases e
    have sk := skipped_ok hs (hs.src r hr)
    have same : ∀ d ∈ n.regs, d.w = r.w → d = r := fun d hd ew => by
      have h1 := find_nd (f := fun r : Reg => r.w) (show (n.regs.map fun r : Reg => r.w).Nodup from hs.rnd) hd
      have h2 := find_nd (f := fun r : Reg => r.w) (show (n.regs.map fun r : Reg => r.w).Nodup from hs.rnd) hr
      rw [ew, h2] at h1
      exact (Option.some.inj h1).symm
    have erw : (putR n.regs r.w ⟨r.w, r.fi, n.skipped r.src⟩).map (·.w) = n.rw := by
      show (n.regs.map _).map _ = _
      rw [List.map_map]
      refine List.map_congr_left fun d _ => ?_
      show (if d.w = r.w then (⟨r.w, r.fi, n.skipped r.src⟩ : Reg) else d).w = d.w
      by_cases q : d.w = r.w
      · rw [if_pos q, q]
      · rw [if_neg q]
    have ed : (⟨n.ins, n.gates, putR n.regs r.w ⟨r.w, r.fi, n.skipped r.src⟩, n.outs⟩ : Net).decl = n.decl := by
      show n.ins ++ n.gw ++ (putR n.regs r.w ⟨r.w, r.fi, n.skipped r.src⟩).map (·.w) = _
      rw [erw]; rfl
    refine ⟨⟨by rw [ed]; exact hs.nd, by rw [ed]; exact hs.wire, hs.ar, by rw [ed]; exact hs.args, fun d hd => ?_, by rw [ed]; exact hs.outs, hs.ond, hs.acyc⟩, ⟨rfl, rfl, ?_, fun ρ hv => hv, fun ρ hv => ?_⟩⟩
    · rw [ed]
      obtain ⟨c, hc, e⟩ := List.mem_map.mp hd
      subst e
      by_cases q : c.w = r.w
      · rw [if_pos q]; exact sk.1
      · rw [if_neg q]; exact hs.src c hc
    · show (n.regs.map _).map _ = _
      rw [List.map_map]
      refine List.map_congr_left fun d hd => ?_
      show ((if d.w = r.w then (⟨r.w, r.fi, n.skipped r.src⟩ : Reg) else d).w, (if d.w = r.w then (⟨r.w, r.fi, n.skipped r.src⟩ : Reg) else d).fi) = _
      by_cases q : d.w = r.w
      · rw [if_pos q, same d hd q]
      · rw [if_neg q]
    · show (n.regs.map _).map _ = _
      rw [List.map_map]
      refine List.map_congr_left fun d hd => ?_
      show ρ (if d.w = r.w then (⟨r.w, r.fi, n.skipped r.src⟩ : Reg) else d).src = _
      by_cases q : d.w = r.w
      · rw [if_pos q, same d hd q]
        exact sk.2.1 ρ hv
      · rw [if_neg q]
  · cases e

/-! ### a step -/
theorem gateAfter_ok (hs : Sound n) {r : Rule} {g : Gate} {l : List Gate} (hg : g ∈ n.gates) (e : n.gateAfter r g = some l) : Sound ⟨n.ins, putG n.gates g.w l, n.regs, n.outs⟩ ∧ Refi n ⟨n.ins, putG n.gates g.w l, n.regs, n.outs⟩ := by
  have tab : ∀ {q : Rule} {h : Gate}, n.tableStep q g = some h → Sound ⟨n.ins, putG n.gates g.w [h], n.regs, n.outs⟩ ∧ Refi n ⟨n.ins, putG n.gates g.w [h], n.regs, n.outs⟩ := fun {q h} z => by
    rw [putG_one]
    obtain ⟨L, sub⟩ := tableStep_like hs hg z
    obtain ⟨rk, hk⟩ := hs.acyc
    exact repl_ok hs hg L ⟨rk, repl_rk hg L.w hk fun a ha => hk g hg a (sub a ha)⟩
  have lnk : ∀ {q : Rule} {h : Gate}, q ≠ .share → n.linkStep q g = some h → Sound ⟨n.ins, putG n.gates g.w [h], n.regs, n.outs⟩ ∧ Refi n ⟨n.ins, putG n.gates g.w [h], n.regs, n.outs⟩ := fun {q h} hq z => by
    rw [putG_one]
    obtain ⟨L, lt⟩ := linkStep_like hs hq hg z
    obtain ⟨rk, hk⟩ := hs.acyc
    exact repl_ok hs hg L ⟨rk, repl_rk hg L.w hk (lt rk hk)⟩
  have shr : ∀ {h : Gate}, n.linkStep .share g = some h → Sound ⟨n.ins, putG n.gates g.w [h], n.regs, n.outs⟩ ∧ Refi n ⟨n.ins, putG n.gates g.w [h], n.regs, n.outs⟩ := fun {h} z => by
    rw [putG_one]
    obtain ⟨L, d, hd, ha, hda, hne⟩ := share_like hs hg z
    exact repl_ok hs hg L (share_acyc hs hg L.w hd ha hda hne)
  have one : ∀ {o : Option Gate}, (o.map fun h => [h]) = some l → ∃ h, o = some h ∧ l = [h] := fun {o} z => by
    obtain ⟨h, h1, h2⟩ := Option.map_eq_some_iff.mp z
    exact ⟨h, h1, h2.symm⟩
  cases r with
  | drop =>
    have e' : (if g.w ∈ n.usedL then none else some []) = some l := e
    split at e'
    · cases e'
    · rename_i hu
      cases e'
      rw [putG_nil]
      exact without_ok hs hu
  | fold => obtain ⟨h, h1, rfl⟩ := one e; exact tab h1
  | pass => obtain ⟨h, h1, rfl⟩ := one e; exact tab h1
  | turn => obtain ⟨h, h1, rfl⟩ := one e; exact tab h1
  | thin => obtain ⟨h, h1, rfl⟩ := one e; exact tab h1
  | skip => obtain ⟨h, h1, rfl⟩ := one e; exact lnk (by decide) h1
  | double => obtain ⟨h, h1, rfl⟩ := one e; exact lnk (by decide) h1
  | swap => obtain ⟨h, h1, rfl⟩ := one e; exact lnk (by decide) h1
  | share => obtain ⟨h, h1, rfl⟩ := one e; exact shr h1
theorem after_ok (hs : Sound n) {s : Rule × S} {m : Net} (e : n.after s = some m) : Sound m ∧ Refi n m := by
  unfold Net.after at e
  split at e
  · rename_i g hg
    obtain ⟨hm, hw⟩ := gate?_some hg
    obtain ⟨l, hl, em⟩ := Option.map_eq_some_iff.mp e
    rw [← hw] at em
    rw [← em]
    exact gateAfter_ok hs hm hl
  · split at e
    · rename_i r hr
      have hm := List.mem_of_find?_eq_some hr
      have hw0 := List.find?_some hr
      have hw : r.w = s.2 := of_decide_eq_true hw0
      split at e
      · obtain ⟨q, hq, em⟩ := Option.map_eq_some_iff.mp e
        rw [← hw] at em
        rw [← em]
        exact reg_ok hs hm hq
      · cases e
    · cases e
theorem firstG_some : ∀ {gs : List Gate} {s : Rule × S}, firstG n gs = some s → ∃ g ∈ gs, s.2 = g.w ∧ (n.gateAfter s.1 g).isSome = true
  | [], _, e => by cases e
  | g :: gs, s, e => by
    unfold firstG at e
    split at e
    · rename_i r hr
      cases e
      unfold Net.stepsAt at hr
      have h1 := List.find?_some hr
      exact ⟨g, List.mem_cons_self, rfl, h1⟩
    · obtain ⟨h, h1, h2⟩ := firstG_some e
      exact ⟨h, List.mem_cons_of_mem _ h1, h2⟩
theorem firstR_some : ∀ {rs : List Reg} {s : Rule × S}, firstR n rs = some s → ∃ r ∈ rs, s = (.skip, r.w) ∧ (n.regAfter r).isSome = true
  | [], _, e => by cases e
  | r :: rs, s, e => by
    unfold firstR at e
    split at e
    · rename_i q hq
      cases e
      exact ⟨r, List.mem_cons_self, rfl, by rw [hq]; rfl⟩
    · obtain ⟨h, h1, h2⟩ := firstR_some e
      exact ⟨h, List.mem_cons_of_mem _ h1, h2⟩
/-- the step that is found applies -/
theorem first_after (hs : Sound n) {s : Rule × S} (e : n.firstStep = some s) : ∃ m, n.after s = some m := by
  unfold Net.firstStep at e
  split at e
  · rename_i t ht
    cases e
    obtain ⟨g, hg, ew, hq⟩ := firstG_some ht
    obtain ⟨l, hl⟩ := Option.isSome_iff_exists.mp hq
    unfold Net.after
    rw [ew, gate?_of hs.gnd hg]
    dsimp only
    rw [hl]
    exact ⟨_, rfl⟩
  · obtain ⟨r, hr, es, hq⟩ := firstR_some e
    obtain ⟨q, hq⟩ := Option.isSome_iff_exists.mp hq
    subst es
    unfold Net.after
    have e1 : n.gate? r.w = none := gate?_not fun z => hs.gr z (List.mem_map.mpr ⟨r, hr, rfl⟩)
    have e2 := find_nd (f := fun r : Reg => r.w) (show (n.regs.map fun r : Reg => r.w).Nodup from hs.rnd) hr
    dsimp only
    rw [e1]
    dsimp only
    rw [e2]
    dsimp only
    rw [if_pos rfl, hq]
    exact ⟨_, rfl⟩
end

/-! ### chains -/
/-- n comes by the chain to m -/
inductive Goes : Net → List (Rule × S) → Net → Prop
  | nil (n : Net) : Goes n [] n
  | snoc {n m k : Net} {c : List (Rule × S)} {s : Rule × S} : Goes n c m → m.after s = some k → Goes n (c ++ [s]) k
theorem Goes.ok {n m : Net} {c : List (Rule × S)} (h : Goes n c m) (hs : Sound n) : Sound m ∧ Refi n m := by
  induction h with
  | nil => exact ⟨hs, Refi.refl _⟩
  | snoc _ e ih => exact ⟨(after_ok ih.1 e).1, ih.2.trans (after_ok ih.1 e).2⟩
theorem Goes.take {n m : Net} {c : List (Rule × S)} (h : Goes n c m) : ∀ i, i < c.length → ∃ a b s, Goes n (c.take i) a ∧ c[i]? = some s ∧ a.after s = some b ∧ Goes n (c.take (i + 1)) b := by
  induction h with
  | nil => intro i hi; exact absurd hi (Nat.not_lt_zero _)
  | @snoc m k c s g e ih =>
    intro i hi
    rw [List.length_append, List.length_singleton] at hi
    by_cases q : i < c.length
    · obtain ⟨a, b, t, h1, h2, h3, h4⟩ := ih i q
      refine ⟨a, b, t, ?_, ?_, h3, ?_⟩
      · rw [List.take_append_of_le_length (Nat.le_of_lt q)]; exact h1
      · rw [List.getElem?_append_left q]; exact h2
      · rw [List.take_append_of_le_length q]; exact h4
    · have ei : i = c.length := by omega
      subst ei
      refine ⟨m, k, s, ?_, ?_, e, ?_⟩
      · rw [List.take_append_of_le_length (Nat.le_refl _), List.take_length]; exact g
      · rw [List.getElem?_append_right (Nat.le_refl _)]; simp
      · rw [List.take_of_length_le (by simp)]; exact .snoc g e
theorem Goes.det {n a b : Net} {c : List (Rule × S)} (h : Goes n c a) : Goes n c b → a = b := by
  intro k
  induction h generalizing b with
  | nil =>
    generalize hc : ([] : List (Rule × S)) = c at k
    cases k with
    | nil => rfl
    | snoc _ _ => exact absurd hc (by simp)
  | @snoc m k' c s g e ih =>
    generalize hc : c ++ [s] = d at k
    cases k with
    | nil => exact absurd hc (by simp)
    | @snoc m2 k2 c2 s2 g2 e2 =>
      obtain ⟨h1, h2⟩ := List.append_inj' hc rfl
      subst h1
      injection h2 with h2 _
      subst h2
      have := ih g2
      subst this
      rw [e] at e2
      exact Option.some.inj e2
end Wi
set_option maxHeartbeats 200000
set_option maxRecDepth 512
/-! M5: orders: Kahn's peeling, the law's sorting -/
namespace Wi
open PySem
section
variable {n : Net}
/-! ### links -/
def Net.gargs (n : Net) (g : Gate) : List S := g.args.filter fun a => decide (a ∈ n.gw)
def Net.usersOf (n : Net) (x : S) : List S := n.gates.flatMap fun g => (n.gargs g).filterMap fun a => if a = x then some g.w else none
structure IsOrder (n : Net) (o : List S) : Prop where
  perm : o.Perm n.gw
  topo : ∀ (i : Nat) (x : S), o[i]? = some x → ∀ g ∈ n.gates, g.w = x → ∀ a ∈ g.args, a ∈ n.gw → a ∈ o.take i
def cnt (n : Net) (done : List S) (g : Gate) : Nat := ((n.gargs g).filter fun a => decide (a ∉ done)).length

def peelU (wt : S → Int) (out : List S) : List S → (S → Int) × List S
  | [] => (wt, out)
  | u :: us => peelU (fun x => if x = u then wt u - 1 else wt x) (if wt u - 1 = 0 then out ++ [u] else out) us
structure PeelInv (n : Net) (out : List S) (k : Nat) (wt : S → Int) : Prop where
  nd : out.Nodup
  sub : ∀ x ∈ out, x ∈ n.gw
  le : k ≤ out.length
  wt : ∀ g ∈ n.gates, wt g.w = (cnt n (out.take k) g : Int)
  zero : ∀ g ∈ n.gates, (g.w ∈ out ↔ cnt n (out.take k) g = 0)
  topo : ∀ (i : Nat) (x : S), out[i]? = some x → ∀ g ∈ n.gates, g.w = x → ∀ a ∈ n.gargs g, a ∈ out.take i

theorem filterMap_rep (x y : S) : ∀ l : List S, (l.filterMap fun a => if a = x then some y else none) = List.replicate (l.count x) y
  | [] => rfl
  | a :: r => by
    rw [List.filterMap_cons]
    by_cases h : a = x
    · subst h
      rw [if_pos rfl, List.count_cons_self, List.replicate_succ]
      exact congrArg _ (filterMap_rep a y r)
    · rw [if_neg h, List.count_cons_of_ne h]
      exact filterMap_rep x y r
theorem users_count_aux (x : S) : ∀ (l : List Gate) (g : Gate), (l.map (·.w)).Nodup → g ∈ l → (l.flatMap fun d => List.replicate ((n.gargs d).count x) d.w).count g.w = (n.gargs g).count x := by
  intro l
  induction l with
  | nil => intro g _ h; exact nomatch h
  | cons d r ih =>
    intro g nd h
    have nd' : (d.w :: r.map (·.w)).Nodup := nd
    obtain ⟨h1, h2⟩ := List.nodup_cons.mp nd'
    rw [List.flatMap_cons, List.count_append]
    have not_in : ∀ y, y ∉ r.map (·.w) → (r.flatMap fun d => List.replicate ((n.gargs d).count x) d.w).count y = 0 := fun y hy => by
      refine List.count_eq_zero.mpr fun m => ?_
      obtain ⟨e, he, hm⟩ := List.mem_flatMap.mp m
      have := (List.mem_replicate.mp hm).2
      exact hy (this ▸ List.mem_map_of_mem he)
    rcases List.mem_cons.mp h with e | h
    · subst e
      rw [not_in _ h1, List.count_replicate_self]
      rfl
    · have ne : d.w ≠ g.w := fun e => h1 (e ▸ List.mem_map_of_mem h)
      rw [ih g h2 h, List.count_replicate, if_neg (by simpa using ne), Nat.zero_add]
theorem users_eq (x : S) : n.usersOf x = n.gates.flatMap fun d => List.replicate ((n.gargs d).count x) d.w := by
  unfold Net.usersOf
  congr 1
  funext g
  exact filterMap_rep x g.w _
theorem users_count (hs : Sound n) (x : S) {g : Gate} (hg : g ∈ n.gates) : (n.usersOf x).count g.w = (n.gargs g).count x := by
  rw [users_eq]
  exact users_count_aux x n.gates g hs.gnd hg
theorem users_sub (x : S) : ∀ u ∈ n.usersOf x, u ∈ n.gw := fun u hu => by
  obtain ⟨g, hg, h⟩ := List.mem_flatMap.mp hu
  obtain ⟨a, _, e⟩ := List.mem_filterMap.mp h
  split at e
  · rw [← Option.some.inj e]; exact List.mem_map_of_mem hg
  · cases e
theorem cnt_cons {done : List S} {x : S} (hx : x ∉ done) (g : Gate) : cnt n (done ++ [x]) g + (n.gargs g).count x = cnt n done g := by
  unfold cnt
  generalize n.gargs g = l
  induction l with
  | nil => rfl
  | cons a r ih =>
    by_cases e : a = x
    · subst e
      rw [List.count_cons_self, List.filter_cons, if_neg (by simp), List.filter_cons, if_pos (by simpa using hx), List.length_cons]
      omega
    · rw [List.count_cons_of_ne e]
      by_cases hd : a ∈ done
      · rw [List.filter_cons, if_neg (by simp [hd]), List.filter_cons, if_neg (by simp [hd])]
        exact ih
      · rw [List.filter_cons, if_pos (by simp [hd, e]), List.filter_cons, if_pos (by simp [hd]), List.length_cons, List.length_cons]
        omega
/-- within the users of the wire at k: us have been gone through -/
structure PeelIn (n : Net) (out0 : List S) (k : Nat) (w0 : S) (us rest out : List S) (wt : S → Int) : Prop where
  all : us ++ rest = n.usersOf w0
  nd : out.Nodup
  sub : ∀ x ∈ out, x ∈ n.gw
  pre : ∃ new, out = out0 ++ new
  wt : ∀ g ∈ n.gates, wt g.w = (cnt n (out0.take k) g : Int) - (us.count g.w : Int)
  zero : ∀ g ∈ n.gates, (g.w ∈ out ↔ cnt n (out0.take k) g = us.count g.w)
  topo : ∀ (i : Nat) (x : S), out[i]? = some x → ∀ g ∈ n.gates, g.w = x → ∀ a ∈ n.gargs g, a ∈ out.take i
theorem take_mono {l : List S} {i j : Nat} (h : i ≤ j) {x : S} (hx : x ∈ l.take i) : x ∈ l.take j := by
  have : l.take i = (l.take j).take i := by rw [List.take_take, Nat.min_eq_left h]
  rw [this] at hx
  exact List.mem_of_mem_take hx
theorem peelIn_step (hs : Sound n) {out0 : List S} {k : Nat} {w0 u : S} {us rest out : List S} {wt : S → Int} (P0 : PeelInv n out0 k wt → True) (hk : out0[k]? = some w0) (nd0 : out0.Nodup) (h : PeelIn n out0 k w0 us (u :: rest) out wt) :
    PeelIn n out0 k w0 (us ++ [u]) rest (if wt u - 1 = 0 then out ++ [u] else out) (fun x => if x = u then wt u - 1 else wt x) := by
  have hkl : k < out0.length := (List.getElem?_eq_some_iff.mp hk).1
  have hw0 : w0 ∉ out0.take k := fun m => by
    obtain ⟨j, hj, e⟩ := List.getElem_of_mem m
    rw [List.length_take] at hj
    rw [List.getElem_take] at e
    have e2 := (List.getElem?_eq_some_iff.mp hk).2
    have := (List.getElem_inj nd0).mp (e.trans e2.symm)
    omega
  have tk : out0.take (k + 1) = out0.take k ++ [w0] := by
    rw [List.take_succ, hk]; rfl
  have hu : u ∈ n.gw := users_sub w0 u (by rw [← h.all]; exact List.mem_append_right _ List.mem_cons_self)
  obtain ⟨gu, hgu, egu⟩ := List.mem_map.mp hu
  have cu : ∀ g ∈ n.gates, us.count g.w + (u :: rest).count g.w = (n.gargs g).count w0 := fun g hg => by
    have := users_count hs w0 hg
    rw [← h.all, List.count_append] at this
    exact this
  have same : ∀ g ∈ n.gates, g.w = u → g = gu := fun g hg e => by
    have h1 := gate?_of hs.gnd hg
    have h2 := gate?_of hs.gnd hgu
    rw [e, ← egu] at h1
    exact Option.some.inj (h1.symm.trans h2)
  have cuu : us.count u + 1 ≤ (n.gargs gu).count w0 := by
    have := cu gu hgu
    rw [egu, List.count_cons_self] at this
    omega
  have cc := cnt_cons (n := n) hw0 gu
  have wu := h.wt gu hgu
  rw [egu] at wu
  have zu := h.zero gu hgu
  rw [egu] at zu
  have unot : u ∉ out := fun m => by
    have := zu.mp m
    omega
  have key : wt u - 1 = 0 ↔ cnt n (out0.take k) gu = us.count u + 1 := by
    rw [wu]
    omega
  obtain ⟨new, hnew⟩ := h.pre
  refine ⟨by rw [List.append_assoc]; exact h.all, ?_, ?_, ?_, ?_, ?_, ?_⟩
  · split
    · exact List.nodup_append.mpr ⟨h.nd, by simp, fun x hx y hy e => unot (by rw [← List.mem_singleton.mp hy, ← e]; exact hx)⟩
    · exact h.nd
  · split
    · intro x hx
      rcases List.mem_append.mp hx with hx | hx
      · exact h.sub x hx
      · rw [List.mem_singleton.mp hx]; exact hu
    · exact h.sub
  · split
    · exact ⟨new ++ [u], by rw [hnew, List.append_assoc]⟩
    · exact ⟨new, hnew⟩
  · intro g hg
    rw [List.count_append]
    by_cases e : g.w = u
    · rw [if_pos e, wu, e]
      have eg := same g hg e
      subst eg
      simp
      omega
    · rw [if_neg e, h.wt g hg]
      have : ([u] : List S).count g.w = 0 := List.count_eq_zero.mpr fun m => e (List.mem_singleton.mp m)
      rw [this]
      simp
  · intro g hg
    rw [List.count_append]
    by_cases e : g.w = u
    · have eg := same g hg e
      subst eg
      rw [egu]
      have c1 : ([u] : List S).count u = 1 := by simp
      rw [c1]
      split
      · rename_i q
        exact ⟨fun _ => key.mp q, fun _ => List.mem_append_right _ (List.mem_singleton.mpr rfl)⟩
      · rename_i q
        exact ⟨fun m => absurd m unot, fun z => absurd (key.mpr z) q⟩
    · have : ([u] : List S).count g.w = 0 := List.count_eq_zero.mpr fun m => e (List.mem_singleton.mp m)
      rw [this, Nat.add_zero]
      refine Iff.trans ?_ (h.zero g hg)
      split
      · refine ⟨fun m => ?_, fun m => List.mem_append_left _ m⟩
        rcases List.mem_append.mp m with m | m
        · exact m
        · exact absurd (List.mem_singleton.mp m) e
      · exact Iff.rfl
  · intro i x hi g hg e a ha
    split at hi
    · rename_i q
      rw [if_pos q]
      by_cases hlt : i < out.length
      · rw [List.getElem?_append_left hlt] at hi
        rw [List.take_append_of_le_length (Nat.le_of_lt hlt)]
        exact h.topo i x hi g hg e a ha
      · have ei : i = out.length := by
          have h1 := (List.getElem?_eq_some_iff.mp hi).1
          rw [List.length_append, List.length_singleton] at h1
          omega
        subst ei
        rw [List.getElem?_append_right (Nat.le_refl _)] at hi
        have ex : u = x := by simpa using hi
        have eg := same g hg (e.trans ex.symm)
        subst eg
        rw [List.take_append_of_le_length (Nat.le_refl _), List.take_length, hnew]
        -- all of the gate's arguments have been gone through
        have c0 : cnt n (out0.take (k + 1)) g = 0 := by
          rw [tk]
          have := key.mp q
          omega
        have am : a ∈ out0.take (k + 1) := by
          refine Decidable.byContradiction fun z => ?_
          have : a ∈ (n.gargs g).filter fun a => decide (a ∉ out0.take (k + 1)) := List.mem_filter.mpr ⟨ha, by simpa using z⟩
          have l0 : ((n.gargs g).filter fun a => decide (a ∉ out0.take (k + 1))) = [] := List.length_eq_zero_iff.mp c0
          rw [l0] at this
          exact nomatch this
        exact List.mem_append_left _ (List.mem_of_mem_take am)
    · rename_i q
      rw [if_neg q]
      exact h.topo i x hi g hg e a ha
theorem peelIn_start {out : List S} {k : Nat} {wt : S → Int} {w0 : S} (h : PeelInv n out k wt) : PeelIn n out k w0 [] (n.usersOf w0) out wt :=
  ⟨rfl, h.nd, h.sub, ⟨[], by simp⟩, fun g hg => by rw [h.wt g hg]; simp, fun g hg => by rw [h.zero g hg]; simp, h.topo⟩
theorem peelIn_end (hs : Sound n) {out0 out : List S} {k : Nat} {wt : S → Int} {w0 : S} (hk : out0[k]? = some w0) (nd0 : out0.Nodup) (h : PeelIn n out0 k w0 (n.usersOf w0) [] out wt) : PeelInv n out (k + 1) wt := by
  have hkl : k < out0.length := (List.getElem?_eq_some_iff.mp hk).1
  have hw0 : w0 ∉ out0.take k := fun m => by
    obtain ⟨j, hj, e⟩ := List.getElem_of_mem m
    rw [List.length_take] at hj
    rw [List.getElem_take] at e
    have e2 := (List.getElem?_eq_some_iff.mp hk).2
    have := (List.getElem_inj nd0).mp (e.trans e2.symm)
    omega
  obtain ⟨new, hnew⟩ := h.pre
  have tk : out.take (k + 1) = out0.take k ++ [w0] := by
    rw [hnew, List.take_append_of_le_length (by omega), List.take_succ, hk]; rfl
  have cc : ∀ g ∈ n.gates, cnt n (out.take (k + 1)) g + (n.usersOf w0).count g.w = cnt n (out0.take k) g := fun g hg => by
    rw [tk, users_count hs w0 hg]
    exact cnt_cons hw0 g
  refine ⟨h.nd, h.sub, by rw [hnew, List.length_append]; omega, fun g hg => ?_, fun g hg => ?_, h.topo⟩
  · rw [h.wt g hg]
    have := cc g hg
    omega
  · rw [h.zero g hg]
    have := cc g hg
    omega
/-- the start: the gates without gates ahead of them -/
theorem peel_start (hs : Sound n) {wt : S → Int} (hw : ∀ g ∈ n.gates, wt g.w = ((n.gargs g).length : Int)) : PeelInv n (n.gw.filter fun x => decide (wt x = 0)) 0 wt := by
  have c0 : ∀ g, cnt n (([] : List S)) g = (n.gargs g).length := fun g => by
    unfold cnt
    congr 1
    exact List.filter_eq_self.mpr fun a _ => by simp
  refine ⟨hs.gnd.sublist List.filter_sublist, fun x hx => (List.mem_filter.mp hx).1, Nat.zero_le _, fun g hg => ?_, fun g hg => ?_, fun i x hi g hg e a ha => ?_⟩
  · rw [List.take_zero, c0, hw g hg]
  · rw [List.take_zero, c0]
    have := hw g hg
    refine ⟨fun m => ?_, fun z => List.mem_filter.mpr ⟨List.mem_map_of_mem hg, decide_eq_true (by omega)⟩⟩
    have h2 := of_decide_eq_true (List.mem_filter.mp m).2
    omega
  · have hm := List.mem_filter.mp (List.mem_of_getElem? hi)
    have h2 := of_decide_eq_true hm.2
    rw [← e, hw g hg] at h2
    have : (n.gargs g).length = 0 := by omega
    rw [List.length_eq_zero_iff.mp this] at ha
    exact nomatch ha
theorem peel_done (hs : Sound n) {out : List S} {wt : S → Int} (h : PeelInv n out out.length wt) : IsOrder n out := by
  have all : ∀ x ∈ n.gw, x ∈ out := by
    obtain ⟨rk, hk⟩ := hs.acyc
    have key : ∀ (m : Nat) (g : Gate), g ∈ n.gates → rk g.w < m → g.w ∈ out := by
      intro m
      induction m with
      | zero => intro g _ h; exact absurd h (Nat.not_lt_zero _)
      | succ m ih =>
        intro g hg hm
        rw [h.zero g hg, List.take_length]
        unfold cnt
        rw [List.length_eq_zero_iff, List.filter_eq_nil_iff]
        intro a ha
        have ha2 := List.mem_filter.mp ha
        obtain ⟨d, hd, e⟩ := List.mem_map.mp (of_decide_eq_true ha2.2)
        have := hk g hg a ha2.1
        rw [← e] at this ⊢
        have h3 := ih d hd (by omega)
        simpa using h3
    intro x hx
    obtain ⟨g, hg, e⟩ := List.mem_map.mp hx
    rw [← e]
    exact key _ g hg (Nat.lt_succ_self _)
  refine ⟨?_, fun i x hi g hg e a ha hag => h.topo i x hi g hg e a (List.mem_filter.mpr ⟨ha, decide_eq_true hag⟩)⟩
  exact (List.perm_ext_iff_of_nodup h.nd hs.gnd).mpr fun x => ⟨h.sub x, all x⟩

/-! ### the law's sorting -/
def Net.roots (n : Net) : List S := n.ins ++ n.rw
def rdy (n : Net) (out : List Gate) (g : Gate) : Bool := g.args.all fun a => decide (a ∈ n.roots ++ out.map (·.w))
def roundF (n : Net) (out rest : List Gate) : List Gate → List Gate × List Gate
  | [] => (out, rest)
  | g :: gs => if rdy n out g = true then roundF n (out ++ [g]) rest gs else roundF n out (rest ++ [g]) gs
def sortF (n : Net) : Nat → List Gate → List Gate → List Gate × List Gate
  | 0, out, left => (out, left)
  | k + 1, out, left => sortF n k (roundF n out [] left).1 (roundF n out [] left).2
structure Topo (n : Net) (out : List Gate) : Prop where
  t : ∀ (i : Nat) (g : Gate), out[i]? = some g → ∀ a ∈ g.args, a ∈ n.roots ++ (out.take i).map (·.w)
theorem Topo.snoc {out : List Gate} {g : Gate} (h : Topo n out) (hr : rdy n out g = true) : Topo n (out ++ [g]) := ⟨fun i d hi a ha => by
  by_cases hlt : i < out.length
  · rw [List.getElem?_append_left hlt] at hi
    rw [List.take_append_of_le_length (Nat.le_of_lt hlt)]
    exact h.t i d hi a ha
  · have ei : i = out.length := by
      have h1 := (List.getElem?_eq_some_iff.mp hi).1
      rw [List.length_append, List.length_singleton] at h1
      omega
    subst ei
    rw [List.getElem?_append_right (Nat.le_refl _)] at hi
    have ex : g = d := by simpa using hi
    subst ex
    rw [List.take_append_of_le_length (Nat.le_refl _), List.take_length]
    exact of_decide_eq_true (List.all_eq_true.mp hr a ha)⟩
theorem roundF_ok : ∀ {left out rest : List Gate}, Topo n out → Topo n (roundF n out rest left).1 ∧ ((roundF n out rest left).1 ++ (roundF n out rest left).2).Perm (out ++ rest ++ left) ∧ out.length ≤ (roundF n out rest left).1.length
  | [], out, rest, h => ⟨h, by show (out ++ rest).Perm _; simp, Nat.le_refl _⟩
  | g :: gs, out, rest, h => by
    unfold roundF
    split
    · rename_i hr
      obtain ⟨h1, h2, h3⟩ := roundF_ok (left := gs) (rest := rest) (h.snoc hr)
      refine ⟨h1, h2.trans ?_, by rw [List.length_append] at h3; omega⟩
      rw [List.append_assoc, List.append_assoc, List.append_assoc]
      refine List.Perm.append_left _ ?_
      exact (List.perm_middle (a := g) (l₁ := rest) (l₂ := gs)).symm
    · obtain ⟨h1, h2, h3⟩ := roundF_ok (left := gs) (rest := rest ++ [g]) h
      refine ⟨h1, h2.trans ?_, h3⟩
      rw [List.append_assoc, List.append_assoc, List.append_assoc]
      exact List.Perm.refl _
/-- if one is ready in left, one is taken -/
theorem roundF_more : ∀ {left out rest : List Gate}, Topo n out → (∃ g ∈ left, rdy n out g = true) → out.length < (roundF n out rest left).1.length
  | [], _, _, _, ⟨_, h, _⟩ => nomatch h
  | g :: gs, out, rest, h, ⟨d, hd, hr⟩ => by
    unfold roundF
    split
    · rename_i q
      have := (roundF_ok (n := n) (left := gs) (rest := rest) (h.snoc q)).2.2
      rw [List.length_append, List.length_singleton] at this
      omega
    · rename_i q
      rcases List.mem_cons.mp hd with e | hd
      · subst e; exact absurd hr q
      · exact roundF_more h ⟨d, hd, hr⟩
theorem least_rank (rk : S → Nat) : ∀ {l : List Gate}, l ≠ [] → ∃ g ∈ l, ∀ d ∈ l, rk g.w ≤ rk d.w
  | [], h => absurd rfl h
  | [g], _ => ⟨g, List.mem_singleton.mpr rfl, fun d hd => by rw [List.mem_singleton.mp hd]; exact Nat.le_refl _⟩
  | g :: b :: r, _ => by
    obtain ⟨m, hm, hl⟩ := least_rank rk (l := b :: r) (by simp)
    by_cases q : rk g.w ≤ rk m.w
    · refine ⟨g, List.mem_cons_self, fun d hd => ?_⟩
      rcases List.mem_cons.mp hd with e | hd
      · subst e; exact Nat.le_refl _
      · exact Nat.le_trans q (hl d hd)
    · refine ⟨m, List.mem_cons_of_mem _ hm, fun d hd => ?_⟩
      rcases List.mem_cons.mp hd with e | hd
      · subst e; omega
      · exact hl d hd
theorem some_ready (hs : Sound n) {out left : List Gate} (hp : (out ++ left).Perm n.gates) (hl : left ≠ []) : ∃ g ∈ left, rdy n out g = true := by
  obtain ⟨rk, hk⟩ := hs.acyc
  obtain ⟨g, hg, hm⟩ := least_rank rk hl
  have hgn : g ∈ n.gates := hp.mem_iff.mp (List.mem_append_right _ hg)
  refine ⟨g, hg, List.all_eq_true.mpr fun a ha => decide_eq_true ?_⟩
  rcases List.mem_append.mp (hs.args g hgn a ha) with h | h
  · rcases List.mem_append.mp h with h | h
    · exact List.mem_append_left _ (List.mem_append_left _ h)
    · obtain ⟨d, hd, e⟩ := List.mem_map.mp h
      rcases List.mem_append.mp (hp.mem_iff.mpr hd) with q | q
      · exact List.mem_append_right _ (List.mem_map.mpr ⟨d, q, e⟩)
      · have h1 := hk g hgn a ha
        have h2 := hm d q
        rw [← e] at h1
        omega
  · exact List.mem_append_left _ (List.mem_append_right _ h)
theorem sortF_ok (hs : Sound n) : ∀ (k : Nat) {out left : List Gate}, Topo n out → (out ++ left).Perm n.gates → left.length ≤ k → Topo n (sortF n k out left).1 ∧ (sortF n k out left).1.Perm n.gates
  | 0, out, left, h, hp, hl => by
    have : left = [] := List.length_eq_zero_iff.mp (Nat.le_zero.mp hl)
    subst this
    rw [List.append_nil] at hp
    exact ⟨h, hp⟩
  | k + 1, out, left, h, hp, hl => by
    unfold sortF
    obtain ⟨h1, h2, h3⟩ := roundF_ok (n := n) (left := left) (rest := []) h
    rw [List.append_nil] at h2
    have hp' := h2.trans hp
    refine sortF_ok hs k h1 hp' ?_
    have e1 := hp.length_eq
    have e2 := hp'.length_eq
    rw [List.length_append] at e1 e2
    by_cases q : left = []
    · subst q
      show ([] : List Gate).length ≤ k
      exact Nat.zero_le _
    · have := roundF_more (n := n) (rest := []) h (some_ready hs hp q)
      omega
theorem sort_ok (hs : Sound n) : Topo n (sortF n n.gates.length [] n.gates).1 ∧ (sortF n n.gates.length [] n.gates).1.Perm n.gates :=
  sortF_ok hs _ ⟨fun i g hi => by simp at hi⟩ (List.Perm.refl _) (Nat.le_refl _)
end
end Wi
set_option maxHeartbeats 200000
set_option maxRecDepth 512
/-! M6: designs; what flattening gives; it is sound -/
namespace Wi
open PySem
/-! ### texts -/
abbrev ls (x : S) : List Nat := x.cps.toList
theorem S.ext {x y : S} (h : ls x = ls y) : x = y := by
  obtain ⟨a⟩ := x
  obtain ⟨b⟩ := y
  have : a = b := Array.ext' h
  rw [this]
theorem ls_app (x y : S) : ls (x ++ y) = ls x ++ ls y := by
  show (x.cps ++ y.cps).toList = _
  rw [Array.toList_append]
theorem S.assoc (x y z : S) : x ++ y ++ z = x ++ (y ++ z) := S.ext (by rw [ls_app, ls_app, ls_app, ls_app, List.append_assoc])
theorem S.app_inj {x y z : S} (h : x ++ y = x ++ z) : y = z := S.ext (by
  have := congrArg ls h
  rw [ls_app, ls_app] at this
  exact List.append_cancel_left this)
theorem S.nil_app (x : S) : PySem.Str.empty ++ x = x := S.ext (by rw [ls_app]; rfl)
theorem S.app_nil (x : S) : x ++ PySem.Str.empty = x := S.ext (by rw [ls_app]; show ls x ++ [] = _; rw [List.append_nil])
abbrev dotS : S := PySem.Str.ofString "."
abbrev holdS : S := PySem.Str.ofString ".hold"
abbrev firstS : S := PySem.Str.ofString ".first"
abbrev clearS : S := PySem.Str.ofString ".clear"
theorem ls_dot : ls dotS = [46] := by decide +kernel
theorem ls_hold : ls holdS = [46, 104, 111, 108, 100] := by decide +kernel
theorem ls_first : ls firstS = [46, 102, 105, 114, 115, 116] := by decide +kernel
theorem ls_clear : ls clearS = [46, 99, 108, 101, 97, 114] := by decide +kernel

/-- nothing, or a dot and more -/
def Tail (t : List Nat) : Prop := t = [] ∨ ∃ r, t = 46 :: r
theorem no_dot {x : S} (h : isName x = true) : ∀ c ∈ ls x, c ≠ 46 := by
  unfold isName at h
  cases e : x.cps.toList with
  | nil => rw [e] at h; cases h
  | cons c r =>
    rw [e] at h
    simp only [Bool.and_eq_true] at h
    obtain ⟨⟨h1, h2⟩, _⟩ := h
    intro d hd
    have hd' : d ∈ c :: r := by rw [← e]; exact hd
    rcases List.mem_cons.mp hd' with q | q
    · subst q
      intro z
      subst z
      simp [az] at h1
    · intro z
      subst z
      have := List.all_eq_true.mp h2 46 q
      simp [az, dg] at this
theorem split_head {x t : List Nat} (hx : ∀ c ∈ x, c ≠ 46) (ht : Tail t) : (x ++ t).takeWhile (fun c => decide (c ≠ 46)) = x ∧ (x ++ t).dropWhile (fun c => decide (c ≠ 46)) = t := by
  induction x with
  | nil =>
    rcases ht with e | ⟨r, e⟩
    · subst e; exact ⟨rfl, rfl⟩
    · subst e; exact ⟨by simp, by simp⟩
  | cons c r ih =>
    have hc := hx c List.mem_cons_self
    obtain ⟨h1, h2⟩ := ih fun d hd => hx d (List.mem_cons_of_mem _ hd)
    rw [List.cons_append, List.takeWhile_cons, List.dropWhile_cons, if_pos (by simpa using hc), if_pos (by simpa using hc), h1, h2]
    exact ⟨rfl, rfl⟩
theorem same_head {p : List Nat} {x y t u : List Nat} (hx : ∀ c ∈ x, c ≠ 46) (hy : ∀ c ∈ y, c ≠ 46) (ht : Tail t) (hu : Tail u) (e : p ++ (x ++ t) = p ++ (y ++ u)) : x = y ∧ t = u := by
  have e' := List.append_cancel_left e
  obtain ⟨a1, a2⟩ := split_head hx ht
  obtain ⟨b1, b2⟩ := split_head hy hu
  rw [e'] at a1 a2
  exact ⟨a1.symm.trans b1, a2.symm.trans b2⟩
/-- the wire w stands at the name x behind p -/
def At (p x w : S) : Prop := ∃ t : S, Tail (ls t) ∧ w = p ++ x ++ t
theorem At.same {p x y w : S} (hx : isName x = true) (hy : isName y = true) (a : At p x w) (b : At p y w) : x = y := by
  obtain ⟨t, ht, e⟩ := a
  obtain ⟨u, hu, e2⟩ := b
  rw [e] at e2
  have := congrArg ls e2
  rw [ls_app, ls_app, ls_app, ls_app, List.append_assoc, List.append_assoc] at this
  exact S.ext (same_head (no_dot hx) (no_dot hy) ht hu this).1
theorem At.here (p x : S) : At p x (p ++ x) := ⟨PySem.Str.empty, .inl rfl, by rw [S.app_nil]⟩
theorem At.in_ {p x w : S} {q : S} (h : ∃ t, w = p ++ x ++ dotS ++ t) : At p x w := by
  obtain ⟨t, e⟩ := h
  refine ⟨dotS ++ t, .inr ⟨ls t, ?_⟩, by rw [e, S.assoc (p ++ x)]⟩
  rw [ls_app, ls_dot]; rfl

/-! ### designs -/
inductive Item where
  | gate (nm : S) (op : Op) (sg : List S)
  | reg (nm : S) (fi : Bool) (sg : S) (wh cl : Option S)
  | use (nm md : S) (sg : List S)
  deriving DecidableEq
def Item.nm : Item → S
  | .gate x _ _ => x
  | .reg x _ _ _ _ => x
  | .use x _ _ => x
def Item.isReg : Item → Bool
  | .reg .. => true
  | _ => false
def Item.isUse : Item → Bool
  | .use .. => true
  | _ => false
structure Mod where
  nm : S
  ins : List S
  outs : List S
  items : List Item
  deriving DecidableEq
def modAt (ds : List Mod) (x : S) : Option Mod := ds.find? fun m => decide (m.nm = x)
/-- the signals that an item reads -/
def Item.sgs : Item → List S
  | .gate _ _ sg => sg
  | .reg _ _ sg wh cl => sg :: (wh.toList ++ cl.toList)
  | .use _ _ sg => sg
def Item.ports (ds : List Mod) : Item → List S
  | .use x md _ => (match modAt ds md with
    | some u => u.outs.map fun o => x ++ dotS ++ o
    | none => [])
  | _ => []
def Item.outSig (ds : List Mod) : Item → List S
  | .gate x _ _ => [x]
  | .reg .. => []
  | i => i.ports ds
def Mod.plain (m : Mod) : List S := m.ins ++ (m.items.filter fun i => !i.isUse).map (·.nm)
def Mod.sigs (ds : List Mod) (m : Mod) : List S := m.plain ++ m.items.flatMap (Item.ports ds)
def Mod.comb (m : Mod) : List Item := m.items.filter fun i => !i.isReg
def Mod.regN (m : Mod) : List S := (m.items.filter fun i => i.isReg).map (·.nm)
def Mod.decl (m : Mod) : List S := m.ins ++ m.items.map (·.nm)
def ItemOk (ds : List Mod) : Item → Prop
  | .gate _ op sg => sg.length = op.ar
  | .reg .. => True
  | .use _ md sg => ∃ u, modAt ds md = some u ∧ sg.length = u.ins.length
structure MOk (ds : List Mod) (m : Mod) : Prop where
  nmN : isName m.nm = true
  nmNew : m.nm ∉ ds.map (·.nm)
  dclN : ∀ x ∈ m.decl, isName x = true
  dclD : m.decl.Nodup
  outs : ∀ o ∈ m.outs, o ∈ m.plain
  outD : m.outs.Nodup
  ok : ∀ i ∈ m.items, ItemOk ds i
  sig : ∀ i ∈ m.items, ∀ s ∈ i.sgs, s ∈ m.sigs ds
  ord : ∀ (j : Nat) (i : Item), m.comb[j]? = some i → ∀ s ∈ i.sgs, s ∈ m.ins ++ m.regN ++ (m.comb.take j).flatMap (Item.outSig ds)
def DesOk (ds : List Mod) : Prop := ∀ (i : Nat) (m : Mod), ds[i]? = some m → MOk (ds.take i) m

/-! ### the visit -/
def regSrc (p nm sg : S) (wh cl : Option S) : S := if cl.isSome then p ++ nm ++ clearS else if wh.isSome then p ++ nm ++ holdS else p ++ sg
def holdSrc (p nm sg : S) (wh : Option S) : S := if wh.isSome then p ++ nm ++ holdS else p ++ sg
def holdG (p nm sg : S) : Option S → List Gate
  | some e => [⟨p ++ nm ++ holdS, .mux, [p ++ e, p ++ nm, p ++ sg]⟩]
  | none => []
def clearG (p nm : S) (fi : Bool) (src : S) : Option S → List Gate
  | some z => [⟨p ++ nm ++ firstS, if fi then .one else .zero, []⟩, ⟨p ++ nm ++ clearS, .mux, [p ++ z, src, p ++ nm ++ firstS]⟩]
  | none => []
def portG (p nm : S) (ins sg : List S) : List Gate := (ins.zip sg).map fun q => ⟨p ++ nm ++ dotS ++ q.1, .buf, [p ++ q.2]⟩
def itemG (ds : List Mod) (sub : Mod → S → List Gate) (p : S) : Item → List Gate
  | .gate x op sg => [⟨p ++ x, op, sg.map fun s => p ++ s⟩]
  | .reg x fi sg wh cl => holdG p x sg wh ++ clearG p x fi (holdSrc p x sg wh) cl
  | .use x md sg => match modAt ds md with
    | some u => portG p x u.ins sg ++ sub u (p ++ x ++ dotS)
    | none => []
def itemR (ds : List Mod) (sub : Mod → S → List Reg) (p : S) : Item → List Reg
  | .gate .. => []
  | .reg x fi sg wh cl => [⟨p ++ x, fi, regSrc p x sg wh cl⟩]
  | .use x md sg => match modAt ds md with
    | some u => sub u (p ++ x ++ dotS)
    | none => []
def visG (ds : List Mod) : Nat → Mod → S → List Gate
  | 0, _, _ => []
  | k + 1, m, p => m.items.flatMap (itemG ds (visG ds k) p)
def visR (ds : List Mod) : Nat → Mod → S → List Reg
  | 0, _, _ => []
  | k + 1, m, p => m.items.flatMap (itemR ds (visR ds k) p)
def itemSz (ds : List Mod) (sub : Mod → Nat) : Item → Nat
  | .gate .. => 1
  | .reg _ _ _ wh cl => 1 + (if wh.isSome then 1 else 0) + (if cl.isSome then 2 else 0)
  | .use _ md _ => match modAt ds md with
    | some u => u.ins.length + sub u
    | none => 0
def sizeV (ds : List Mod) : Nat → Mod → Nat
  | 0, _ => 0
  | k + 1, m => (m.items.map (itemSz ds (sizeV ds k))).sum
def flatN (ds : List Mod) (k : Nat) (m : Mod) : Net := ⟨m.ins, visG ds k m PySem.Str.empty, visR ds k m PySem.Str.empty, m.outs⟩

theorem itemG_use {ds : List Mod} {sub : Mod → S → List Gate} {p x md : S} {sg : List S} {u : Mod} (h : modAt ds md = some u) : itemG ds sub p (.use x md sg) = portG p x u.ins sg ++ sub u (p ++ x ++ dotS) := by
  show (match modAt ds md with
    | some u => portG p x u.ins sg ++ sub u (p ++ x ++ dotS)
    | none => []) = _
  rw [h]
theorem itemG_non {ds : List Mod} {sub : Mod → S → List Gate} {p x md : S} {sg : List S} (h : modAt ds md = none) : itemG ds sub p (.use x md sg) = [] := by
  show (match modAt ds md with
    | some u => portG p x u.ins sg ++ sub u (p ++ x ++ dotS)
    | none => []) = _
  rw [h]
theorem itemR_use {ds : List Mod} {sub : Mod → S → List Reg} {p x md : S} {sg : List S} {u : Mod} (h : modAt ds md = some u) : itemR ds sub p (.use x md sg) = sub u (p ++ x ++ dotS) := by
  show (match modAt ds md with
    | some u => sub u (p ++ x ++ dotS)
    | none => []) = _
  rw [h]
theorem itemR_non {ds : List Mod} {sub : Mod → S → List Reg} {p x md : S} {sg : List S} (h : modAt ds md = none) : itemR ds sub p (.use x md sg) = [] := by
  show (match modAt ds md with
    | some u => sub u (p ++ x ++ dotS)
    | none => []) = _
  rw [h]

/-! ### finding modules -/
theorem modAt_some {ds : List Mod} {x : S} {u : Mod} (h : modAt ds x = some u) : u ∈ ds ∧ u.nm = x := by
  unfold modAt at h
  have h1 := List.find?_some h
  exact ⟨List.mem_of_find?_eq_some h, of_decide_eq_true h1⟩
theorem modAt_take {ds : List Mod} {i : Nat} {x : S} {u : Mod} (h : modAt (ds.take i) x = some u) : modAt ds x = some u := by
  have e : ds = ds.take i ++ ds.drop i := (List.take_append_drop i ds).symm
  unfold modAt at h ⊢
  rw [e, List.find?_append, h]; rfl
theorem mod_ix {ds : List Mod} {i : Nat} {x : S} {u : Mod} (h : modAt (ds.take i) x = some u) : ∃ j, j < i ∧ ds[j]? = some u := by
  obtain ⟨hm, _⟩ := modAt_some h
  obtain ⟨j, hj, e⟩ := List.getElem_of_mem hm
  rw [List.length_take] at hj
  rw [List.getElem_take] at e
  exact ⟨j, by omega, by rw [List.getElem?_eq_getElem (by omega), e]⟩
theorem flatMap_perm {α β : Type} (f g : α → List β) : ∀ l : List α, (l.flatMap f ++ l.flatMap g).Perm (l.flatMap fun x => f x ++ g x)
  | [] => List.Perm.refl _
  | a :: r => by
    rw [List.flatMap_cons, List.flatMap_cons, List.flatMap_cons]
    have ih := flatMap_perm f g r
    refine List.Perm.trans ?_ (List.Perm.append_left (f a ++ g a) ih)
    rw [List.append_assoc, List.append_assoc]
    refine List.Perm.append_left _ ?_
    rw [← List.append_assoc, ← List.append_assoc]
    exact List.Perm.append_right _ List.perm_append_comm
theorem nodup_flat {α β : Type} {f : α → List β} {l : List α} (h1 : ∀ a ∈ l, (f a).Nodup) (h2 : l.Pairwise fun a b => ∀ x ∈ f a, ∀ y ∈ f b, x ≠ y) : (l.flatMap f).Nodup := by
  induction l with
  | nil => exact List.nodup_nil
  | cons a r ih =>
    rw [List.flatMap_cons]
    obtain ⟨p1, p2⟩ := List.pairwise_cons.mp h2
    refine List.nodup_append.mpr ⟨h1 a List.mem_cons_self, ih (fun b hb => h1 b (List.mem_cons_of_mem _ hb)) p2, fun x hx y hy => ?_⟩
    obtain ⟨b, hb, hy⟩ := List.mem_flatMap.mp hy
    exact p1 b hb x hx y hy

/-! ### the wires of a visit -/
section
variable {ds : List Mod}
def gwV (ds : List Mod) (k : Nat) (m : Mod) (p : S) : List S := (visG ds k m p).map (·.w)
def rwV (ds : List Mod) (k : Nat) (m : Mod) (p : S) : List S := (visR ds k m p).map (·.w)
/-- all wires of an instance -/
def allV (ds : List Mod) (k : Nat) (m : Mod) (p : S) : List S := m.ins.map (fun x => p ++ x) ++ gwV ds k m p ++ rwV ds k m p
def itW (ds : List Mod) (k : Nat) (p : S) (i : Item) : List S := (itemG ds (visG ds k) p i).map (·.w) ++ (itemR ds (visR ds k) p i).map (·.w)
theorem gwV_succ (k : Nat) (m : Mod) (p : S) : gwV ds (k + 1) m p = m.items.flatMap fun i => (itemG ds (visG ds k) p i).map (·.w) := by
  unfold gwV
  rw [show visG ds (k + 1) m p = m.items.flatMap (itemG ds (visG ds k) p) from rfl, List.map_flatMap]
theorem rwV_succ (k : Nat) (m : Mod) (p : S) : rwV ds (k + 1) m p = m.items.flatMap fun i => (itemR ds (visR ds k) p i).map (·.w) := by
  unfold rwV
  rw [show visR ds (k + 1) m p = m.items.flatMap (itemR ds (visR ds k) p) from rfl, List.map_flatMap]
theorem wires_perm (k : Nat) (m : Mod) (p : S) : (gwV ds (k + 1) m p ++ rwV ds (k + 1) m p).Perm (m.items.flatMap (itW ds k p)) := by
  rw [gwV_succ, rwV_succ]
  exact flatMap_perm _ _ _
theorem portG_w (p nm : S) : ∀ (ins sg : List S), sg.length = ins.length → (portG p nm ins sg).map (·.w) = ins.map fun x => p ++ nm ++ dotS ++ x := by
  intro ins sg h
  unfold portG
  rw [List.map_map]
  have : (((ins.zip sg).map (·.1)).map fun x => p ++ nm ++ dotS ++ x) = ins.map fun x => p ++ nm ++ dotS ++ x := by
    rw [List.map_fst_zip (by omega)]
  rw [← this, List.map_map]
  rfl
theorem itW_use {k : Nat} {p x md : S} {sg : List S} {u : Mod} (h : modAt ds md = some u) (hl : sg.length = u.ins.length) : itW ds k p (.use x md sg) = allV ds k u (p ++ x ++ dotS) := by
  unfold itW
  rw [itemG_use h, itemR_use h, List.map_append, portG_w _ _ _ _ hl]
  rfl
theorem holdG_w (p nm sg : S) (wh : Option S) : (holdG p nm sg wh).map (·.w) = if wh.isSome then [p ++ nm ++ holdS] else [] := by cases wh <;> rfl
theorem clearG_w (p nm : S) (fi : Bool) (src : S) (cl : Option S) : (clearG p nm fi src cl).map (·.w) = if cl.isSome then [p ++ nm ++ firstS, p ++ nm ++ clearS] else [] := by cases cl <;> rfl
theorem itW_reg (k : Nat) (p x sg : S) (fi : Bool) (wh cl : Option S) : itW ds k p (.reg x fi sg wh cl) = (if wh.isSome then [p ++ x ++ holdS] else []) ++ (if cl.isSome then [p ++ x ++ firstS, p ++ x ++ clearS] else []) ++ [p ++ x] := by
  show (holdG p x sg wh ++ clearG p x fi (holdSrc p x sg wh) cl).map (·.w) ++ [p ++ x] = _
  rw [List.map_append, holdG_w, clearG_w]
theorem tails : Tail (ls holdS) ∧ Tail (ls firstS) ∧ Tail (ls clearS) := by
  rw [ls_hold, ls_first, ls_clear]
  exact ⟨.inr ⟨_, rfl⟩, .inr ⟨_, rfl⟩, .inr ⟨_, rfl⟩⟩
/-- every wire of an item stands at its name -/
theorem itW_at {k : Nat} {p : S} {i : Item} {es : List Mod} (ok : ItemOk es i) (sub : ∀ x u, modAt es x = some u → modAt ds x = some u)
    (h : ∀ (u : Mod) (q w : S), w ∈ allV ds k u q → ∃ t, w = q ++ t) {w : S} (hw : w ∈ itW ds k p i) : At p i.nm w := by
  cases i with
  | gate x op sg =>
    have : w = p ++ x := by
      have h1 : w ∈ [p ++ x] ++ [] := hw
      simpa using h1
    rw [this]
    exact At.here _ _
  | reg x fi sg wh cl =>
    rw [itW_reg] at hw
    rcases List.mem_append.mp hw with hw | hw
    · rcases List.mem_append.mp hw with hw | hw
      · split at hw
        · rw [List.mem_singleton.mp hw]; exact ⟨holdS, tails.1, rfl⟩
        · exact nomatch hw
      · split at hw
        · rcases List.mem_cons.mp hw with e | hw
          · rw [e]; exact ⟨firstS, tails.2.1, rfl⟩
          · rw [List.mem_singleton.mp hw]; exact ⟨clearS, tails.2.2, rfl⟩
        · exact nomatch hw
    · rw [List.mem_singleton.mp hw]; exact At.here _ _
  | use x md sg =>
    obtain ⟨u, hu, hl⟩ := ok
    rw [itW_use (sub _ _ hu) hl] at hw
    obtain ⟨t, e⟩ := h u _ w hw
    exact At.in_ (q := p) ⟨t, e⟩
theorem allV_pre : ∀ (k : Nat) (u : Mod) (q w : S), w ∈ allV ds k u q → ∃ t, w = q ++ t
  | 0, u, q, w, h => by
    have h1 : w ∈ u.ins.map (fun x => q ++ x) ++ [] ++ [] := h
    rw [List.append_nil, List.append_nil] at h1
    obtain ⟨x, _, e⟩ := List.mem_map.mp h1
    exact ⟨x, e.symm⟩
  | k + 1, u, q, w, h => by
    unfold allV at h
    rw [List.append_assoc] at h
    rcases List.mem_append.mp h with h | h
    · obtain ⟨x, _, e⟩ := List.mem_map.mp h
      exact ⟨x, e.symm⟩
    · obtain ⟨i, hi, hw⟩ := List.mem_flatMap.mp ((wires_perm k u q).mem_iff.mp h)
      cases i with
      | gate x op sg =>
        have h1 : w ∈ [q ++ x] ++ [] := hw
        exact ⟨x, by simpa using h1⟩
      | reg x fi sg wh cl =>
        rw [itW_reg] at hw
        rcases List.mem_append.mp hw with hw | hw
        · rcases List.mem_append.mp hw with hw | hw
          · split at hw
            · rw [List.mem_singleton.mp hw]; exact ⟨x ++ holdS, S.assoc _ _ _⟩
            · exact nomatch hw
          · split at hw
            · rcases List.mem_cons.mp hw with e | hw
              · rw [e]; exact ⟨x ++ firstS, S.assoc _ _ _⟩
              · rw [List.mem_singleton.mp hw]; exact ⟨x ++ clearS, S.assoc _ _ _⟩
            · exact nomatch hw
        · rw [List.mem_singleton.mp hw]; exact ⟨x, rfl⟩
      | use x md sg =>
        unfold itW at hw
        cases hm : modAt ds md with
        | none => rw [itemG_non hm, itemR_non hm] at hw; exact absurd hw (by simp)
        | some v =>
          rw [itemG_use hm, itemR_use hm] at hw
          have sub : ∀ w, (∃ t, w = q ++ x ++ dotS ++ t) → ∃ t, w = q ++ t := fun w ⟨t, e⟩ => ⟨x ++ (dotS ++ t), by rw [e, S.assoc, S.assoc]⟩
          rw [List.map_append] at hw
          rcases List.mem_append.mp hw with hw | hw
          · rcases List.mem_append.mp hw with hw | hw
            · obtain ⟨g, hg, e⟩ := List.mem_map.mp hw
              obtain ⟨z, _, e2⟩ := List.mem_map.mp hg
              subst e2
              exact sub _ ⟨z.1, e.symm⟩
            · exact sub _ (allV_pre k v _ w (List.mem_append_left _ (List.mem_append_right _ hw)))
          · exact sub _ (allV_pre k v _ w (List.mem_append_right _ hw))
theorem ne3 (q : S) : q ++ holdS ≠ q ++ firstS ∧ q ++ holdS ≠ q ++ clearS ∧ q ++ firstS ≠ q ++ clearS ∧ q ≠ q ++ holdS ∧ q ≠ q ++ firstS ∧ q ≠ q ++ clearS := by
  have f : ∀ {a b : S}, q ++ a = q ++ b → ls a = ls b := fun h => congrArg ls (S.app_inj h)
  have g : ∀ {a : S}, q = q ++ a → ls a = [] := fun {a} h => by
    have h2 : q ++ PySem.Str.empty = q ++ a := by rw [S.app_nil]; exact h
    exact (f h2).symm
  refine ⟨fun h => ?_, fun h => ?_, fun h => ?_, fun h => ?_, fun h => ?_, fun h => ?_⟩
  · have := f h; rw [ls_hold, ls_first] at this; cases this
  · have := f h; rw [ls_hold, ls_clear] at this; cases this
  · have := f h; rw [ls_first, ls_clear] at this; cases this
  · have := g h; rw [ls_hold] at this; cases this
  · have := g h; rw [ls_first] at this; cases this
  · have := g h; rw [ls_clear] at this; cases this
theorem itW_regD (k : Nat) (p x sg : S) (fi : Bool) (wh cl : Option S) : (itW ds k p (.reg x fi sg wh cl)).Nodup := by
  rw [itW_reg]
  obtain ⟨a, b, c, d, e, f⟩ := ne3 (p ++ x)
  cases wh <;> cases cl <;> simp [a, b, c, Ne.symm d, Ne.symm e, Ne.symm f]
theorem allV_nodup (D : DesOk ds) : ∀ (k i : Nat) (m : Mod) (p : S), i < k → ds[i]? = some m → (allV ds k m p).Nodup
  | 0, i, m, p, h, _ => absurd h (Nat.not_lt_zero _)
  | k + 1, i, m, p, h, hm => by
    have M := D i m hm
    have sub : ∀ x u, modAt (ds.take i) x = some u → modAt ds x = some u := fun x u z => modAt_take z
    have at_ : ∀ it ∈ m.items, ∀ w ∈ itW ds k p it, At p it.nm w := fun it hi w hw => itW_at (M.ok it hi) sub (allV_pre k) hw
    have nmOk : ∀ it ∈ m.items, isName it.nm = true := fun it hi => M.dclN _ (List.mem_append_right _ (List.mem_map_of_mem hi))
    obtain ⟨dI, dN, dX⟩ := List.nodup_append.mp M.dclD
    unfold allV
    rw [List.append_assoc]
    have hflat : (m.items.flatMap (itW ds k p)).Nodup := by
      refine nodup_flat (fun it hi => ?_) ?_
      · cases it with
        | gate x op sg => show ([p ++ x] ++ [] : List S).Nodup; simp
        | reg x fi sg wh cl => exact itW_regD _ _ _ _ _ _ _
        | use x md sg =>
          obtain ⟨u, hu, hl⟩ := M.ok _ hi
          rw [itW_use (sub _ _ hu) hl]
          obtain ⟨j, hj, hju⟩ := mod_ix hu
          exact allV_nodup D k j u _ (by omega) hju
      · have pw : m.items.Pairwise fun a b => a.nm ≠ b.nm := List.pairwise_map.mp dN
        refine (List.pairwise_iff_forall_sublist.mpr fun {a b} hab => ?_)
        have hne := List.pairwise_iff_forall_sublist.mp pw hab
        have ha : a ∈ m.items := hab.mem (by simp)
        have hb : b ∈ m.items := hab.mem (by simp)
        intro x hx y hy e
        subst e
        exact hne ((at_ a ha x hx).same (nmOk a ha) (nmOk b hb) (at_ b hb x hy))
    refine List.nodup_append.mpr ⟨?_, (wires_perm k m p).nodup_iff.mpr hflat, fun x hx y hy e => ?_⟩
    · exact List.pairwise_map.mpr (dI.imp fun h e => h (S.app_inj e))
    · subst e
      obtain ⟨z, hz, e⟩ := List.mem_map.mp hx
      obtain ⟨it, hi, hw⟩ := List.mem_flatMap.mp ((wires_perm k m p).mem_iff.mp hy)
      have h1 := at_ it hi x hw
      rw [← e] at h1
      have := (At.here p z).same (M.dclN z (List.mem_append_left _ hz)) (nmOk it hi) h1
      exact dX z hz it.nm (List.mem_map_of_mem hi) this
end
end Wi
set_option maxHeartbeats 200000
set_option maxRecDepth 512
/-! M7: what flattening gives is sound; its size -/
namespace Wi
open PySem
section
variable {ds : List Mod}
/-! ### signals and wires -/
theorem itW_in {k : Nat} {m : Mod} {p w : S} {it : Item} (hi : it ∈ m.items) (h : w ∈ itW ds k p it) : w ∈ allV ds (k + 1) m p := by
  unfold allV
  rw [List.append_assoc]
  exact List.mem_append_right _ ((wires_perm k m p).mem_iff.mpr (List.mem_flatMap.mpr ⟨it, hi, h⟩))
theorem ins_in {k : Nat} {m : Mod} {p x : S} (h : x ∈ m.ins) : p ++ x ∈ allV ds k m p := by
  unfold allV
  rw [List.append_assoc]
  exact List.mem_append_left _ (List.mem_map_of_mem h)
theorem plain_in {k : Nat} {m : Mod} {p s : S} (h : s ∈ m.plain) : p ++ s ∈ allV ds (k + 1) m p := by
  rcases List.mem_append.mp h with h | h
  · exact ins_in h
  · obtain ⟨it, hi, e⟩ := List.mem_map.mp h
    obtain ⟨hi, hu⟩ := List.mem_filter.mp hi
    refine itW_in hi ?_
    rw [← e]
    cases it with
    | gate x op sg => exact List.mem_append_left _ (List.mem_singleton.mpr rfl)
    | reg x fi sg wh cl => exact List.mem_append_right _ (List.mem_singleton.mpr rfl)
    | use x md sg => exact absurd hu (by simp [Item.isUse])
theorem ports_some {es : List Mod} {x md : S} {sg : List S} {u : Mod} (h : modAt es md = some u) : Item.ports es (.use x md sg) = u.outs.map fun o => x ++ dotS ++ o := by
  show (match modAt es md with
    | some u => u.outs.map fun o => x ++ dotS ++ o
    | none => []) = _
  rw [h]
theorem app3 (p x o : S) : p ++ (x ++ dotS ++ o) = p ++ x ++ dotS ++ o := by rw [S.assoc p x, S.assoc p (x ++ dotS)]
theorem sig_in (D : DesOk ds) {k i : Nat} {m : Mod} {p s : S} (hik : i < k + 1) (hm : ds[i]? = some m) (h : s ∈ m.sigs (ds.take i)) : p ++ s ∈ allV ds (k + 1) m p := by
  have M := D i m hm
  rcases List.mem_append.mp h with h | h
  · exact plain_in h
  · obtain ⟨it, hi, hs⟩ := List.mem_flatMap.mp h
    cases it with
    | gate x op sg => exact nomatch hs
    | reg x fi sg wh cl => exact nomatch hs
    | use x md sg =>
      obtain ⟨u, hu, hl⟩ := M.ok _ hi
      rw [ports_some hu] at hs
      obtain ⟨o, ho, e⟩ := List.mem_map.mp hs
      subst e
      refine itW_in hi ?_
      rw [itW_use (modAt_take hu) hl, app3]
      obtain ⟨j, hj, hju⟩ := mod_ix hu
      cases k with
      | zero => omega
      | succ k => exact plain_in ((D j u hju).outs o ho)
theorem opt_in {x : S} {sg : S} {wh cl : Option S} (h : x = sg ∨ wh = some x ∨ cl = some x) : x ∈ sg :: (wh.toList ++ cl.toList) := by
  rcases h with h | h | h
  · rw [h]; exact List.mem_cons_self
  · rw [h]; exact List.mem_cons_of_mem _ (List.mem_append_left _ (List.mem_singleton.mpr rfl))
  · rw [h]; exact List.mem_cons_of_mem _ (List.mem_append_right _ (List.mem_singleton.mpr rfl))
/-- arity and arguments of an instance's gates, the sources of its registers -/
structure GOk (ds : List Mod) (k : Nat) (m : Mod) (p : S) : Prop where
  ar : ∀ g ∈ visG ds k m p, g.args.length = g.op.ar
  args : ∀ g ∈ visG ds k m p, ∀ a ∈ g.args, a ∈ allV ds k m p
  src : ∀ r ∈ visR ds k m p, r.src ∈ allV ds k m p
theorem holdSrc_in {p x sg : S} {wh : Option S} {L : List S} (h1 : p ++ sg ∈ L) (h2 : wh.isSome = true → p ++ x ++ holdS ∈ L) : holdSrc p x sg wh ∈ L := by
  unfold holdSrc
  by_cases hw : wh.isSome = true
  · rw [if_pos hw]; exact h2 hw
  · rw [if_neg hw]; exact h1
theorem regSrc_in {p x sg : S} {wh cl : Option S} {L : List S} (h1 : p ++ sg ∈ L) (h2 : wh.isSome = true → p ++ x ++ holdS ∈ L) (h3 : cl.isSome = true → p ++ x ++ clearS ∈ L) : regSrc p x sg wh cl ∈ L := by
  unfold regSrc
  by_cases hc : cl.isSome = true
  · rw [if_pos hc]; exact h3 hc
  · rw [if_neg hc]
    by_cases hw : wh.isSome = true
    · rw [if_pos hw]; exact h2 hw
    · rw [if_neg hw]; exact h1
theorem mem_holdG {p x sg : S} {wh : Option S} {g : Gate} (h : g ∈ holdG p x sg wh) : ∃ e, wh = some e ∧ g = ⟨p ++ x ++ holdS, .mux, [p ++ e, p ++ x, p ++ sg]⟩ := by
  cases wh with
  | none => exact nomatch h
  | some e => exact ⟨e, rfl, List.mem_singleton.mp h⟩
theorem mem_clearG {p x src : S} {fi : Bool} {cl : Option S} {g : Gate} (h : g ∈ clearG p x fi src cl) : ∃ z, cl = some z ∧ (g = ⟨p ++ x ++ firstS, if fi then .one else .zero, []⟩ ∨ g = ⟨p ++ x ++ clearS, .mux, [p ++ z, src, p ++ x ++ firstS]⟩) := by
  cases cl with
  | none => exact nomatch h
  | some z =>
    rcases List.mem_cons.mp h with h | h
    · exact ⟨z, rfl, .inl h⟩
    · exact ⟨z, rfl, .inr (List.mem_singleton.mp h)⟩
theorem gOk (D : DesOk ds) : ∀ (k i : Nat) (m : Mod) (p : S), i < k → ds[i]? = some m → GOk ds k m p
  | 0, i, m, p, h, _ => absurd h (Nat.not_lt_zero _)
  | k + 1, i, m, p, h, hm => by
    have M := D i m hm
    have sg_ : ∀ it ∈ m.items, ∀ s ∈ it.sgs, p ++ s ∈ allV ds (k + 1) m p := fun it hi s hs => sig_in D h hm (M.sig it hi s hs)
    have hold_ : ∀ {x sg fi wh cl}, Item.reg x fi sg wh cl ∈ m.items → wh.isSome = true → p ++ x ++ holdS ∈ allV ds (k + 1) m p := fun {x sg fi wh cl} hi hw => itW_in hi (by rw [itW_reg, if_pos hw]; simp)
    have clear_ : ∀ {x sg fi wh cl}, Item.reg x fi sg wh cl ∈ m.items → cl.isSome = true → p ++ x ++ clearS ∈ allV ds (k + 1) m p ∧ p ++ x ++ firstS ∈ allV ds (k + 1) m p := fun {x sg fi wh cl} hi hw => ⟨itW_in hi (by rw [itW_reg, if_pos hw]; simp), itW_in hi (by rw [itW_reg, if_pos hw]; simp)⟩
    have self_ : ∀ {x sg fi wh cl}, Item.reg x fi sg wh cl ∈ m.items → p ++ x ∈ allV ds (k + 1) m p := fun {x sg fi wh cl} hi => itW_in hi (by rw [itW_reg]; simp)
    have gates : ∀ g ∈ visG ds (k + 1) m p, g.args.length = g.op.ar ∧ ∀ a ∈ g.args, a ∈ allV ds (k + 1) m p := fun g hg => by
      obtain ⟨it, hi, hg⟩ := List.mem_flatMap.mp hg
      cases it with
      | gate x op sg =>
        rw [List.mem_singleton.mp (show g ∈ [(⟨p ++ x, op, sg.map fun s => p ++ s⟩ : Gate)] from hg)]
        have := M.ok _ hi
        refine ⟨by show (sg.map fun s => p ++ s).length = op.ar; rw [List.length_map]; exact this, fun a ha => ?_⟩
        obtain ⟨s, hs, e⟩ := List.mem_map.mp ha
        rw [← e]
        exact sg_ _ hi s hs
      | reg x fi sg wh cl =>
        have s1 := sg_ _ hi sg (opt_in (.inl rfl))
        rcases List.mem_append.mp (show g ∈ holdG p x sg wh ++ clearG p x fi (holdSrc p x sg wh) cl from hg) with hg | hg
        · obtain ⟨e, he, eg⟩ := mem_holdG hg
          subst eg
          refine ⟨rfl, fun a ha => ?_⟩
          rcases List.mem_cons.mp ha with q | ha
          · rw [q]; exact sg_ _ hi e (opt_in (.inr (.inl he)))
          · rcases List.mem_cons.mp ha with q | ha
            · rw [q]; exact self_ hi
            · rw [List.mem_singleton.mp ha]; exact s1
        · obtain ⟨z, hz, eg | eg⟩ := mem_clearG hg
          · subst eg
            refine ⟨?_, fun a ha => nomatch ha⟩
            cases fi <;> rfl
          · subst eg
            refine ⟨rfl, fun a ha => ?_⟩
            rcases List.mem_cons.mp ha with q | ha
            · rw [q]; exact sg_ _ hi z (opt_in (.inr (.inr hz)))
            · rcases List.mem_cons.mp ha with q | ha
              · rw [q]; exact holdSrc_in s1 (hold_ hi)
              · rw [List.mem_singleton.mp ha]; exact (clear_ hi (by rw [hz]; rfl)).2
      | use x md sg =>
        obtain ⟨u, hu, hl⟩ := M.ok _ hi
        rw [itemG_use (modAt_take hu)] at hg
        have inn : ∀ w ∈ allV ds k u (p ++ x ++ dotS), w ∈ allV ds (k + 1) m p := fun w hw => itW_in hi (by rw [itW_use (modAt_take hu) hl]; exact hw)
        rcases List.mem_append.mp hg with hg | hg
        · obtain ⟨z, hz, e⟩ := List.mem_map.mp hg
          subst e
          refine ⟨rfl, fun a ha => ?_⟩
          rw [List.mem_singleton.mp ha]
          exact sg_ _ hi z.2 (List.of_mem_zip hz).2
        · obtain ⟨j, hj, hju⟩ := mod_ix hu
          have R := gOk D k j u (p ++ x ++ dotS) (by omega) hju
          exact ⟨R.ar g hg, fun a ha => inn a (R.args g hg a ha)⟩
    refine ⟨fun g hg => (gates g hg).1, fun g hg => (gates g hg).2, fun r hr => ?_⟩
    obtain ⟨it, hi, hr⟩ := List.mem_flatMap.mp hr
    cases it with
    | gate x op sg => exact nomatch hr
    | reg x fi sg wh cl =>
      rw [List.mem_singleton.mp (show r ∈ [(⟨p ++ x, fi, regSrc p x sg wh cl⟩ : Reg)] from hr)]
      exact regSrc_in (sg_ _ hi sg (opt_in (.inl rfl))) (hold_ hi) fun z => (clear_ hi z).1
    | use x md sg =>
      obtain ⟨u, hu, hl⟩ := M.ok _ hi
      rw [itemR_use (modAt_take hu)] at hr
      obtain ⟨j, hj, hju⟩ := mod_ix hu
      exact itW_in hi (by rw [itW_use (modAt_take hu) hl]; exact (gOk D k j u (p ++ x ++ dotS) (by omega) hju).src r hr)

/-! ### no ring -/
theorem sigs_comb {es : List Mod} {m : Mod} {s : S} (h : s ∈ m.sigs es) : s ∈ m.ins ++ m.regN ++ m.comb.flatMap (Item.outSig es) := by
  rcases List.mem_append.mp h with h | h
  · rcases List.mem_append.mp h with h | h
    · exact List.mem_append_left _ (List.mem_append_left _ h)
    · obtain ⟨it, hi, e⟩ := List.mem_map.mp h
      obtain ⟨hi, hu⟩ := List.mem_filter.mp hi
      cases it with
      | gate x op sg => exact List.mem_append_right _ (List.mem_flatMap.mpr ⟨_, List.mem_filter.mpr ⟨hi, rfl⟩, List.mem_singleton.mpr e.symm⟩)
      | reg x fi sg wh cl => exact List.mem_append_left _ (List.mem_append_right _ (List.mem_map.mpr ⟨_, List.mem_filter.mpr ⟨hi, rfl⟩, e⟩))
      | use x md sg => exact absurd hu (by simp [Item.isUse])
  · obtain ⟨it, hi, hs⟩ := List.mem_flatMap.mp h
    cases it with
    | gate x op sg => exact nomatch hs
    | reg x fi sg wh cl => exact nomatch hs
    | use x md sg => exact List.mem_append_right _ (List.mem_flatMap.mpr ⟨_, List.mem_filter.mpr ⟨hi, rfl⟩, hs⟩)
theorem reg_in {k : Nat} {m : Mod} {p s : S} (h : s ∈ m.regN) : p ++ s ∈ rwV ds (k + 1) m p := by
  obtain ⟨it, hi, e⟩ := List.mem_map.mp h
  obtain ⟨hi, hu⟩ := List.mem_filter.mp hi
  rw [rwV_succ]
  refine List.mem_flatMap.mpr ⟨it, hi, ?_⟩
  cases it with
  | reg x fi sg wh cl => rw [← e]; exact List.mem_singleton.mpr rfl
  | gate x op sg => exact absurd hu (by simp [Item.isReg])
  | use x md sg => exact absurd hu (by simp [Item.isReg])
theorem vis_done (D : DesOk ds) (Dn : S → Prop) : ∀ (k i : Nat) (m : Mod) (p : S), i < k → ds[i]? = some m → (∀ g ∈ visG ds k m p, (∀ a ∈ g.args, Dn a) → Dn g.w) → (∀ x ∈ m.ins, Dn (p ++ x)) → (∀ r ∈ rwV ds k m p, Dn r) →
    ∀ w ∈ gwV ds k m p, Dn w
  | 0, i, m, p, h, _, _, _, _ => absurd h (Nat.not_lt_zero _)
  | k + 1, i, m, p, h, hm, hG, hI, hR => by
    have M := D i m hm
    have gin : ∀ it ∈ m.items, ∀ g ∈ itemG ds (visG ds k) p it, g ∈ visG ds (k + 1) m p := fun it hi g hg => List.mem_flatMap.mpr ⟨it, hi, hg⟩
    -- an item that is no register, where its signals are done
    have one : ∀ it ∈ m.items, it.isReg = false → (∀ s ∈ it.sgs, Dn (p ++ s)) → (∀ g ∈ itemG ds (visG ds k) p it, Dn g.w) ∧ ∀ s ∈ it.outSig (ds.take i), Dn (p ++ s) := fun it hi hr hs => by
      cases it with
      | reg x fi sg wh cl => exact absurd hr (by simp [Item.isReg])
      | gate x op sg =>
        have dn : Dn (p ++ x) := hG ⟨p ++ x, op, sg.map fun s => p ++ s⟩ (gin _ hi _ (List.mem_singleton.mpr rfl)) fun a ha => by
          obtain ⟨s, h1, e⟩ := List.mem_map.mp ha
          rw [← e]
          exact hs s h1
        refine ⟨fun g hg => ?_, fun s h1 => ?_⟩
        · rw [List.mem_singleton.mp (show g ∈ [(⟨p ++ x, op, sg.map fun s => p ++ s⟩ : Gate)] from hg)]
          exact dn
        · rw [List.mem_singleton.mp (show s ∈ [x] from h1)]
          exact dn
      | use x md sg =>
        obtain ⟨u, hu, hl⟩ := M.ok _ hi
        obtain ⟨j, hj, hju⟩ := mod_ix hu
        have eG := itemG_use (sub := visG ds k) (p := p) (x := x) (sg := sg) (modAt_take hu)
        have eR := itemR_use (sub := visR ds k) (p := p) (x := x) (sg := sg) (modAt_take hu)
        have ports : ∀ g ∈ portG p x u.ins sg, Dn g.w := fun g hg => by
          refine hG g (gin _ hi _ (by rw [eG]; exact List.mem_append_left _ hg)) fun a ha => ?_
          obtain ⟨z, hz, e⟩ := List.mem_map.mp hg
          subst e
          rw [List.mem_singleton.mp ha]
          exact hs z.2 (List.of_mem_zip hz).2
        have hI' : ∀ y ∈ u.ins, Dn (p ++ x ++ dotS ++ y) := fun y hy => by
          have : p ++ x ++ dotS ++ y ∈ (portG p x u.ins sg).map (·.w) := by
            rw [portG_w _ _ _ _ hl]
            exact List.mem_map_of_mem hy
          obtain ⟨g, hg, e⟩ := List.mem_map.mp this
          rw [← e]
          exact ports g hg
        have hR' : ∀ r ∈ rwV ds k u (p ++ x ++ dotS), Dn r := fun r hr => hR r (by
          rw [rwV_succ]
          exact List.mem_flatMap.mpr ⟨_, hi, by rw [eR]; exact hr⟩)
        have sub := vis_done D Dn k j u (p ++ x ++ dotS) (by omega) hju (fun g hg => hG g (gin _ hi _ (by rw [eG]; exact List.mem_append_right _ hg))) hI' hR'
        refine ⟨fun g hg => ?_, fun s h1 => ?_⟩
        · rw [eG] at hg
          rcases List.mem_append.mp hg with hg | hg
          · exact ports g hg
          · exact sub _ (List.mem_map_of_mem hg)
        · have h1' : s ∈ Item.ports (ds.take i) (.use x md sg) := h1
          rw [ports_some hu] at h1'
          obtain ⟨o, ho, e⟩ := List.mem_map.mp h1'
          rw [← e, app3]
          cases k with
          | zero => omega
          | succ k =>
            have := plain_in (ds := ds) (k := k) (p := p ++ x ++ dotS) ((D j u hju).outs o ho)
            unfold allV at this
            rcases List.mem_append.mp this with q | q
            · rcases List.mem_append.mp q with q | q
              · obtain ⟨y, hy, e⟩ := List.mem_map.mp q
                rw [← e]
                exact hI' y hy
              · exact sub _ q
            · exact hR' _ q
    have combm : ∀ (j : Nat) (it : Item), m.comb[j]? = some it → it ∈ m.items ∧ it.isReg = false := fun j it e => by
      obtain ⟨h1, h2⟩ := List.mem_filter.mp (List.mem_of_getElem? e)
      exact ⟨h1, by simpa using h2⟩
    have step : ∀ (j : Nat) (it : Item), m.comb[j]? = some it → (∀ g ∈ itemG ds (visG ds k) p it, Dn g.w) ∧ ∀ s ∈ it.outSig (ds.take i), Dn (p ++ s) := by
      intro j
      induction j using Nat.strongRecOn with
      | _ j ih =>
        intro it e
        obtain ⟨hi, hr⟩ := combm j it e
        refine one it hi hr fun s hs => ?_
        rcases List.mem_append.mp (M.ord j it e s hs) with q | q
        · rcases List.mem_append.mp q with q | q
          · exact hI s q
          · exact hR _ (reg_in q)
        · obtain ⟨b, hb, hs⟩ := List.mem_flatMap.mp q
          obtain ⟨l, hl, e2⟩ := List.getElem_of_mem hb
          rw [List.length_take] at hl
          rw [List.getElem_take] at e2
          exact (ih l (by omega) b (by rw [List.getElem?_eq_getElem (by omega), e2])).2 s hs
    have ofComb : ∀ it ∈ m.items, it.isReg = false → (∀ g ∈ itemG ds (visG ds k) p it, Dn g.w) ∧ ∀ s ∈ it.outSig (ds.take i), Dn (p ++ s) := fun it hi hr => by
      have : it ∈ m.comb := List.mem_filter.mpr ⟨hi, by simpa using hr⟩
      obtain ⟨l, hl, e2⟩ := List.getElem_of_mem this
      exact step l it (by rw [List.getElem?_eq_getElem hl, e2])
    have sigD : ∀ it ∈ m.items, ∀ s ∈ it.sgs, Dn (p ++ s) := fun it hi s hs => by
      rcases List.mem_append.mp (sigs_comb (M.sig it hi s hs)) with q | q
      · rcases List.mem_append.mp q with q | q
        · exact hI s q
        · exact hR _ (reg_in q)
      · obtain ⟨b, hb, hs⟩ := List.mem_flatMap.mp q
        obtain ⟨h1, h2⟩ := List.mem_filter.mp hb
        exact (ofComb b h1 (by simpa using h2)).2 s hs
    intro w hw
    obtain ⟨g, hg, e⟩ := List.mem_map.mp hw
    subst e
    obtain ⟨it, hi, hg⟩ := List.mem_flatMap.mp hg
    cases hr : it.isReg with
    | false => exact (ofComb it hi hr).1 g hg
    | true =>
      cases it with
      | gate x op sg => exact absurd hr (by simp [Item.isReg])
      | use x md sg => exact absurd hr (by simp [Item.isReg])
      | reg x fi sg wh cl =>
        have inn := gin _ hi
        have self : Dn (p ++ x) := hR _ (by
          rw [rwV_succ]
          exact List.mem_flatMap.mpr ⟨_, hi, List.mem_singleton.mpr rfl⟩)
        have s1 := sigD _ hi sg (opt_in (.inl rfl))
        have hold : ∀ g ∈ holdG p x sg wh, Dn g.w := fun g hg => by
          refine hG g (inn g (List.mem_append_left _ hg)) fun a ha => ?_
          obtain ⟨e, he, eg⟩ := mem_holdG hg
          subst eg
          rcases List.mem_cons.mp ha with q | ha
          · rw [q]; exact sigD _ hi e (opt_in (.inr (.inl he)))
          · rcases List.mem_cons.mp ha with q | ha
            · rw [q]; exact self
            · rw [List.mem_singleton.mp ha]; exact s1
        rcases List.mem_append.mp (show g ∈ holdG p x sg wh ++ clearG p x fi (holdSrc p x sg wh) cl from hg) with hg' | hg'
        · exact hold g hg'
        · obtain ⟨z, hz, eg⟩ := mem_clearG hg'
          have first : Dn (p ++ x ++ firstS) := hG ⟨p ++ x ++ firstS, if fi then .one else .zero, []⟩ (inn _ (List.mem_append_right _ (by rw [hz]; exact List.mem_cons_self))) fun a ha => nomatch ha
          rcases eg with eg | eg
          · rw [eg]; exact first
          · refine hG g (inn g (List.mem_append_right _ hg')) fun a ha => ?_
            subst eg
            rcases List.mem_cons.mp ha with q | ha
            · rw [q]; exact sigD _ hi z (opt_in (.inr (.inr hz)))
            · rcases List.mem_cons.mp ha with q | ha
              · rw [q]
                cases hwh : wh with
                | none => exact s1
                | some e =>
                  have := hold ⟨p ++ x ++ holdS, .mux, [p ++ e, p ++ x, p ++ sg]⟩ (by rw [hwh]; exact List.mem_singleton.mpr rfl)
                  exact this
              · rw [List.mem_singleton.mp ha]; exact first

/-! ### done in so many turns; a rank -/
def DoneIn (G : List Gate) : Nat → S → Prop
  | 0, x => x ∉ G.map (·.w)
  | k + 1, x => x ∉ G.map (·.w) ∨ ∃ g ∈ G, g.w = x ∧ ∀ a ∈ g.args, DoneIn G k a
theorem DoneIn.succ {G : List Gate} : ∀ {k : Nat} {x : S}, DoneIn G k x → DoneIn G (k + 1) x
  | 0, x, h => .inl h
  | k + 1, x, .inl h => .inl h
  | k + 1, x, .inr ⟨g, hg, e, h⟩ => .inr ⟨g, hg, e, fun a ha => (h a ha).succ⟩
theorem DoneIn.mono {G : List Gate} {j k : Nat} {x : S} (h : DoneIn G j x) (le : j ≤ k) : DoneIn G k x := by
  induction le with
  | refl => exact h
  | step _ ih => exact ih.succ
theorem done_all {G : List Gate} : ∀ {l : List S}, (∀ a ∈ l, ∃ k, DoneIn G k a) → ∃ k, ∀ a ∈ l, DoneIn G k a
  | [], _ => ⟨0, fun _ h => nomatch h⟩
  | b :: r, h => by
    obtain ⟨k1, h1⟩ := h b List.mem_cons_self
    obtain ⟨k2, h2⟩ := done_all (l := r) fun a ha => h a (List.mem_cons_of_mem _ ha)
    refine ⟨max k1 k2, fun a ha => ?_⟩
    rcases List.mem_cons.mp ha with e | ha
    · rw [e]; exact h1.mono (Nat.le_max_left _ _)
    · exact (h2 a ha).mono (Nat.le_max_right _ _)
theorem least_nat {P : Nat → Prop} (h : ∃ k, P k) : ∃ k, P k ∧ ∀ j, P j → k ≤ j := by
  obtain ⟨k, hk⟩ := h
  induction k using Nat.strongRecOn with
  | _ k ih =>
    by_cases q : ∃ j, j < k ∧ P j
    · obtain ⟨j, hj, hp⟩ := q
      exact ih j hj hp
    · exact ⟨k, hk, fun j hp => Nat.le_of_not_lt fun z => q ⟨j, z, hp⟩⟩
theorem rank_of {G : List Gate} (nd : (G.map (·.w)).Nodup) (h : ∀ g ∈ G, ∃ k, DoneIn G k g.w) : ∃ rk : S → Nat, ∀ g ∈ G, ∀ a ∈ g.args, rk a < rk g.w := by
  have ex : ∀ x : S, ∃ k, (∃ j, DoneIn G j x) → DoneIn G k x ∧ ∀ j, DoneIn G j x → k ≤ j := fun x => by
    by_cases q : ∃ j, DoneIn G j x
    · obtain ⟨k, h1, h2⟩ := least_nat q
      exact ⟨k, fun _ => ⟨h1, h2⟩⟩
    · exact ⟨0, fun z => absurd z q⟩
  refine ⟨fun x => Classical.choose (ex x), fun g hg a ha => ?_⟩
  obtain ⟨h1, h2⟩ := Classical.choose_spec (ex g.w) (h g hg)
  generalize hk : Classical.choose (ex g.w) = k at h1 h2
  cases k with
  | zero => exact absurd (List.mem_map_of_mem hg) h1
  | succ k =>
    rcases h1 with h1 | ⟨d, hd, ed, h1⟩
    · exact absurd (List.mem_map_of_mem hg) h1
    · have e1 := find_nd (f := fun g : Gate => g.w) nd hg
      have e2 := find_nd (f := fun g : Gate => g.w) nd hd
      rw [ed, e1] at e2
      have e3 := Option.some.inj e2
      subst e3
      have q := (Classical.choose_spec (ex a) ⟨k, h1 a ha⟩).2 k (h1 a ha)
      show Classical.choose (ex a) < Classical.choose (ex g.w)
      rw [hk]
      omega

/-! ### wires are wires -/
def preS : List S → S
  | [] => PySem.Str.empty
  | x :: r => x ++ dotS ++ preS r
theorem preS_snoc : ∀ (l : List S) (x : S), preS (l ++ [x]) = preS l ++ x ++ dotS
  | [], x => by show x ++ dotS ++ PySem.Str.empty = _ ++ x ++ dotS; rw [S.app_nil]; show _ = PySem.Str.empty ++ x ++ dotS; rw [S.nil_app]
  | y :: r, x => by
    show y ++ dotS ++ preS (r ++ [x]) = y ++ dotS ++ preS r ++ x ++ dotS
    rw [preS_snoc r x]
    simp only [S.assoc]
theorem dotted_cons (x : S) {l : List S} (h : l ≠ []) : dotted (x :: l) = x ++ dotS ++ dotted l := by
  cases l with
  | nil => exact absurd rfl h
  | cons y r => rfl
theorem preS_dotted : ∀ (l r : List S), r ≠ [] → preS l ++ dotted r = dotted (l ++ r)
  | [], r, _ => S.nil_app _
  | y :: l, r, h => by
    show y ++ dotS ++ preS l ++ dotted r = _
    rw [List.cons_append, dotted_cons y (by simp [h]), ← preS_dotted l r h, S.assoc]
theorem wire_of {l r : List S} (h1 : ∀ y ∈ l, isName y = true) (h2 : ∀ y ∈ r, isName y = true) (h : r ≠ []) (hz : l.length + r.length ≤ 100) : Wire (preS l ++ dotted r) :=
  ⟨l ++ r, by simp [h], by rw [List.length_append]; exact hz, fun y hy => (List.mem_append.mp hy).elim (h1 y) (h2 y), preS_dotted l r h⟩
abbrev hold0 : S := PySem.Str.ofString "hold"
abbrev first0 : S := PySem.Str.ofString "first"
abbrev clear0 : S := PySem.Str.ofString "clear"
theorem names0 : isName hold0 = true ∧ isName first0 = true ∧ isName clear0 = true := by decide +kernel
theorem two_hold (x : S) : x ++ holdS = dotted [x, hold0] := S.ext (by show ls (x ++ holdS) = ls (x ++ dotS ++ hold0); rw [ls_app, ls_app, ls_app, List.append_assoc]; exact congrArg _ (by decide +kernel))
theorem two_first (x : S) : x ++ firstS = dotted [x, first0] := S.ext (by show ls (x ++ firstS) = ls (x ++ dotS ++ first0); rw [ls_app, ls_app, ls_app, List.append_assoc]; exact congrArg _ (by decide +kernel))
theorem two_clear (x : S) : x ++ clearS = dotted [x, clear0] := S.ext (by show ls (x ++ clearS) = ls (x ++ dotS ++ clear0); rw [ls_app, ls_app, ls_app, List.append_assoc]; exact congrArg _ (by decide +kernel))
theorem len_ls (x : S) : x.length = (ls x).length := (Array.length_toList).symm
theorem len_app (x y : S) : (x ++ y).length = x.length + y.length := by rw [len_ls, len_ls, len_ls, ls_app, List.length_append]
theorem len_dot : dotS.length = 1 := by rw [len_ls, ls_dot]; rfl
theorem name_len {x : S} (h : isName x = true) : x.length ≤ 8 := by
  unfold isName at h
  rw [len_ls]
  show x.cps.toList.length ≤ 8
  cases e : x.cps.toList with
  | nil => exact Nat.zero_le _
  | cons c r =>
    rw [e] at h
    simp only [Bool.and_eq_true] at h
    have := of_decide_eq_true h.2
    simp only [List.length_cons]
    omega
theorem dotted_len : ∀ {l : List S}, (∀ y ∈ l, isName y = true) → (dotted l).length ≤ 9 * l.length
  | [], _ => Nat.zero_le _
  | [x], h => by
    have := name_len (h x List.mem_cons_self)
    show x.length ≤ 9 * 1
    omega
  | x :: y :: r, h => by
    have h1 := name_len (h x List.mem_cons_self)
    have h2 := dotted_len (l := y :: r) fun z hz => h z (List.mem_cons_of_mem _ hz)
    show (x ++ dotS ++ dotted (y :: r)).length ≤ _
    rw [len_app, len_app, len_dot]
    simp only [List.length_cons] at h2 ⊢
    omega
theorem wire_one {l : List S} {x : S} (h1 : ∀ y ∈ l, isName y = true) (h2 : isName x = true) (hz : l.length ≤ 90) : Wire (preS l ++ x) :=
  wire_of (r := [x]) h1 (fun y hy => by rw [List.mem_singleton.mp hy]; exact h2) (by simp) (by show l.length + 1 ≤ 100; omega)
theorem wire_two {l : List S} {x t t0 : S} (h1 : ∀ y ∈ l, isName y = true) (h2 : isName x = true) (h3 : isName t0 = true) (e : x ++ t = dotted [x, t0]) (hz : l.length ≤ 90) : Wire (preS l ++ x ++ t) := by
  rw [S.assoc, e]
  refine wire_of h1 (fun y hy => ?_) (by simp) (by show l.length + 2 ≤ 100; omega)
  rcases List.mem_cons.mp hy with q | q
  · rw [q]; exact h2
  · rw [List.mem_singleton.mp q]; exact h3
theorem allV_wire (D : DesOk ds) : ∀ (k i : Nat) (m : Mod) (l : List S), i < k → ds[i]? = some m → (∀ y ∈ l, isName y = true) → l.length + k ≤ 90 → ∀ w ∈ allV ds k m (preS l), Wire w
  | 0, i, m, l, h, _, _, _ => absurd h (Nat.not_lt_zero _)
  | k + 1, i, m, l, h, hm, hl, hz => fun w hw => by
    have hz0 : l.length ≤ 90 := by omega
    have M := D i m hm
    unfold allV at hw
    rw [List.append_assoc] at hw
    rcases List.mem_append.mp hw with hw | hw
    · obtain ⟨x, hx, e⟩ := List.mem_map.mp hw
      rw [← e]
      exact wire_one hl (M.dclN x (List.mem_append_left _ hx)) hz0
    · obtain ⟨it, hi, hw⟩ := List.mem_flatMap.mp ((wires_perm k m (preS l)).mem_iff.mp hw)
      have nm := M.dclN _ (List.mem_append_right _ (List.mem_map_of_mem hi))
      cases it with
      | gate x op sg =>
        have h1 : w ∈ [preS l ++ x] ++ [] := hw
        rw [List.append_nil] at h1
        rw [List.mem_singleton.mp h1]
        exact wire_one hl nm hz0
      | reg x fi sg wh cl =>
        rw [itW_reg] at hw
        rcases List.mem_append.mp hw with hw | hw
        · rcases List.mem_append.mp hw with hw | hw
          · split at hw
            · rw [List.mem_singleton.mp hw]; exact wire_two hl nm names0.1 (two_hold x) hz0
            · exact nomatch hw
          · split at hw
            · rcases List.mem_cons.mp hw with e | hw
              · rw [e]; exact wire_two hl nm names0.2.1 (two_first x) hz0
              · rw [List.mem_singleton.mp hw]; exact wire_two hl nm names0.2.2 (two_clear x) hz0
            · exact nomatch hw
        · rw [List.mem_singleton.mp hw]; exact wire_one hl nm hz0
      | use x md sg =>
        obtain ⟨u, hu, hlen⟩ := M.ok _ hi
        rw [itW_use (modAt_take hu) hlen, ← preS_snoc] at hw
        obtain ⟨j, hj, hju⟩ := mod_ix hu
        refine allV_wire D k j u (l ++ [x]) (by omega) hju (fun y hy => ?_) (by rw [List.length_append, List.length_singleton]; omega) w hw
        rcases List.mem_append.mp hy with q | q
        · exact hl y q
        · rw [List.mem_singleton.mp q]; exact nm

/-! ### the flat net -/
theorem map_nil_app (l : List S) : l.map (fun x => PySem.Str.empty ++ x) = l := by
  have : (fun x : S => PySem.Str.empty ++ x) = id := funext fun x => S.nil_app x
  rw [this, List.map_id]
theorem flat_decl (k : Nat) (m : Mod) : (flatN ds k m).decl = allV ds k m PySem.Str.empty := by
  unfold allV
  rw [map_nil_app]; rfl
theorem flat_sound (D : DesOk ds) {k i : Nat} {m : Mod} (h : i < k) (hk : k ≤ 90) (hm : ds[i]? = some m) : Sound (flatN ds k m) := by
  have M := D i m hm
  have G := gOk D k i m PySem.Str.empty h hm
  have nd : (flatN ds k m).decl.Nodup := by
    rw [flat_decl]
    exact allV_nodup D k i m _ h hm
  have ngw : ((visG ds k m PySem.Str.empty).map (·.w)).Nodup := by
    unfold Net.decl at nd
    exact (List.nodup_append.mp (List.nodup_append.mp nd).1).2.1
  refine ⟨nd, fun x hx => ?_, G.ar, fun g hg a ha => ?_, fun r hr => ?_, fun o ho => ?_, M.outD, ?_⟩
  · rw [flat_decl] at hx
    exact allV_wire D k i m [] h hm (fun _ z => nomatch z) (by show 0 + k ≤ 90; omega) x hx
  · rw [flat_decl]; exact G.args g hg a ha
  · rw [flat_decl]; exact G.src r hr
  · rw [flat_decl]
    cases k with
    | zero => omega
    | succ k =>
      have := plain_in (ds := ds) (k := k) (p := PySem.Str.empty) (M.outs o ho)
      rwa [S.nil_app] at this
  · refine rank_of ngw fun g hg => ?_
    refine vis_done D (fun x => ∃ j, DoneIn (visG ds k m PySem.Str.empty) j x) k i m PySem.Str.empty h hm (fun g hg ha => ?_) (fun x hx => ⟨0, fun z => ?_⟩) (fun r hr => ⟨0, fun z => ?_⟩) g.w (List.mem_map_of_mem hg)
    · obtain ⟨j, hj⟩ := done_all ha
      exact ⟨j + 1, .inr ⟨g, hg, rfl, hj⟩⟩
    · unfold Net.decl at nd
      rw [S.nil_app] at z
      exact (List.nodup_append.mp (List.nodup_append.mp nd).1).2.2 x hx x z rfl
    · unfold Net.decl at nd
      exact (List.nodup_append.mp nd).2.2 r (List.mem_append_right _ z) r hr rfl
/-- the size tells the numbers of gates and registers -/
theorem size_ok (D : DesOk ds) : ∀ (k i : Nat) (m : Mod) (p : S), i < k → ds[i]? = some m → sizeV ds k m = (visG ds k m p).length + (visR ds k m p).length
  | 0, i, m, p, h, _ => absurd h (Nat.not_lt_zero _)
  | k + 1, i, m, p, h, hm => by
    have M := D i m hm
    have item : ∀ it ∈ m.items, itemSz ds (sizeV ds k) it = (itemG ds (visG ds k) p it).length + (itemR ds (visR ds k) p it).length := fun it hi => by
      cases it with
      | gate x op sg => rfl
      | reg x fi sg wh cl => cases wh <;> cases cl <;> rfl
      | use x md sg =>
        obtain ⟨u, hu, hl⟩ := M.ok _ hi
        obtain ⟨j, hj, hju⟩ := mod_ix hu
        rw [itemG_use (modAt_take hu), itemR_use (modAt_take hu)]
        have : itemSz ds (sizeV ds k) (.use x md sg) = u.ins.length + sizeV ds k u := by
          show (match modAt ds md with
            | some u => u.ins.length + sizeV ds k u
            | none => 0) = _
          rw [modAt_take hu]
        rw [this, size_ok D k j u (p ++ x ++ dotS) (by omega) hju, List.length_append]
        have : (portG p x u.ins sg).length = u.ins.length := by
          unfold portG
          rw [List.length_map, List.length_zip]
          omega
        omega
    show (m.items.map (itemSz ds (sizeV ds k))).sum = (m.items.flatMap (itemG ds (visG ds k) p)).length + (m.items.flatMap (itemR ds (visR ds k) p)).length
    rw [List.length_flatMap, List.length_flatMap]
    generalize m.items = l at item
    induction l with
    | nil => rfl
    | cons a r ih =>
      rw [List.map_cons, List.map_cons, List.map_cons, List.sum_cons, List.sum_cons, List.sum_cons, item a List.mem_cons_self, ih fun b hb => item b (List.mem_cons_of_mem _ hb)]
      omega
end
end Wi
set_option maxHeartbeats 4000000
set_option maxRecDepth 100000
/-! L1: the layer: where a def stands, data and what bears it, rules that the layer lacks -/
namespace Wi
open PySem L2 PySem.Spec PyProof.Rows
def top (i : Nat) : Stmt := PySem.Challenge.pw_wirewatch_k95_whole_flat_and_rewritten.main.body.getD i (.Pass ⟨0, 0, 0, 0⟩)

/-! ### defs -/
/-- the top's statement i stands as a def at the module's name g -/
structure Df (K : PySem.W.Frag) (mg : Str → Option Value) (g x : Str) (i : Nat) : Prop where
  ex : ∃ f fd, FunD K x x (defArgs (top i)) (defBody (top i)) (defScope (top i)) [] [] f fd ∧ mg g = some (.ref f)
/-- what a caller needs of a def -/
structure Cal (P : Program) (w : World) (K : PySem.W.Frag) (mg : Str → Option Value) (base : Heap) (CX : CXT) (k : Nat) (g : Str) (ps : List Str) (sp : Sp) : Prop where
  ex : ∃ f fd, FnOk P w K mg base CX k f fd ps sp ∧ mg g = some (.ref f) ∧ PySem.W.keepIn K (.ref f) = true ∧ Binds K fd ps []
section
variable {P : Program} {w : World} {K : PySem.W.Frag} {mg : Str → Option Value} {base : Heap} {CX : CXT}
theorem Cal.mono {j k : Nat} {g : Str} {ps : List Str} {sp : Sp} (C : Cal P w K mg base CX j g ps sp) (h : j ≤ k) : Cal P w K mg base CX k g ps sp := by
  obtain ⟨f, fd, F, a, b, c⟩ := C.ex
  exact ⟨f, fd, F.mono h, a, b, c⟩
theorem Cal.imp {k : Nat} {g : Str} {ps : List Str} {sp sp' : Sp} (C : Cal P w K mg base CX k g ps sp) (h : ∀ vs H Q E, sp' vs H Q E → sp vs H Q E) : Cal P w K mg base CX k g ps sp' := by
  obtain ⟨f, fd, F, a, b, c⟩ := C.ex
  exact ⟨f, fd, F.imp h, a, b, c⟩
/-- THE RULE of a def that raises nothing -/
theorem Df.cal {g x : Str} {i k : Nat} {N ps : List Str} {sp : Sp} (D : Df K mg g x i) (S : FnScope N ps (defScope (top i))) (len : ∀ vs H Q E, sp vs H Q E → vs.length = ps.length)
    (hb : ∀ (kV doc pm : Value) (an : Option Addr) (cdv ct : Value) (us : List Value), us.length = ps.length → bindArgs (PySem.W.fnOf x x (defArgs (top i)) (defBody (top i)) (defScope (top i)) .none kV doc pm an cdv ct) ⟨us, []⟩ = pure (ps.zip us))
    (hbody : ∀ (f : Addr) (cdv : Value) (A : Around) (outer : List Env) (s : Shared) (H : Hp) (vs : List V) (Q : VK) (E : XK), Room k (A.deeper (envOfC x (defScope (top i)) s.heap.objs.size f cdv)) → sp vs H Q E →
      ∃ t, PSs (cxOf CX0 P w K mg base N x (defScope (top i)) f cdv A outer s H E).nox (defBody (top i)) t ∧ t { nx := fun _ H' => Q .non H', rt := Q } (start N vs) H) : Cal P w K mg base CX0 (k + 1) g ps sp := by
  obtain ⟨f, fd, F, hg⟩ := D.ex
  refine ⟨f, fd, F.ok S len fun cdv A outer s H vs Q E hr h => ?_, hg, F.kp, F.bindsN hb⟩
  obtain ⟨t, h1, h2⟩ := hbody f cdv A outer s H vs Q E hr h
  exact ⟨t, h1.nox, h2⟩
end
section
variable {X : Cx} {CX : CXT} {k : Nat} {x : Str} {ps : List Str} {sp : Sp} {E : XK} {p pos : Pos} {e : Expr} {es : List Expr} {t : TA}
theorem pe_callC (C : Cal X.prog X.w X.K X.mg X.base CX k x ps sp) (hr : Room k X.A) (hg : Gl X x) (hx : Passes CX X E) (ha : PA X (e :: es) t) (hd : (x == ("__debug__" : Str)) = false := by decide)
    (he : starEach (e :: es) X.env = (false, eval e X.env) :: starEach es X.env := by rfl) (hpl : (backTo pos (starEach es X.env)).any (·.1) = false := by rfl) : PE X (.Call (.Name x p) (e :: es) [] pos) (tCall sp [] E t) := by
  obtain ⟨f, fd, F, a, b, c⟩ := C.ex
  exact pe_call F hr hg a b c .nil hx ha hd he hpl
end

/-! ### the built-ins that the module does not bind -/
structure Bl (mg : Str → Option Value) : Prop where
  len : mg "len" = none
  tuple : mg "tuple" = none
  list : mg "list" = none
  range : mg "range" = none
  enumerate : mg "enumerate" = none
  zip : mg "zip" = none
  all : mg "all" = none
  sum : mg "sum" = none
  isinstance : mg "isinstance" = none
  int : mg "int" = none
  str : mg "str" = none
  abs : mg "abs" = none
  min : mg "min" = none
  bool : mg "bool" = none

/-! ### data: what never changes -/
inductive D where
  | non | bl (b : Bool) | int (i : Int) | str (x : Str) | tup (l : List D)
mutual
inductive Rep (H : Hp) : D → V → Prop
  | non : Rep H .non .non
  | bl (b : Bool) : Rep H (.bl b) (.bl b)
  | int (i : Int) : Rep H (.int i) (.int i)
  | str (x : Str) : Rep H (.str x) (.str x)
  | tup {a : Addr} {vs : List V} {l : List D} (h : H a = some (.tup vs)) (r : RepL H l vs) : Rep H (.tup l) (.ref a)
inductive RepL (H : Hp) : List D → List V → Prop
  | nil : RepL H [] []
  | cons {d : D} {v : V} {ds : List D} {vs : List V} (h : Rep H d v) (r : RepL H ds vs) : RepL H (d :: ds) (v :: vs)
end
/-- tuples stay -/
def Tx (H H' : Hp) : Prop := ∀ a xs, H a = some (.tup xs) → H' a = some (.tup xs)
theorem Tx.refl (H : Hp) : Tx H H := fun _ _ h => h
theorem Tx.trans {H H1 H2 : Hp} (a : Tx H H1) (b : Tx H1 H2) : Tx H H2 := fun x o h => b x o (a x o h)
theorem _root_.L2.Same.tx {H H' : Hp} (e : Same H H') : Tx H H' := fun a xs h => e a _ h
theorem _root_.L2.Same.new {H : Hp} {p : Addr} {o : HO} (h : H p = none) : Same H (upd H p o) := fun a u e => by
  rw [upd_ne (ne_of_none e h)]
  exact e
/-- what H does not know may change -/
theorem _root_.L2.Same.mut {H H' : Hp} {p : Addr} {o : HO} (e : Same H H') (h : H p = none) : Same H (upd H' p o) := fun a u ha => by
  rw [upd_ne (ne_of_none ha h)]
  exact e a u ha
theorem Tx.mut {H H' : Hp} {p : Addr} {o u : HO} (e : Tx H H') (h : H' p = some u) (hu : ∀ xs, u ≠ .tup xs) : Tx H (upd H' p o) := fun a xs ha => by
  have h1 := e a xs ha
  have ne : a ≠ p := fun q => by
    rw [q, h] at h1
    exact hu _ (Option.some.inj h1)
  rw [upd_ne ne]
  exact h1
theorem Tx.new {H H' : Hp} {p : Addr} {o : HO} (e : Tx H H') (h : H' p = none) : Tx H (upd H' p o) := fun a xs ha => by
  have h1 := e a xs ha
  rw [upd_ne (ne_of_none h1 h)]
  exact h1
mutual
theorem Rep.tx {H H' : Hp} (e : Tx H H') : ∀ {d : D} {v : V}, Rep H d v → Rep H' d v
  | _, _, .non => .non
  | _, _, .bl b => .bl b
  | _, _, .int i => .int i
  | _, _, .str x => .str x
  | _, _, .tup h r => .tup (e _ _ h) (RepL.tx e r)
theorem RepL.tx {H H' : Hp} (e : Tx H H') : ∀ {ds : List D} {vs : List V}, RepL H ds vs → RepL H' ds vs
  | _, _, .nil => .nil
  | _, _, .cons h r => .cons (Rep.tx e h) (RepL.tx e r)
end
theorem Rep.ex {H H' : Hp} (e : Same H H') {d : D} {v : V} (h : Rep H d v) : Rep H' d v := h.tx e.tx
theorem RepL.ex {H H' : Hp} (e : Same H H') {d : List D} {v : List V} (h : RepL H d v) : RepL H' d v := h.tx e.tx
section
variable {H : Hp} {v : V} {vs ws : List V} {d : D} {ds es : List D}
theorem Rep.eInt {i : Int} (h : Rep H (.int i) v) : v = .int i := by cases h; rfl
theorem Rep.eStr {x : Str} (h : Rep H (.str x) v) : v = .str x := by cases h; rfl
theorem Rep.eBl {b : Bool} (h : Rep H (.bl b) v) : v = .bl b := by cases h; rfl
theorem Rep.eNon (h : Rep H .non v) : v = .non := by cases h; rfl
theorem Rep.eTup {l : List D} (h : Rep H (.tup l) v) : ∃ a vs, v = .ref a ∧ H a = some (.tup vs) ∧ RepL H l vs := by
  cases h with
  | tup h r => exact ⟨_, _, rfl, h, r⟩
theorem RepL.len : ∀ {ds : List D} {vs : List V}, RepL H ds vs → ds.length = vs.length
  | _, _, .nil => rfl
  | _, _, .cons _ r => congrArg Nat.succ r.len
theorem RepL.get : ∀ {ds : List D} {vs : List V} {i : Nat} {d : D}, RepL H ds vs → ds[i]? = some d → ∃ v, vs[i]? = some v ∧ Rep H d v
  | _, _, _, _, .nil, e => by simp at e
  | _, _, 0, _, .cons h _, e => by simp at e; subst e; exact ⟨_, rfl, h⟩
  | _, _, i + 1, d, .cons _ r, e => by
    obtain ⟨v, h1, h2⟩ := r.get (i := i) (d := d) (by simpa using e)
    exact ⟨v, by simpa using h1, h2⟩
theorem RepL.getV : ∀ {ds : List D} {vs : List V} {i : Nat} {v : V}, RepL H ds vs → vs[i]? = some v → ∃ d, ds[i]? = some d ∧ Rep H d v
  | _, _, _, _, .nil, e => by simp at e
  | _, _, 0, _, .cons h _, e => by simp at e; subst e; exact ⟨_, rfl, h⟩
  | _, _, i + 1, v, .cons _ r, e => by
    obtain ⟨d, h1, h2⟩ := r.getV (i := i) (v := v) (by simpa using e)
    exact ⟨d, by simpa using h1, h2⟩
theorem RepL.app : ∀ {ds es : List D} {vs ws : List V}, RepL H ds vs → RepL H es ws → RepL H (ds ++ es) (vs ++ ws)
  | _, _, _, _, .nil, s => s
  | _, _, _, _, .cons h r, s => .cons h (r.app s)
theorem RepL.one (h : Rep H d v) : RepL H [d] [v] := .cons h .nil
theorem RepL.snoc (h : RepL H ds vs) (k : Rep H d v) : RepL H (ds ++ [d]) (vs ++ [v]) := h.app (.one k)
theorem RepL.strs : ∀ {xs : List Str} {vs : List V}, RepL H (xs.map D.str) vs → vs = xs.map V.str
  | [], _, .nil => rfl
  | x :: xs, _, .cons h r => by rw [h.eStr, r.strs]; rfl
theorem repL_strs : ∀ (xs : List Str), RepL H (xs.map D.str) (xs.map V.str)
  | [] => .nil
  | x :: xs => .cons (.str x) (repL_strs xs)
theorem RepL.ints : ∀ {xs : List Int} {vs : List V}, RepL H (xs.map D.int) vs → vs = xs.map V.int
  | [], _, .nil => rfl
  | x :: xs, _, .cons h r => by rw [h.eInt, r.ints]; rfl
theorem repL_ints : ∀ (xs : List Int), RepL H (xs.map D.int) (xs.map V.int)
  | [] => .nil
  | x :: xs => .cons (.int x) (repL_ints xs)
theorem RepL.take : ∀ {ds : List D} {vs : List V} (n : Nat), RepL H ds vs → RepL H (ds.take n) (vs.take n)
  | _, _, 0, _ => .nil
  | _, _, _ + 1, .nil => .nil
  | _, _, n + 1, .cons h r => .cons h (r.take n)
end
/-- a tuple of these stands at v: the tuple's address and items -/
theorem Rep.tupOf {H : Hp} {l : List D} {vs : List V} {p : Addr} (h : H p = some (.tup vs)) (r : RepL H l vs) : Rep H (.tup l) (.ref p) := .tup h r
theorem sz5 {n : Nat} (h : n ≤ 100000) : n ≤ sizeLine := Nat.le_trans h (by decide)
theorem sz5' {n : Nat} (h : n < 100000) : n < sizeLine := Nat.lt_of_lt_of_le h (by decide)

/-! ### reading, step by step: from what is known of H0, with H as it stands -/
section
variable {K : PySem.W.Frag} {H0 H : Hp} {Q : VK} {v : V} {l : List D} {d : D}
theorem rd_ix (e : Same H0 H) (h : Rep H0 (.tup l) v) {i : Nat} (hi : l[i]? = some d) (k : ∀ u, Rep H0 d u → Q u H) : rIxT K v (.int (i : Int)) H Q := by
  obtain ⟨a, vs, rfl, ha, r⟩ := h.eTup
  obtain ⟨u, hu, ru⟩ := r.get hi
  exact ⟨a, vs, (i : Int), u, rfl, rfl, SqT.of (e _ _ ha), atI_nat hu, k u ru⟩
theorem rd_ixS (e : Same H0 H) (h : Rep H0 (.tup l) v) {i : Nat} {x : Str} (hi : l[i]? = some (.str x)) (k : Q (.str x) H) : rIxT K v (.int (i : Int)) H Q :=
  rd_ix e h hi fun u hu => by rw [hu.eStr]; exact k
theorem rd_ixI (e : Same H0 H) (h : Rep H0 (.tup l) v) {i : Nat} {x : Int} (hi : l[i]? = some (.int x)) (k : Q (.int x) H) : rIxT K v (.int (i : Int)) H Q :=
  rd_ix e h hi fun u hu => by rw [hu.eInt]; exact k
/-- a tuple made -/
theorem mk_tup {vs : List V} (e : Same H0 H) (h : RepL H0 l vs) (hl : l.length ≤ 100000) (k : ∀ p H', Same H H' → H p = none → Rep H' (.tup l) (.ref p) → Q (.ref p) H') : vs.length ≤ sizeLine ∧ ∀ p, H p = none → Q (.ref p) (upd H p (.tup vs)) :=
  ⟨sz5 (by rw [← h.len]; exact hl), fun p hp => k p _ (Same.new hp) hp (.tup upd_same ((h.ex e).ex (Same.new hp)))⟩
end
end Wi
set_option maxHeartbeats 4000000
set_option maxRecDepth 100000
/-! L2x: small words; the module's constants -/
namespace Wi
open PySem L2 PySem.Spec PyProof.Rows
theorem ifF {b : Bool} {A B : Prop} (h : b = false) (hB : B) : if b = true then A else B := by
  rw [h]; exact iteF hB
theorem ifT {b : Bool} {A B : Prop} (h : b = true) (hA : A) : if b = true then A else B := by
  rw [h]; exact iteT hA
theorem if2 {b : Bool} {A B : Prop} (h1 : b = true → A) (h2 : b = false → B) : if b = true then A else B := by
  cases b with
  | true => exact iteT (h1 rfl)
  | false => exact iteF (h2 rfl)
theorem pe_globI {X : Cx} {x : Str} {i : Int} {pos : Pos} (hg : L2.Gl X x) (h : ∃ t, X.mg x = some (.int i t)) (hd : (x == ("__debug__" : Str)) = false := by decide) : PE X (.Name x pos) (tC (.int i)) := by
  obtain ⟨t, e⟩ := h
  exact pe_glob hg e ⟨t, rfl⟩ hd
def Op.s : Op → Str
  | .zero => "zero"
  | .one => "one"
  | .buf => "buf"
  | .not => "not"
  | .and => "and"
  | .or => "or"
  | .xor => "xor"
  | .mux => "mux"
def Rule.s : Rule → Str
  | .skip => "skip"
  | .fold => "fold"
  | .pass => "pass"
  | .turn => "turn"
  | .thin => "thin"
  | .double => "double"
  | .share => "share"
  | .swap => "swap"
  | .drop => "drop"
/-- the module's constants -/
structure GC (K : PySem.W.Frag) (w : World) (mg : Str → Option Value) : Prop where
  MOST_SIGNS : ∃ t, mg "MOST_SIGNS" = some (.int 8 t)
  MOST_GATES : ∃ t, mg "MOST_GATES" = some (.int 200 t)
  MOST_STEPS : ∃ t, mg "MOST_STEPS" = some (.int 1000 t)
  MOST_TICKS : ∃ t, mg "MOST_TICKS" = some (.int 300 t)
  AND_TABLE : ∃ t, mg "AND_TABLE" = some (.int 8 t)
  OR_TABLE : ∃ t, mg "OR_TABLE" = some (.int 14 t)
  RULES : ∃ a, mg "RULES" = some (.ref a) ∧ ∀ H, SqT K H a (rules.map fun r => V.str r.s)
  CONSTANT : ∃ a, mg "CONSTANT" = some (.ref a) ∧ ∀ H, SqT K H a [V.str Op.zero.s, V.str Op.one.s]
  ARITY : ∃ a es n, mg "ARITY" = some (.ref a) ∧ KDict K w a es n ∧ ∀ o : Op, ∃ u, PySem.W.nsIn K a o.s = some (some u) ∧ RelV (.int (o.ar : Int)) u
/-! ### the data of nets -/
def b2i (b : Bool) : Int := if b then 1 else 0
def strsD (l : List Str) : D := .tup (l.map D.str)
def Gate.d (g : Gate) : D := .tup [.str g.w, .str g.op.s, strsD g.args]
def Reg.d (r : Reg) : D := .tup [.str r.w, .int (b2i r.fi), .str r.src]
def gatesD (l : List Gate) : D := .tup (l.map Gate.d)
def regsD (l : List Reg) : D := .tup (l.map Reg.d)
def Net.d (n : Net) : D := .tup [strsD n.ins, gatesD n.gates, regsD n.regs, strsD n.outs]
/-- a dict at a: its pairs, some texts' -/
def DK (H : Hp) (a : Addr) (kvs : List (Key × V)) : Prop := H a = some (.dK kvs)
def look (kvs : List (Key × V)) (x : Str) : Option V := valV kvs (Sum.inr x)
end Wi
set_option maxHeartbeats 4000000
set_option maxRecDepth 100000
/-! L3: rules that the layer lacks: a dict comprehension assigned, over any walk; list.extend of a tuple; enumerate of a tuple; text times int -/
namespace Wi
open PySem L2 PySem.Spec PyProof.Rows
section
variable {X : Cx}
theorem ps_setDc {i : Nat} {y : Str} {py : Pos} {kx vx tg iter : Expr} {ifs : List Expr} {scope : Scope} {own : List (Str × Nat)} {pos spos : Pos} {wi : TI} {g : TG} {tt : TT} {tk tv : TE} (hc : X.calm = true) (hN : X.N.Nodup) (hy : X.N[i]? = some y) (hyl : X.env.scope.names.lookup y = some .local)
    (hsw : swapsWith (.DictComp kx vx [⟨tg, iter, ifs, 0⟩] scope pos) (some (.Name y py)) spos.line X.env = pure true) (hi : PI X tg iter wi) (ok : BlkOk X.N X.env.scope scope own)
    (hg : ∀ (s : Shared) (H : Hp) (C : Addr) (cl : List (Str × Addr)) (fp : List Addr), PG (X.blk s H scope (compEnvC scope cl C X.env) fp) tg g) (ht : ∀ (s : Shared) (H : Hp) (C : Addr) (cl : List (Str × Addr)) (fp : List Addr), PTs (X.blk s H scope (compEnvC scope cl C X.env) fp) ifs tt)
    (hk : ∀ (s : Shared) (H : Hp) (C : Addr) (cl : List (Str × Addr)) (fp : List Addr), PE (X.blk s H scope (compEnvC scope cl C X.env) fp) kx tk)
    (he : ∀ (s : Shared) (H : Hp) (C : Addr) (cl : List (Str × Addr)) (fp : List Addr), PE (X.blk s H scope (compEnvC scope cl C X.env) fp) vx tv) (hs : ∀ x, foldedSetIterable iter X.env x = pure x := by intro _; rfl) :
    PS X (.Assign [.Name y py] (.DictComp kx vx [⟨tg, iter, ifs, 0⟩] scope pos) spos) (tAsg (tDc wi g tt tk tv (own.map (·.2))) (gName i)) := by
  refine ⟨fun pins s σ H D I h => ?_⟩
  rw [exec_Assign_Name_used _ _ _ _ hsw]
  refine wpAny_bind (wpAny_standAt (wpAny_bind ?_))
  show wpAny _ X.A (do let _ ← comprehension (.DictComp kx vx [⟨tg, iter, ifs, 0⟩] scope pos) scope X.env (firstIterPos [⟨tg, iter, ifs, 0⟩] pos) newDict false (eval iter X.env) (some (assign (.Name y py) X.env))) _ _ s
  have h : tDc wi g tt tk tv (own.map (·.2)) σ H (fun x H1 => gName i x σ H1 D.nx) := h
  refine wpAny_bind (thn (dc_core (Qf := fun _ s' => SP X pins D .next s') hc hN I hi ok hg ht hk he hs h fun L C s' m H' I' q hn f => ?_) fun _ s' hq => wpAny_pure (wpAny_pure hq))
  show wpAny _ _ (assign (.Name y py) X.env (.ref L)) _ _ _
  refine wpAny_assign_Name (store_ok2 (v := V.ref L) I' hN hy (.inl hyl) rfl (fun s2 I2 ⟨a, sb, ha⟩ => ?_) (.inr hyl))
  obtain ⟨f0, f1, f2, f3, f4, f5⟩ := f
  have haC : C ≠ a := by
    rcases ha with z | z
    · rw [z]; exact f1
    · exact fun e => f4 y a z e.symm
  refine ⟨m, hn.sameBut sb haC, fun h3 sb3 => ?_⟩
  exact ⟨_, H', I2.turned (t' := s2.toks) (fun b o hb e => (sb3.2 b hb).trans e) f0 f1 f3 f4 f5, q⟩
theorem sw_trueD {kx vx : Expr} {gs : List Comprehension} {scope : Scope} {pos py : Pos} {y : Str} {l : Nat} {env : Env} (hk : env.scope.kind = .function) (hy : env.scope.names.lookup y = some .local) (hl : (py.line == pos.line) = true)
    (ha : (scope.names.any fun (n, k) => n == y && (k == .local || k == .cell)) = false) : swapsWith (.DictComp kx vx gs scope pos) (some (.Name y py)) l env = pure true := by
  have ky : env.kindOf y = some .local := hy
  have hb : env.blockKind = .function := by unfold Env.blockKind; rw [hk]; rfl
  unfold swapsWith
  simp only [hb, ky, ha, Expr.pos, hl]
  rfl
end
/-- a dict comprehension over any walk -/
theorem dc_it {J : It} {n : Nat} {G : Hp → Prop} {Y : Nat → Hp → V → Hp → Prop} (w : Walk J n G Y) {g : TG} {tt : TT} {tk tv : TE} {vs : List Nat} {σ : L2.St} {H1 : Hp} {D : Addr} {Qd : Hp → Prop} (Pv : Nat → Hp → Prop) (h0 : Pv 0 (upd H1 D (.dK []))) (hG : ∀ i H, i ≤ n → Pv i H → G H)
    (hs : ∀ i x H H', i < n → Pv i H → Y i H x H' → g x (wipe σ vs) H' fun σ2 H2 => wipe σ2 vs = wipe σ vs ∧ tt σ2 H2 fun b H3 =>
      if b = true then tk σ2 H3 fun y H4 => tv σ2 H4 fun z H5 => ∃ kvs k, y = kV k ∧ H5 D = some (.dK kvs) ∧ kvs.length < sizeLine ∧ Pv (i + 1) (upd H5 D (.dK (putK kvs k z))) else Pv (i + 1) H3) (hd : ∀ H, Pv n H → Qd H) :
    ∃ W : Nat → Nat → Hp → Prop, (∃ m, W 0 m (upd H1 D (.dK []))) ∧ ∀ i m H, W i m H →
      (J.stop i H ∧ Qd H) ∨ (J.go i H ∧ ∃ Nx : Hp → Prop, (∀ H', Nx H' → ∃ m', m' < m ∧ W (i + 1) m' H') ∧ ∀ x H', J.yld i H x H' → g x (wipe σ vs) H' fun σ2 H2 => wipe σ2 vs = wipe σ vs ∧ tt σ2 H2 fun b H3 =>
        if b = true then tk σ2 H3 fun y H4 => tv σ2 H4 fun z H5 => ∃ kvs k, y = kV k ∧ H5 D = some (.dK kvs) ∧ kvs.length < sizeLine ∧ Nx (upd H5 D (.dK (putK kvs k z))) else Nx H3) := by
  refine ⟨fun i m H => m = n - i ∧ i ≤ n ∧ Pv i H, ⟨n, by simp, Nat.zero_le _, h0⟩, ?_⟩
  rintro i m H ⟨rfl, hi, p⟩
  have q := hG i H hi p
  by_cases hlt : i < n
  · refine .inr ⟨w.goes i H hlt q, Pv (i + 1), fun H' p' => ⟨n - (i + 1), by omega, rfl, hlt, p'⟩, fun x H' y => hs i x H H' hlt p (w.yields i H x H' hlt q y)⟩
  · have e : i = n := by omega
    subst e
    exact .inl ⟨w.stops H q, hd H p⟩
/-! list.extend of a tuple -/
set_option maxRecDepth 8000 in
theorem ext_tup (l : Addr) (items : Array Value) (n : Nat) (b : Addr) (items2 : Array Value) (n2 : Nat) (dd : Option Addr) (sl : Array (Option Value)) (hs0 : ¬(!items.isEmpty && Builtin.List.listTooLong (items.size + items2.size)) = true) (hs1 : items.size ≤ sizeLine) (hs2 : items.size + items2.size ≤ sizeLine + 1) :
    Meets (Builtin.«list.extend» ⟨[.ref l, .ref b], []⟩) (fun _ R s => s.heap.get? l = some { cls := .type "list", dict := none, data := .seq items n, slots := #[] } ∧ s.heap.get? b = some { cls := .type "tuple", dict := dd, data := .seq items2 n2, slots := sl } ∧ R (.ok (.ret Value.none)) { s with heap := s.heap.update l (Obj.mapSeq fun x => x ++ items2), toks := s.toks }) :=
  .of_wp fun prog w A R s h => by
    obtain ⟨hp, g, d, tk, os⟩ := s; obtain ⟨hl, hb, h⟩ := h; have f1 := AutoSeq1.idx_int; have f2 := AutoSeq1.sub_tuple_tuple; have f3 := AutoSeq1.sub_list_list; have f4 := AutoSeq1.sub_tuple_list; have f5 := AutoSeq1.sub_list_tuple;
    have hz' : (items ++ items2).size ≤ sizeLine + 1 := by rw [Array.size_append]; exact hs2
    wp_walk using (wpAny_updateSeq hl rfl (hz := hs1) (_hz' := hz')), AutoSeq1.wpAny_loadPart' hl, AutoSeq1.wpAny_loadPart' hb; exact ⟨_, rfl, h⟩
section
variable {X : Cx}
/-- xs.extend(t), t a tuple -/
def rExtT (K : PySem.W.Frag) : V → List V → Hp → VK → Prop := fun x vs H Q => ∃ l b xs zs, x = .ref l ∧ vs = [.ref b] ∧ H l = some (.lst xs) ∧ SqT K H b zs ∧ xs.length + zs.length ≤ sizeLine ∧ Q .non (upd H l (.lst (xs ++ zs)))
theorem mt_extendT : MtR X "list.extend" (rExtT X.K) := by
  intro pins s σ H x vs v us Q I rx rv h
  obtain ⟨l, b, xs, zs, rfl, rfl, hH, hB, hz, q⟩ := h
  cases rx
  obtain ⟨u, rfl, ru⟩ := rv.one
  cases ru
  obtain ⟨z, its, n, r, hl, e⟩ := I.lstM hH
  obtain ⟨its2, r2, ⟨o2, e2, hc, n2, hd⟩, hz2⟩ := I.tuple hB
  obtain ⟨oc, od, dt, sl⟩ := o2
  replace hc : oc = .type "tuple" := hc
  replace hd : dt = .seq its2.toArray n2 := hd
  subst hc hd
  have hl2 := r2.length
  have hsz : its.toArray.size + its2.toArray.size ≤ sizeLine := by rw [List.size_toArray, List.size_toArray]; omega
  have hlong : ¬ (!its.toArray.isEmpty && Builtin.List.listTooLong (its.toArray.size + its2.toArray.size)) = true := by
    rw [notLongL hsz, Bool.and_false]
    exact Bool.false_ne_true
  refine call_meets F.slot_list_extend ⟨_, e, rfl⟩ F.entry_list_extend (F.args_list_extend_2 _ _)
    (ext_tup l its.toArray n b its2.toArray n2 od sl hlong (by rw [List.size_toArray]; omega) (by omega)) ⟨e, e2, ?_⟩
  refine ⟨.non, _, I.lset (its' := its ++ its2) hH e (by simp) (r.append r2) ?_, rfl, q⟩
  rw [List.length_append]
  omega
/-- text times int -/
theorem op_mulSI : OpR X (binaryOp .Mult) (fun x y H Q => ∃ (z : Str) (n : Int), x = .str z ∧ y = .int n ∧ MulOk z n ∧ Q (.str (Txt.mul z n)) H) := by
  intro pins s σ H x y v u Q I rx ry h
  obtain ⟨z, n, rfl, rfl, h0, q⟩ := h
  obtain ⟨t, rfl⟩ := rx
  obtain ⟨t', rfl⟩ := ry
  exact SB.mul h0 fun t' k => ⟨.str (Txt.mul z n), H, I.tok _, ⟨_, rfl⟩, q⟩
end
/-! enumerate of a tuple -/
section
open PySem
set_option maxHeartbeats 1000000 in
theorem meets_enumT (l : Addr) (items : Array Value) (n : Nat) (dct : Option Addr) (sl : Array (Option Value)) :
    Meets (Builtin.«enumerate.__new__» ⟨[.type "enumerate", .ref l], []⟩) (fun _ R s => s.heap.get? l = some { cls := .type "tuple", dict := dct, data := .seq items n, slots := sl } ∧
      R (.ok (.ret (.ref (s.heap.push { cls := .type "tuple_iterator", data := .fields #[.ref l, .int 0 0] }).objs.size)))
        { s with heap := (s.heap.push { cls := .type "tuple_iterator", data := .fields #[.ref l, .int 0 0] }).push { cls := .type "enumerate", data := .fields #[.none, .bool false, .ref s.heap.objs.size, rawInt 0, .none, .none] } }) :=
  .of_wp fun prog w A R s h => by
    obtain ⟨hp, g, d, tk, os⟩ := s; obtain ⟨hl, h⟩ := h
    have hsub := sub_enumerate
    have hL : Heap.IsTuple (Shared.heap ⟨hp, g, d, tk, os⟩) l items := ⟨_, hl, rfl, n, rfl⟩
    wp_walk using AutoSeq1.wpAny_loadPart' hl
    refine wpAny_stack_any fun st => wpAny_pure ?_
    split
    · rename_i c _ _ _ _ _
      cases (c == Value.type "enumerate")
      · wp_walk using AutoSeq1.wpAny_loadPart' hl, wpAny_pyIter_tuple hL
        exact ⟨_, rfl, h⟩
      · wp_walk using AutoSeq1.wpAny_loadPart' hl, wpAny_pyIter_tuple hL
        exact ⟨_, rfl, h⟩
    · wp_walk using AutoSeq1.wpAny_loadPart' hl, wpAny_pyIter_tuple hL
      exact ⟨_, rfl, h⟩
theorem call_enumT {prog : Program} {w : World} {A : Around} {E : Value → Shared → Prop} {s : Shared} {l : Addr} {items : Array Value} {Q : Value → Shared → Prop} (hL : s.heap.IsTuple l items)
    (h : ∀ h', IsEnum h' (s.heap.objs.size + 1) s.heap.objs.size 0 .none → h'.IsTupleIter s.heap.objs.size l 0 → h'.objs.size = s.heap.objs.size + 2 →
      (∀ b o, s.heap.get? b = some o → h'.get? b = some o) → Q (.ref (s.heap.objs.size + 1)) { s with heap := h' }) :
    wpAny (model prog w) A (call (.type "enumerate") [.ref l]) Q E s := by
  obtain ⟨⟨c, dct, dt, sl⟩, hl, hc, n, hd⟩ := hL
  replace hc : c = .type "tuple" := hc
  replace hd : dt = .seq items n := hd
  subst hc hd
  refine callType_new PySem.F.called_enumerate (by decide) (PySem.F.typeCall_enumerate_1 _) (PySem.F.newCall_enumerate_1 _) (fun obj => PySem.F.args_object_init_2 obj _) PySem.F.entry_enumerate_new
    (meets_enumT l items n dct sl) ⟨hl, ?_⟩
  have hz : (s.heap.push { cls := .type "tuple_iterator", data := .fields #[.ref l, .int 0 0] }).objs.size = s.heap.objs.size + 1 := Heap.size_push ..
  show _ ∧ _
  rw [hz]
  have he : IsEnum ((s.heap.push { cls := .type "tuple_iterator", data := .fields #[.ref l, .int 0 0] }).push
      { cls := .type "enumerate", data := .fields #[.none, .bool false, .ref s.heap.objs.size, rawInt 0, .none, .none] }) (s.heap.objs.size + 1) s.heap.objs.size 0 .none := by
    have := Heap.get?_push_size (s.heap.push { cls := .type "tuple_iterator", data := .fields #[.ref l, .int 0 0] })
      (o := { cls := .type "enumerate", data := .fields #[.none, .bool false, .ref s.heap.objs.size, rawInt 0, .none, .none] }) rfl
    rw [hz] at this; exact this
  refine ⟨⟨_, he, rfl⟩, h _ he ⟨_, Heap.get?_push_of_some _ (Heap.get?_push_size _ rfl), rfl, rfl⟩ (by rw [Heap.size_push, hz]) fun b o x => Heap.get?_push_of_some _ (Heap.get?_push_of_some _ x)⟩
/-- the tuple at a as it stands at each turn, each item in a new pair -/
def IteT (K : PySem.W.Frag) (a : Addr) : It :=
  ⟨fun i H => ∃ (xs : List V) (x : V), SqT K H a xs ∧ xs[i]? = some x, fun i H v H' => ∃ T x, v = .ref T ∧ H T = none ∧ H' = upd H T (.tup [.int (i : Nat), x]) ∧ ∀ xs, SqT K H a xs → xs[i]? = some x, fun i H => ∃ xs : List V, SqT K H a xs ∧ xs.length ≤ i⟩
theorem turn_enumT {P : Program} {w : World} {K : PySem.W.Frag} {elts : List Expr} {kk : Nat} {tpos : Pos} (a e it : Addr) :
    Turn P w K (.Tuple elts kk tpos) (IteT K a) [e, it] e (fun i h => (∃ old, IsEnum h e it ((i : Nat) : Int) old) ∧ h.IsTupleIter it a i ∧ e ≠ it) where
  mem := by simp
  obj := fun i h st b hb => by
    obtain ⟨⟨old, he⟩, ⟨o, ho, hc, hd⟩, _⟩ := st
    have e' : b = e ∨ b = it := by simpa using hb
    rcases e' with z | z
    · rw [z]; exact ⟨_, he, fun v q => nomatch q⟩
    · rw [z]; exact ⟨o, ho, fun v q => by rw [hd] at q; cases q⟩
  keep := fun i h h' st k => let ⟨⟨old, he⟩, hi, hne⟩ := st; ⟨⟨old, k e (by simp) _ he⟩, hi.at fun o q => k it (by simp) o q, hne⟩
  item := by
    intro X hP hw hK hc i pins s σ H E I hf st hg
    subst hP hw hK
    obtain ⟨⟨old, he⟩, hit, hne⟩ := st
    obtain ⟨xs, x, hq, hx⟩ := hg
    obtain ⟨its, rv, p, hz⟩ := I.tuple hq
    have pT : s.heap.IsTuple a its.toArray := p
    obtain ⟨u, hu, ru⟩ := rv.get hx
    have hel : e < s.heap.objs.size := Heap.lt_size he
    have hil : it < s.heap.objs.size := by obtain ⟨_, q, _⟩ := hit; exact Heap.lt_size q
    have hea : e ≠ a := fun z => by
      obtain ⟨o, ho, hc2, _⟩ := pT
      rw [← z, he] at ho
      cases ho
      exact absurd (show Value.type "enumerate" = Value.type "tuple" from hc2) (by decide)
    have hta : a ≠ it := fun z => by
      obtain ⟨o, ho, hc2, _⟩ := pT
      obtain ⟨o', ho', hc3, _⟩ := hit
      rw [z, ho'] at ho
      cases ho
      rw [hc3] at hc2
      exact absurd hc2 (by decide)
    have hh : X.A.handled = none := I.ok.hd hc
    refine wpAny_pyNext_enum_itemD (Draws.tuple (prog := X.prog) (w := X.w) (A := X.A.in1) hh it a hta its.toArray) he ⟨hit, pT⟩ (by have := rv.length; have := List.getElem?_eq_some_iff.mp hu; obtain ⟨q, _⟩ := this; simpa using q) hne (by simp [hne, hea]) fun x' h' tk hP ho hst' hT hsz hk => ?_
    have hx' : x' = u := by
      have hP' : its.toArray[i]? = some x' := hP
      have : its[i]? = some x' := by simpa using hP'
      rw [hu] at this
      exact (Option.some.inj this).symm
    subst hx'
    refine ⟨_, rfl, wpAny_letOwnedTupleGo_enum (s := { s with heap := h', toks := tk + 1 }) ho fun h'' he' sb => ?_⟩
    have hT2 : h''.get? s.heap.objs.size = some { cls := .type "tuple", data := .seq #[.int i tk, x'] } := (sb.2 _ (Nat.ne_of_gt hel)).trans hT
    have new : ObjOk X.prog X.w (upd H s.heap.objs.size (.tup [.int (i : Nat), x])) h'' s.heap.objs.size (.tup [.int (i : Nat), x]) :=
      ⟨by show 2 ≤ sizeLine; decide, [.int i tk, x'], .cons ⟨_, rfl⟩ (.cons ru .nil), ⟨_, hT2, rfl, _, rfl⟩⟩
    have I1 : Inv X pins σ (upd H s.heap.objs.size (.tup [.int (i : Nat), x])) { s with heap := h'', toks := tk + 1 } :=
      I.turnedNew (ch := [e, it]) (fun b ob hb q => (sb.2 b (fun z => hb (by simp [z]))).trans (hk b ob (fun z => hb (by simp [z])) (fun z => hb (by simp [z])) q)) hf (Nat.le_refl _) new
    refine ⟨.ref s.heap.objs.size, _, I1, rfl, ⟨_, x, rfl, I.hok.fresh (Nat.le_refl _), rfl, fun ys hy => by rw [I.tuple_inj hy hq]; exact hx⟩, ⟨⟨x', ?_⟩, hst'.1.at fun o q => (sb.2 it (Ne.symm hne)).trans q, hne⟩, fun b hb => ?_⟩
    · have e1 : ((i + 1 : Nat) : Int) = (i : Int) + 1 := by omega
      rw [e1]; exact he'
    · have hb' : b < s.heap.objs.size := by
        have e' : b = e ∨ b = it := by simpa using hb
        rcases e' with z | z
        · rw [z]; exact hel
        · rw [z]; exact hil
      rw [upd_ne (Nat.ne_of_lt hb')]
      exact (hf b hb).1
  done := by
    intro X hP hw hK hc i pins s σ H E I hf st hg
    subst hP hw hK
    obtain ⟨⟨old, he⟩, hit, hne⟩ := st
    obtain ⟨xs, hq, hx⟩ := hg
    obtain ⟨its, rv, p, hz⟩ := I.tuple hq
    have pT : s.heap.IsTuple a its.toArray := p
    obtain ⟨f0, f1, f2, f3, f4, f5⟩ := hf it (by simp)
    have hl := rv.length
    have hh : X.A.handled = none := I.ok.hd hc
    have hT : s.TypeIs (.ref e) "enumerate" := ⟨_, he, rfl⟩
    unfold pyNext
    refine wpAny_bind (wpAny_attempt (wpAny_callSpecial?_slot (name := Str.ofString "__next__") hT PySem.F.slot_enumerate_next
      (wpAny_call_entry PySem.F.slot_enumerate_next hT PySem.F.entry_enumerate_next ?_ (PySem.F.args_enumerate_next_1 _))))
    show wpAny _ _ (field (.ref e) 2 >>= _) _ _ _
    refine wpAny_bind (wpAny_field he rfl (x := .ref it) rfl ?_)
    refine wpAny_bind (wpAny_nextOf_tuple_end hh hit pT (by simp; omega) fun h' x he' hx' => ?_)
    obtain ⟨o, ho, hc⟩ := hx'
    refine wpAny_bind (wpAny_isInstance (T := "StopIteration") (b := true) ⟨o, ho, hc⟩ isSubtype_stop ?_)
    exact wpAny_pure ⟨rfl, I.turned (t' := s.toks) (fun b o hb q => he' b o hb q) f0 f1 f3 f4 f5⟩
  self := fun A i s Q E st h => let ⟨⟨_, he⟩, _⟩ := st; wpAny_pyIter_enum he h
def iEnumT (K : PySem.W.Frag) (ta : TA) : TI := fun σ H R => ta σ H fun vs H1 => ∃ a xs, vs = [.ref a] ∧ SqT K H1 a xs ∧ R (IteT K a) H1
theorem pi_enumT {X : Cx} {e : Expr} {ta : TA} {p pos tpos : Pos} {elts : List Expr} {kk : Nat} (hg : Gl X "enumerate") (hm : X.mg "enumerate" = none) (ha : PA X [e] ta) (hs : starEach [e] X.env = [(false, eval e X.env)] := by rfl) :
    PI X (.Tuple elts kk tpos) (.Call (.Name "enumerate" p) [e] [] pos) (iEnumT X.K ta) := by
  refine ⟨fun pins s σ H R I h => ?_⟩
  refine Call_ (ld_blt I hg hm boot_enumerate (PyProof.Rows.callWith_type1 (thn (ha.run pos pins s σ H _ I h) fun us s1 ⟨vs, H1, I1, r1, q1⟩ => ?_) hs rfl))
  obtain ⟨a, xs, ex, hq, q⟩ := q1
  subst ex
  cases r1 with
  | cons r rr =>
    cases rr
    cases r
    obtain ⟨its, rv, p', hz⟩ := I1.tuple hq
    refine call_enumT (show s1.heap.IsTuple a its.toArray from p') fun h' he hit hsz hk => wpAny_pyIter_enum he ?_
    have I2 : Inv X pins σ H1 { s1 with heap := h' } := I1.kept (t' := s1.toks) hk
    refine ⟨s1.heap.objs.size + 1, [s1.heap.objs.size + 1, s1.heap.objs.size], _, _, H1, rfl, I2, turn_enumT a (s1.heap.objs.size + 1) s1.heap.objs.size, ⟨⟨.none, he⟩, hit, Nat.succ_ne_self _⟩, fun b hb => ?_, q⟩
    have e' : b = s1.heap.objs.size + 1 ∨ b = s1.heap.objs.size := by simpa using hb
    have hle : s1.heap.objs.size ≤ b := by
      rcases e' with z | z
      · rw [z]; exact Nat.le_add_right _ _
      · rw [z]; exact Nat.le_refl _
    exact I1.fpOk hle (I1.hok.fresh hle)
theorem walk_enumT {K : PySem.W.Frag} {a : Addr} {xs : List V} : Walk (IteT K a) xs.length (fun H => SqT K H a xs) (YPair (fun i => some (.int (i : Nat))) (fun i => xs[i]?)) := by
  refine ⟨fun i _ hi q => ⟨xs, xs[i], q, by simp [hi]⟩, fun _ q => ⟨xs, q, Nat.le_refl _⟩, fun i H v H' _ q y => ?_⟩
  obtain ⟨T, x, h1, h2, h3, h4⟩ := y
  exact ⟨T, .int (i : Nat), x, h1, h2, h3, rfl, h4 xs q⟩
end
end Wi
set_option maxHeartbeats 4000000
set_option maxRecDepth 100000
/-! L4: a dict whose keys are (text, tuple of texts) and whose values are texts -/
namespace Wi
open PySem L2 PySem.Spec PyProof.Rows
abbrev FK := Str × List Str
def nk (k : FK) : NestedKey := .tup [.text k.1, .tup (k.2.map .text)]
def keyD (k : FK) : D := .tup [.str k.1, strsD k.2]
theorem text_inj : ∀ {xs ys : List Str}, xs.map NestedKey.text = ys.map NestedKey.text → xs = ys
  | [], [], _ => rfl
  | [], _ :: _, h => by cases h
  | _ :: _, [], h => by cases h
  | x :: xs, y :: ys, h => by
    simp only [List.map_cons, List.cons.injEq, NestedKey.text.injEq] at h
    rw [h.1, text_inj h.2]
theorem nk_inj {a b : FK} (h : nk a = nk b) : a = b := by
  unfold nk at h
  simp only [NestedKey.tup.injEq, List.cons.injEq, NestedKey.text.injEq, and_true] at h
  exact Prod.ext h.1 (text_inj h.2)
theorem depthAll_texts : ∀ xs : List Str, NestedKey.depthAll (xs.map .text) ≤ 1
  | [] => by simp [NestedKey.depthAll]
  | x :: xs => by
    have := depthAll_texts xs
    simp only [List.map_cons, NestedKey.depthAll, NestedKey.depth]
    omega
theorem nk_depth (k : FK) : (nk k).depth ≤ 8 := by
  have := depthAll_texts k.2
  simp only [nk, NestedKey.depth, NestedKey.depthAll]
  omega
section
variable {P : Program} {w : World} {H H' : Hp} {h : Heap}
theorem nested_texts : ∀ {xs : List Str} {us : List Value}, Vals (xs.map V.str) us → NestedAll h (xs.map .text) us
  | [], _, .nil => .nil
  | x :: xs, _, .cons ⟨t, e⟩ r => by subst e; exact .cons (.text x t) (nested_texts r)
/-- a key's value -/
theorem nk_is {k : FK} {b : Addr} (ok : HOk P w H h) (r : Rep H (keyD k) (.ref b)) : (nestedKind P w).is h (nk k) b := by
  refine ⟨?_, nk_depth k⟩
  cases r with
  | tup e rl =>
    cases rl with
    | cons r1 rl =>
      cases rl with
      | cons r2 rl =>
        cases rl
        rw [r1.eStr] at e
        cases r2 with
        | tup e2 r3 =>
          rw [r3.strs] at e2
          obtain ⟨_, its, q, o, h1, h2, n, h3⟩ := (show ObjOk P w H h b (.tup _) from ok b _ e)
          obtain ⟨_, its2, q2, o2, g1, g2, m, g3⟩ := (show ObjOk P w H h _ (.tup _) from ok _ _ e2)
          cases q with
          | cons a1 q =>
            cases q with
            | cons a2 q =>
              cases q
              obtain ⟨t, rfl⟩ := a1
              cases a2
              exact .tup h1 h2 h3 (.cons (.text _ _) (.cons (.tup g1 g2 g3 (by simpa using nested_texts q2)) .nil))
abbrev FE := FK × Addr × Str
def FRel : List FE → List (NestedKey × Addr × Value) → Prop := Paired fun p q => q.1 = nk p.1 ∧ q.2.1 = p.2.1 ∧ ∃ t, q.2.2 = .str p.2.2 t
/-- the dict's object -/
def fdO (P : Program) (w : World) (d : Addr) (xs : List FE) : HO := .ext fun h => xs.length ≤ sizeLine ∧ (d == sysModules) = false ∧ ∃ ys o es ep, FRel xs ys ∧ h.get? d = some o ∧ o.ExactDict ∧ o.data = .dict es ep ∧ es.toList = ys.map (entryOfKey (nestedKind P w)) ∧ (ys.map (·.1)).Nodup
/-- at d stands a dict with these entries, in this order -/
structure FD (P : Program) (w : World) (H : Hp) (d : Addr) (m : List (FK × Str)) : Prop where
  ex : ∃ xs, H d = some (fdO P w d xs) ∧ (∀ x ∈ xs, Rep H (keyD x.1) (.ref x.2.1)) ∧ xs.map (fun x => (x.1, x.2.2)) = m
theorem fd_of {d : Addr} {xs : List FE} (ok : HOk P w H h) (e : H d = some (fdO P w d xs)) (hk : ∀ x ∈ xs, Rep H (keyD x.1) (.ref x.2.1)) :
    xs.length ≤ sizeLine ∧ (d == sysModules) = false ∧ ∃ ys, FRel xs ys ∧ h.DictOfH (nestedKind P w) d ys := by
  obtain ⟨⟨hz, hd, ys, o, es, ep, r, h1, h2, h3, h4, h5⟩, _⟩ := (show ObjOk P w H h d (.ext _) from ok d _ e)
  have all : ∀ {l : List FE} {m : List (NestedKey × Addr × Value)}, FRel l m → (∀ x ∈ l, Rep H (keyD x.1) (.ref x.2.1)) → ∀ y ∈ m, (nestedKind P w).is h y.1 y.2.1 := by
    intro l m q
    induction q with
    | nil => intro _ y hy; cases hy
    | cons rr _ ih =>
      intro hk y hy
      rcases List.mem_cons.mp hy with z | z
      · rw [z, rr.1, rr.2.1]
        exact nk_is ok (hk _ (List.mem_cons_self ..))
      · exact ih (fun x hx => hk x (List.mem_cons_of_mem _ hx)) y z
  exact ⟨hz, hd, ys, r, o, es, ep, h1, h2, h3, h4, all r hk, h5⟩
/-- what it holds at a key -/
def fdGet (m : List (FK × Str)) (k : FK) : Option Str := (m.find? fun x => decide (x.1 = k)).map (·.2)
theorem fd_at {k : FK} : ∀ {xs : List FE} {ys : List (NestedKey × Addr × Value)}, FRel xs ys →
    match fdGet (xs.map fun x => (x.1, x.2.2)) k with
    | none => atKey ys (nk k) = none
    | some z => ∃ b t, atKey ys (nk k) = some (b, .str z t)
  | _, _, .nil => rfl
  | _, _, .cons (a := p) (b := q) ⟨e1, e2, t, e3⟩ r => by
    have ih := fd_at (k := k) r
    unfold fdGet atKey at *
    simp only [List.map_cons, List.find?_cons]
    by_cases hk : p.1 = k
    · have h2 : q.1 = nk k := by rw [e1, hk]
      rw [decide_eq_true hk, decide_eq_true h2]
      exact ⟨q.2.1, t, by simp only [Option.map_some]; rw [← e3]⟩
    · have h2 : ¬ q.1 = nk k := fun z => hk (nk_inj (by rw [← e1]; exact z))
      rw [decide_eq_false hk, decide_eq_false h2]
      exact ih
theorem FRel.snoc {xs : List FE} {ys : List (NestedKey × Addr × Value)} {k : FK} {b : Addr} {z : Str} {t : Tok} : FRel xs ys → FRel (xs ++ [(k, b, z)]) (ys ++ [(nk k, b, .str z t)])
  | .nil => .cons ⟨rfl, rfl, t, rfl⟩ .nil
  | .cons p r => .cons p (FRel.snoc r)
theorem FRel.len : ∀ {xs : List FE} {ys : List (NestedKey × Addr × Value)}, FRel xs ys → xs.length = ys.length
  | _, _, .nil => rfl
  | _, _, .cons _ r => congrArg Nat.succ (FRel.len r)
theorem FD.tx {d : Addr} {m : List (FK × Str)} (x : FD P w H d m) (e : H' d = H d) (t : Tx H H') : FD P w H' d m := by
  obtain ⟨xs, h1, h2, h3⟩ := x.ex
  exact ⟨xs, e.trans h1, fun y hy => (h2 y hy).tx t, h3⟩
theorem FD.some {d : Addr} {m : List (FK × Str)} (x : FD P w H d m) : ∃ φ, H d = some (.ext φ) := let ⟨_, h1, _⟩ := x.ex; ⟨_, h1⟩
end
section
variable {X : Cx}
def tDNewF (P : Program) (w : World) : TE := fun _ H Q => ∀ d, H d = none → FD P w (upd H d (fdO P w d [])) d [] → Q (.ref d) (upd H d (fdO P w d []))
theorem fd_ok {P : Program} {w : World} {H : Hp} {h : Heap} {d : Addr} {xs : List FE} {ys : List (NestedKey × Addr × Value)} (hz : xs.length ≤ sizeLine) (hd : (d == sysModules) = false) (r : FRel xs ys) {o : Obj} {es : Array DictEntry} {ep : Nat} (h1 : h.get? d = some o) (h2 : o.ExactDict) (h3 : o.data = .dict es ep)
    (h4 : es.toList = ys.map (entryOfKey (nestedKind P w))) (h5 : (ys.map (·.1)).Nodup) : ObjOk P w H h d (fdO P w d xs) :=
  ⟨⟨hz, hd, ys, o, es, ep, r, h1, h2, h3, h4, h5⟩, ⟨o, h1⟩, fun g1 g2 ⟨a, b, zs, o', es', ep', r', q1, q⟩ k => ⟨a, b, zs, o', es', ep', r', k _ q1, q⟩⟩
theorem pe_dnewF {pos : Pos} : PE X (.Dict [] [] pos) (tDNewF X.prog X.w) := ⟨fun pins s σ H Q I h =>
  wpAny_Dict_empty ⟨.ref s.heap.objs.size, _, I.laid (a := s.heap.objs.size) (o := fdO X.prog X.w s.heap.objs.size []) (t' := s.toks) (fun _ _ q => Heap.get?_push_of_some _ q) (Nat.le_refl _)
    (fd_ok (ys := []) (o := { cls := .type "dict", data := .dict #[] }) (es := #[]) (ep := 0) (Nat.zero_le _) (beq_eq_false_iff_ne.mpr (Ne.symm (Nat.ne_of_lt I.big))) .nil (Heap.get?_push_size _ rfl) ⟨rfl, rfl, rfl⟩ rfl rfl List.nodup_nil), rfl,
    h _ (I.hok.fresh (Nat.le_refl _)) ⟨[], upd_same, (fun x hx => absurd hx List.not_mem_nil), rfl⟩⟩⟩
theorem nroom {A : Around} {k : Nat} (hr : Room k A) : A.units + 9 < cLine := Nat.lt_of_le_of_lt (Nat.add_le_add_left (by decide : 9 ≤ 64) _) hr.units
theorem nroom1 {P : Program} {w : World} {A : Around} (hu : A.units + 9 < cLine) : (nestedKind P w).room A.in1 := show A.units + 1 + 8 < cLine by omega
theorem op_notIn_fd (hu : X.A.units + 9 < cLine) : OpR X (compareOp .NotIn) (fun x y H Q => ∃ d k m, y = .ref d ∧ FD X.prog X.w H d m ∧ Rep H (keyD k) x ∧ Q (.bl (!(fdGet m k).isSome)) H) := by
  intro pins s σ H x y v u Q I rx ry h
  obtain ⟨d, k, m, rfl, f, rk, q⟩ := h
  obtain ⟨xs, h1, h2, rfl⟩ := f.ex
  cases ry
  obtain ⟨b, vs, rfl, _, _⟩ := rk.eTup
  cases rx
  obtain ⟨hz, hd, ys, r, dd⟩ := fd_of I.hok h1 h2
  refine notIn_keyed (nroom1 hu) (nk_is I.hok rk) hd ⟨ys, dd, rfl⟩ ⟨.bl _, H, I.tok _, rfl, ?_⟩
  have hv := fd_at (k := k) r
  rw [valueAt_pairsH]
  cases e : fdGet (xs.map fun x => (x.1, x.2.2)) k with
  | none =>
    rw [e] at hv q
    rw [show atKey ys (nk k) = none from hv]
    exact q
  | some z =>
    rw [e] at hv q
    obtain ⟨b2, t, hv⟩ := hv
    rw [hv]
    exact q
def rIxF (P : Program) (w : World) : R2 := fun x y H Q => ∃ d k m z, x = .ref d ∧ FD P w H d m ∧ Rep H (keyD k) y ∧ fdGet m k = some z ∧ Q (.str z) H
theorem ix_fd (hu : X.A.units + 9 < cLine) : IxR X (rIxF X.prog X.w) := by
  intro value slice pins s σ H x y v u Q I rx ry h hs
  obtain ⟨d, k, m, z, rfl, f, rk, e, q⟩ := h
  obtain ⟨xs, h1, h2, rfl⟩ := f.ex
  cases rx
  obtain ⟨b, vs, rfl, _, _⟩ := rk.eTup
  cases ry
  obtain ⟨hz, hd, ys, r, dd⟩ := fd_of I.hok h1 h2
  have hv := fd_at (k := k) r
  rw [e] at hv
  obtain ⟨b2, t, hv⟩ := hv
  refine subscriptTail_builtinR (x := .str z t) dd.typeIs PySem.F.slot_dict_getitem.lookup ?_ hs
  refine getItem_keyed (nroom1 hu) (nk_is I.hok rk) ⟨ys, dd, rfl⟩ (v := .str z t) (by rw [valueAt_pairsH, hv]; rfl) ⟨rfl, .str z, H, I.tok _, ⟨t, rfl⟩, q⟩
/-- d[k] = z, k new -/
def rSetF (P : Program) (w : World) : TSet := fun o i v H Q => ∃ d k m z, o = .ref d ∧ v = .str z ∧ FD P w H d m ∧ Rep H (keyD k) i ∧ fdGet m k = none ∧ m.length < sizeLine ∧
  ∀ H', (∀ a, a ≠ d → H' a = H a) → FD P w H' d (m ++ [(k, z)]) → (∃ φ, H d = some (.ext φ)) → Q H'
theorem set_fd (hu : X.A.units + 9 < cLine) : PSet X (rSetF X.prog X.w) := by
  intro pins s σ H o i v ov iv u Q I ro ri rv h
  obtain ⟨d, k, m, z, rfl, rfl, f, rk, e, hlen, q⟩ := h
  obtain ⟨xs, h1, h2, rfl⟩ := f.ex
  cases ro
  obtain ⟨t, rfl⟩ := rv
  obtain ⟨b, vs, rfl, _, _⟩ := rk.eTup
  cases ri
  obtain ⟨hz, hd, ys, r, dd⟩ := fd_of I.hok h1 h2
  have hv := fd_at (k := k) r
  rw [e] at hv
  have hv : atKey ys (nk k) = none := hv
  have hlen' : xs.length < sizeLine := by simpa using hlen
  refine wpAny_setItem_heap (hsz := by rw [← FRel.len r]; exact hz) (nroom1 hu) (nk_is I.hok rk) dd fun h' dd' hs => ?_
  rw [storedH_new hv] at dd'
  obtain ⟨q', es, ep, hq, g2, g3, g4, _, g5⟩ := dd'
  have mu : Mut (H d) := by rw [h1]; exact True.intro
  refine ⟨_, d_write (ob := fdO X.prog X.w d (xs ++ [(k, b, z)])) I mu hs ⟨q', hq⟩ (fd_ok (by rw [List.length_append, List.length_singleton]; omega) hd (FRel.snoc r) hq g2 g3 g4 g5), q _ (fun a ha => upd_ne ha) ⟨xs ++ [(k, b, z)], upd_same, fun x hx => ?_, ?_⟩ ⟨_, h1⟩⟩
  · have tx : Tx H (upd H d (fdO X.prog X.w d (xs ++ [(k, b, z)]))) := (Tx.refl H).mut h1 fun _ z => nomatch z
    rcases List.mem_append.mp hx with y | y
    · exact (h2 x y).tx tx
    · rw [List.mem_singleton.mp y]
      exact rk.tx tx
  · simp
end
end Wi
set_option maxHeartbeats 4000000
set_option maxRecDepth 100000
/-! L5: helpers of the walks: tuples unpacked, comprehensions of data, dicts by text -/
namespace Wi
open PySem L2 PySem.Spec PyProof.Rows
section
variable {H H0 H1 H' : Hp} {v : V}
theorem Rep.t1 {a : D} (h : Rep H (.tup [a]) v) : ∃ p x, v = .ref p ∧ H p = some (.tup [x]) ∧ Rep H a x := by
  cases h with
  | tup h r => cases r with | cons h1 r => cases r; exact ⟨_, _, rfl, h, h1⟩
theorem Rep.t2 {a b : D} (h : Rep H (.tup [a, b]) v) : ∃ p x y, v = .ref p ∧ H p = some (.tup [x, y]) ∧ Rep H a x ∧ Rep H b y := by
  cases h with
  | tup h r => cases r with | cons h1 r => cases r with | cons h2 r => cases r; exact ⟨_, _, _, rfl, h, h1, h2⟩
theorem Rep.t3 {a b c : D} (h : Rep H (.tup [a, b, c]) v) : ∃ p x y z, v = .ref p ∧ H p = some (.tup [x, y, z]) ∧ Rep H a x ∧ Rep H b y ∧ Rep H c z := by
  cases h with
  | tup h r => cases r with | cons h1 r => cases r with | cons h2 r => cases r with | cons h3 r => cases r; exact ⟨_, _, _, _, rfl, h, h1, h2, h3⟩
theorem Rep.t4 {a b c d : D} (h : Rep H (.tup [a, b, c, d]) v) : ∃ p x y z u, v = .ref p ∧ H p = some (.tup [x, y, z, u]) ∧ Rep H a x ∧ Rep H b y ∧ Rep H c z ∧ Rep H d u := by
  cases h with
  | tup h r => cases r with | cons h1 r => cases r with | cons h2 r => cases r with | cons h3 r => cases r with | cons h4 r => cases r; exact ⟨_, _, _, _, _, rfl, h, h1, h2, h3, h4⟩
theorem Rep.t6 {a b c d e f : D} (h : Rep H (.tup [a, b, c, d, e, f]) v) : ∃ p x y z u s t, v = .ref p ∧ H p = some (.tup [x, y, z, u, s, t]) ∧ Rep H a x ∧ Rep H b y ∧ Rep H c z ∧ Rep H d u ∧ Rep H e s ∧ Rep H f t := by
  cases h with
  | tup h r => cases r with | cons h1 r => cases r with | cons h2 r => cases r with | cons h3 r => cases r with | cons h4 r => cases r with | cons h5 r => cases r with | cons h6 r => cases r; exact ⟨_, _, _, _, _, _, _, rfl, h, h1, h2, h3, h4, h5, h6⟩
theorem Rep.strs {l : List Str} (h : Rep H (strsD l) v) : ∃ p, v = .ref p ∧ H p = some (.tup (l.map V.str)) := by
  obtain ⟨p, vs, e, h1, r⟩ := h.eTup
  rw [r.strs] at h1
  exact ⟨p, e, h1⟩
theorem Rep.ofStrs {l : List Str} {p : Addr} (h : H p = some (.tup (l.map V.str))) : Rep H (strsD l) (.ref p) := .tup h (repL_strs l)
theorem RepL.mem {ds : List D} {vs : List V} (r : RepL H ds vs) {i : Nat} {u : V} (h : vs[i]? = some u) : ∃ d, ds[i]? = some d ∧ Rep H d u := r.getV h
/-- the i-th of mapped data -/
theorem RepL.at {α : Type} {f : α → D} {l : List α} {vs : List V} (r : RepL H (l.map f) vs) {i : Nat} {u : V} (h : vs[i]? = some u) : ∃ x, l[i]? = some x ∧ Rep H (f x) u := by
  obtain ⟨d, h1, h2⟩ := r.getV h
  rw [List.getElem?_map] at h1
  obtain ⟨x, h3, h4⟩ := Option.map_eq_some_iff.mp h1
  exact ⟨x, h3, h4 ▸ h2⟩
theorem take_succ {α : Type} {l : List α} {i : Nat} {x : α} (h : l[i]? = some x) : l.take (i + 1) = l.take i ++ [x] := by
  rw [List.take_succ, h]; rfl
theorem mem_take_succ {α : Type} {l : List α} {i : Nat} {x y : α} (h : l[i]? = some x) : y ∈ l.take (i + 1) ↔ y ∈ l.take i ∨ y = x := by
  rw [take_succ h, List.mem_append, List.mem_singleton]
theorem Same.upd2 {p : Addr} {o u : HO} (e : Same H (upd H1 p o)) (h : H p = none) : Same H (upd (upd H1 p o) p u) := e.mut h
theorem updd {p : Addr} {o u : HO} : upd (upd H p o) p u = upd H p u := by
  funext a
  by_cases e : a = p
  · rw [e, upd_same, upd_same]
  · rw [upd_ne e, upd_ne e, upd_ne e]
end

/-- a list comprehension of data: the i-th value bears the i-th datum; what stood before stays -/
theorem lc_data {J : It} {n : Nat} {G : Hp → Prop} {Y : Nat → Hp → V → Hp → Prop} (w : Walk J n G Y) {g : TG} {te : TE} {vs : List Nat} {σ : L2.St} {H1 : Hp} {L : Addr} {Qd : Hp → Prop} (ds : List D) (hn : ds.length = n) (hz : n ≤ 100000) (hD : H1 L = none) (hG : ∀ H, Same H1 H → G H)
    (hs : ∀ (i : Nat) (x : V) (d : D) (H H' : Hp) (Q : VK), i < n → Same H1 H → Y i H x H' → ds[i]? = some d → (∀ v H', Same H H' → Rep H' d v → Q v H') → g x (wipe σ vs) H' fun σ2 H2 => wipe σ2 vs = wipe σ vs ∧ te σ2 H2 Q)
    (hd : ∀ H vs, Same H1 H → H L = some (.lst vs) → RepL H ds vs → Qd H) :
    ∃ W : Nat → Nat → Hp → Prop, (∃ m, W 0 m (upd H1 L (.lst []))) ∧ ∀ i m H, W i m H →
      (J.stop i H ∧ Qd H) ∨ (J.go i H ∧ ∃ Nx : Hp → Prop, (∀ H', Nx H' → ∃ m', m' < m ∧ W (i + 1) m' H') ∧ ∀ x H', J.yld i H x H' → g x (wipe σ vs) H' fun σ2 H2 => wipe σ2 vs = wipe σ vs ∧ tYes σ2 H2 fun b H3 =>
        if b = true then te σ2 H3 fun y H4 => ∃ acc, H4 L = some (.lst acc) ∧ acc.length < sizeLine ∧ Nx (upd H4 L (.lst (acc ++ [y]))) else Nx H3) := by
  refine lc_it w (tt := tYes) (fun i H => Same H1 H ∧ ∃ vs, H L = some (.lst vs) ∧ RepL H (ds.take i) vs) ⟨(Same.refl H1).mut hD, [], upd_same, by rw [List.take_zero]; exact .nil⟩ (fun i H _ h => hG H h.1) ?_ ?_
  · rintro i x H H' hi ⟨e, us, hl, r⟩ y
    obtain ⟨d, hd'⟩ : ∃ d, ds[i]? = some d := ⟨_, List.getElem?_eq_getElem (by omega)⟩
    refine hs i x d H H' (fun y H4 => ∃ acc, H4 L = some (.lst acc) ∧ acc.length < sizeLine ∧ (Same H1 (upd H4 L (.lst (acc ++ [y]))) ∧ ∃ vs, upd H4 L (.lst (acc ++ [y])) L = some (.lst vs) ∧ RepL (upd H4 L (.lst (acc ++ [y]))) (ds.take (i + 1)) vs)) hi e y hd' fun v H4 e4 rv => ?_
    have hl4 := e4 _ _ hl
    have tx : Tx H4 (upd H4 L (.lst (us ++ [v]))) := (Tx.refl H4).mut hl4 fun _ z => nomatch z
    refine ⟨us, hl4, ?_, (e.trans e4).mut hD, _, upd_same, ?_⟩
    · have := r.len
      rw [List.length_take] at this
      exact sz5' (by omega)
    · rw [take_succ hd']
      exact ((r.ex e4).tx tx).snoc (rv.tx tx)
  · rintro H ⟨e, us, hl, r⟩
    rw [← hn, List.take_length] at r
    exact hd H us e hl r

/-! ### dicts by text -/
structure SD (H : Hp) (a : Addr) (n : Nat) (f : Str → Option V) : Prop where
  ex : ∃ kvs : List (Key × V), H a = some (.dK kvs) ∧ kvs.length ≤ n ∧ ∀ x, valV kvs (Sum.inr x) = f x
section
variable {H H0 H1 H' : Hp} {a : Addr} {n : Nat} {f : Str → Option V}
theorem SD.get (h : SD H a n f) (x : Str) : DGet H a (.str x) (f x) := by
  obtain ⟨kvs, h1, _, h3⟩ := h.ex
  exact .inl ⟨kvs, Sum.inr x, Rd.of h1, rfl, (h3 x).symm⟩
theorem SD.at (h : SD H a n f) (e : H' a = H a) : SD H' a n f := by
  obtain ⟨kvs, h1, h2, h3⟩ := h.ex
  exact ⟨kvs, e.trans h1, h2, h3⟩
theorem SD.same (h : SD H a n f) (e : Same H H') : SD H' a n f := by
  obtain ⟨kvs, h1, h2, h3⟩ := h.ex
  exact ⟨kvs, e _ _ h1, h2, h3⟩
theorem SD.mono {m : Nat} (h : SD H a n f) (le : n ≤ m) : SD H a m f := by
  obtain ⟨kvs, h1, h2, h3⟩ := h.ex
  exact ⟨kvs, h1, Nat.le_trans h2 le, h3⟩
theorem SD.imp {f' : Str → Option V} (h : SD H a n f) (e : ∀ x, f x = f' x) : SD H a n f' := by
  obtain ⟨kvs, h1, h2, h3⟩ := h.ex
  exact ⟨kvs, h1, h2, fun x => (h3 x).trans (e x)⟩
theorem SD.new : SD (upd H a (.dK [])) a 0 (fun _ => none) := ⟨[], upd_same, Nat.le_refl _, fun _ => rfl⟩
theorem SD.dict (h : SD H a n f) : ∃ kvs, H a = some (.dK kvs) := let ⟨kvs, h1, _⟩ := h.ex; ⟨kvs, h1⟩
theorem SD.put (h : SD H a n f) (hn : n < 100000) (x : Str) (v : V) : ∃ kvs, H a = some (.dK kvs) ∧ DPut H a (.str x) v (upd H a (.dK (putK kvs (Sum.inr x) v))) ∧ SD (upd H a (.dK (putK kvs (Sum.inr x) v))) a (n + 1) (fun y => if y = x then some v else f y) := by
  obtain ⟨kvs, h1, h2, h3⟩ := h.ex
  refine ⟨kvs, h1, .inl ⟨kvs, Sum.inr x, h1, rfl, sz5' (by omega), rfl⟩, _, upd_same, Nat.le_trans (length_putK ..) (by omega), fun y => ?_⟩
  rw [valV_put, h3]
  by_cases e : y = x
  · subst e
    rw [if_pos rfl, if_pos rfl]
  · rw [if_neg e, if_neg (fun z => e (Sum.inr.inj z))]
theorem SD.puto (h : SD H a n f) (hn : n < 100000) (x : Str) (v : V) (hx : (f x).isSome = true) : ∃ kvs, H a = some (.dK kvs) ∧ DPut H a (.str x) v (upd H a (.dK (putK kvs (Sum.inr x) v))) ∧ SD (upd H a (.dK (putK kvs (Sum.inr x) v))) a n (fun y => if y = x then some v else f y) := by
  obtain ⟨kvs, h1, h2, h3⟩ := h.ex
  have hl : (putK kvs (Sum.inr x : Key) v).length = kvs.length := by
    unfold putK
    rw [valV_any, h3, hx, if_pos rfl, List.length_map]
  refine ⟨kvs, h1, .inl ⟨kvs, Sum.inr x, h1, rfl, sz5' (by omega), rfl⟩, _, upd_same, by rw [hl]; exact h2, fun y => ?_⟩
  rw [valV_put, h3]
  by_cases e : y = x
  · subst e
    rw [if_pos rfl, if_pos rfl]
  · rw [if_neg e, if_neg (fun z => e (Sum.inr.inj z))]
end
/-- the dict of those that are in it -/
def inD (l : List Str) : Str → Option V := fun x => if x ∈ l then some (.bl true) else none
theorem inD_some {l : List Str} {x : Str} (h : x ∈ l) : inD l x = some (.bl true) := if_pos h
theorem inD_none {l : List Str} {x : Str} (h : x ∉ l) : inD l x = none := if_neg h
theorem inD_snoc (l : List Str) (z x : Str) : (if x = z then some (V.bl true) else inD l x) = inD (l ++ [z]) x := by
  unfold inD
  by_cases e : x = z
  · subst e; simp
  · simp [e]
/-- {x: True for x in xs} -/
theorem dc_in {J : It} {n : Nat} {G : Hp → Prop} {xs : List Str} (w : Walk J n G (YAt (xs.map V.str))) {g : TG} {tk tv : TE} {vs : List Nat} {σ : L2.St} {H1 : Hp} {D : Addr} {Qd : Hp → Prop} (hn : n = xs.length) (hz : n ≤ 100000) (hD : H1 D = none) (hG : ∀ H, Same H1 H → G H)
    (hs : ∀ (i : Nat) (x : Str) (H : Hp) (Q : V → V → Hp → Prop), xs[i]? = some x → Q (.str x) (.bl true) H → g (.str x) (wipe σ vs) H fun σ2 H2 => wipe σ2 vs = wipe σ vs ∧ tk σ2 H2 fun y H4 => tv σ2 H4 fun z H5 => Q y z H5)
    (hd : ∀ H, Same H1 H → SD H D n (inD xs) → Qd H) :
    ∃ W : Nat → Nat → Hp → Prop, (∃ m, W 0 m (upd H1 D (.dK []))) ∧ ∀ i m H, W i m H →
      (J.stop i H ∧ Qd H) ∨ (J.go i H ∧ ∃ Nx : Hp → Prop, (∀ H', Nx H' → ∃ m', m' < m ∧ W (i + 1) m' H') ∧ ∀ x H', J.yld i H x H' → g x (wipe σ vs) H' fun σ2 H2 => wipe σ2 vs = wipe σ vs ∧ tYes σ2 H2 fun b H3 =>
        if b = true then tk σ2 H3 fun y H4 => tv σ2 H4 fun z H5 => ∃ kvs k, y = kV k ∧ H5 D = some (.dK kvs) ∧ kvs.length < sizeLine ∧ Nx (upd H5 D (.dK (putK kvs k z))) else Nx H3) := by
  refine dc_it w (tt := tYes) (fun i H => Same H1 H ∧ SD H D i (inD (xs.take i))) ⟨(Same.refl H1).mut hD, SD.new.imp fun x => (inD_none (by simp)).symm⟩ (fun i H _ h => hG H h.1) ?_ ?_
  · rintro i x H H' hi ⟨e, sd⟩ ⟨rfl, hx⟩
    rw [List.getElem?_map] at hx
    obtain ⟨z, hz', rfl⟩ := Option.map_eq_some_iff.mp hx
    obtain ⟨kvs, h1, h2, h3⟩ := sd.put (by omega) z (.bl true)
    have hlen : kvs.length < sizeLine := by
      obtain ⟨kvs', q1, q2, _⟩ := sd.ex
      rw [h1] at q1
      cases q1
      exact sz5' (by omega)
    refine hs i z H' (fun y z H5 => ∃ kvs k, y = kV k ∧ H5 D = some (.dK kvs) ∧ kvs.length < sizeLine ∧ (Same H1 (upd H5 D (.dK (putK kvs k z))) ∧ SD (upd H5 D (.dK (putK kvs k z))) D (i + 1) (inD (xs.take (i + 1))))) hz' ⟨kvs, Sum.inr z, rfl, h1, hlen, e.mut hD, h3.imp fun y => ?_⟩
    rw [take_succ hz']
    exact inD_snoc _ _ _
  · rintro H ⟨e, sd⟩
    rw [hn, List.take_length] at sd
    exact hd H e (hn ▸ sd)
theorem pe_globR {X : Cx} {x : Str} {a : Addr} {pos : Pos} (hg : L2.Gl X x) (h : X.mg x = some (.ref a)) (hd : (x == ("__debug__" : Str)) = false := by decide) : PE X (.Name x pos) (tC (.ref a)) := pe_glob hg h rfl hd
/-! ### in a comprehension's block: the constants named -/
section
variable {X : Cx} {K : PySem.W.Frag} {e tg : Expr} {tl : TE} {pos : Pos}
theorem pi_tupK (hK : X.K = K) (he : PE X e tl) : PI X tg e (iTup K tl) := hK ▸ pi_tup he
theorem pi_listK (hK : X.K = K) (he : PE X e tl) : PI X tg e (iList K tl) := hK ▸ pi_list he
theorem call_lenK (hK : X.K = K) : CallR X (.builtin "len") (fun xs H Q => ∃ p ys, xs = [.ref p] ∧ (SqL K H p ys ∨ SqT K H p ys) ∧ Q (.int ys.length) H) := hK ▸ call_len_seq
theorem pg_tupK {es : List Expr} {k : Nat} {t : TGs} {n : Nat} (hK : X.K = K) (hc : X.calm = true) (h : PGs X es t)
    (hn : (assignEach es X.env).length = n := by rfl) (hst : (assignEach es X.env).findIdx? (·.1) = none := by rfl) : PG X (.Tuple es k pos) (gTup K n t) := hK ▸ pg_tup hc h hn hst
end
theorem _root_.L2.Same.updBoth {H H' : Hp} {p : Addr} {o : HO} (e : Same H H') : Same (upd H p o) (upd H' p o) := fun a u h => by
  by_cases q : a = p
  · subst q
    rw [upd_same] at h ⊢
    exact h
  · rw [upd_ne q] at h ⊢
    exact e a u h
end Wi
set_option maxHeartbeats 4000000
set_option maxRecDepth 100000
/-! L6: dicts of lists by text; locks; filters -/
namespace Wi
open PySem L2 PySem.Spec PyProof.Rows
/-- xs filtered: [x for x in xs if p x] -/
theorem lc_filt {J : It} {n : Nat} {G : Hp → Prop} {xs : List Str} (w : Walk J n G (YAt (xs.map V.str))) {iv : Nat} {tt : TT} {te : TE} {vs : List Nat} {σ : L2.St} {H1 : Hp} {L : Addr} {Qd : Hp → Prop} (p : Str → Bool) (hn : xs.length = n) (hz : n ≤ 100000) (hD : H1 L = none) (hG : ∀ H, Same H1 H → G H)
    (hw : ∀ x, wipe ((wipe σ vs).set iv (some (.str x))) vs = wipe σ vs)
    (ht : ∀ (i : Nat) (x : Str) (H : Hp) (Qb : Bool → Hp → Prop), xs[i]? = some x → Same H1 H → Qb (p x) H → tt ((wipe σ vs).set iv (some (.str x))) H Qb)
    (he : ∀ (x : Str) (H : Hp) (Qe : VK), Qe (.str x) H → te ((wipe σ vs).set iv (some (.str x))) H Qe)
    (hd : ∀ H, Same H1 H → H L = some (.lst ((xs.filter p).map V.str)) → Qd H) :
    ∃ W : Nat → Nat → Hp → Prop, (∃ m, W 0 m (upd H1 L (.lst []))) ∧ ∀ i m H, W i m H →
      (J.stop i H ∧ Qd H) ∨ (J.go i H ∧ ∃ Nx : Hp → Prop, (∀ H', Nx H' → ∃ m', m' < m ∧ W (i + 1) m' H') ∧ ∀ x H', J.yld i H x H' → gName iv x (wipe σ vs) H' fun σ2 H2 => wipe σ2 vs = wipe σ vs ∧ tt σ2 H2 fun b H3 =>
        if b = true then te σ2 H3 fun y H4 => ∃ acc, H4 L = some (.lst acc) ∧ acc.length < sizeLine ∧ Nx (upd H4 L (.lst (acc ++ [y]))) else Nx H3) := by
  refine lc_it w (tt := tt) (fun i H => Same H1 H ∧ H L = some (.lst (((xs.take i).filter p).map V.str))) ⟨(Same.refl H1).mut hD, upd_same⟩ (fun i H _ h => hG H h.1) ?_ ?_
  · rintro i x H H' hi ⟨e, hl⟩ ⟨rfl, hx⟩
    rw [List.getElem?_map] at hx
    obtain ⟨z, hz', rfl⟩ := Option.map_eq_some_iff.mp hx
    refine ⟨hw z, ht i z H' _ hz' e (if2 (fun hp => he z H' _ ⟨_, hl, ?_, e.mut hD, ?_⟩) fun hp => ⟨e, ?_⟩)⟩
    · rw [List.length_map]
      have := List.length_filter_le p (xs.take i)
      rw [List.length_take] at this
      exact sz5' (by omega)
    · rw [upd_same, take_succ hz', List.filter_append, List.map_append]
      simp [hp]
    · rw [hl, take_succ hz', List.filter_append]
      simp [hp]
  · rintro H ⟨e, hl⟩
    rw [← hn, List.take_length] at hl
    exact hd H e hl

/-! ### locks -/
theorem Same.unlock {H H' : Hp} {d : Addr} {od : Obj} {u : HO} (h : H d = some u) (e : Same (upd H d (.frz od u)) H') : H' d = some (.frz od u) ∧ Same H (upd H' d u) := by
  refine ⟨e _ _ upd_same, fun a o ha => ?_⟩
  by_cases q : a = d
  · subst q
    rw [h] at ha
    rw [← ha, upd_same]
  · rw [upd_ne q]
    exact e _ _ (by rw [upd_ne q]; exact ha)
theorem Rep.lock {H : Hp} {d : Addr} {u u' : HO} (h : H d = some u) (hu : ∀ xs, u ≠ .tup xs) {x : D} {v : V} (r : Rep H x v) : Rep (upd H d u') x v := r.tx ((Tx.refl H).mut h hu)

/-! ### dicts of lists -/
def kvl (xs : List Str) (ls : List Addr) : List (Key × V) := List.zipWith (fun x l => (Sum.inr x, V.ref l)) xs ls
theorem kvl_snoc (x : Str) (l : Addr) : ∀ {xs : List Str} {ls : List Addr}, ls.length = xs.length → kvl (xs ++ [x]) (ls ++ [l]) = kvl xs ls ++ [(Sum.inr x, V.ref l)]
  | [], [], _ => rfl
  | y :: xs, m :: ls, h => congrArg _ (kvl_snoc x l (Nat.succ.inj h))
theorem kvl_len {xs : List Str} {ls : List Addr} (h : ls.length = xs.length) : (kvl xs ls).length = xs.length := by
  unfold kvl
  rw [List.length_zipWith, h, Nat.min_self]
theorem kvl_get {xs : List Str} {ls : List Addr} {i : Nat} {x : Str} {l : Addr} (h1 : xs[i]? = some x) (h2 : ls[i]? = some l) : (kvl xs ls)[i]? = some (Sum.inr x, V.ref l) := by
  unfold kvl
  rw [List.getElem?_zipWith, h1, h2]
theorem kvl_none {x : Str} : ∀ {xs : List Str} {ls : List Addr}, x ∉ xs → valV (kvl xs ls) (Sum.inr x : Key) = none
  | [], _, _ => rfl
  | _ :: _, [], _ => rfl
  | y :: xs, m :: ls, h => by
    have hy : ¬ (Sum.inr y : Key) = Sum.inr x := fun e => h (by rw [Sum.inr.inj e]; exact List.mem_cons_self ..)
    show valV ((Sum.inr y, V.ref m) :: kvl xs ls) _ = none
    rw [valV_neg hy]
    exact kvl_none fun m => h (List.mem_cons_of_mem _ m)
theorem kvl_val {x : Str} {l : Addr} : ∀ {xs : List Str} {ls : List Addr} {i : Nat}, xs.Nodup → xs[i]? = some x → ls[i]? = some l → valV (kvl xs ls) (Sum.inr x : Key) = some (.ref l)
  | [], _, _, _, h, _ => by simp at h
  | _ :: _, [], _, _, _, h => by simp at h
  | y :: xs, m :: ls, 0, _, h1, h2 => by
    simp only [List.getElem?_cons_zero, Option.some.injEq] at h1 h2
    subst h1 h2
    exact valV_pos rfl
  | y :: xs, m :: ls, i + 1, nd, h1, h2 => by
    obtain ⟨n1, n2⟩ := List.nodup_cons.mp nd
    have hy : ¬ (Sum.inr y : Key) = Sum.inr x := fun e => n1 (by rw [Sum.inr.inj e]; exact List.mem_of_getElem? (by simpa using h1))
    show valV ((Sum.inr y, V.ref m) :: kvl xs ls) _ = _
    rw [valV_neg hy]
    exact kvl_val n2 (by simpa using h1) (by simpa using h2)
/-- the lists of the texts xs -/
structure LKv (H : Hp) (xs : List Str) (ls : List Addr) (F : Str → List Str) : Prop where
  len : ls.length = xs.length
  nd : ls.Nodup
  at_ : ∀ (i : Nat) (x : Str) (l : Addr), xs[i]? = some x → ls[i]? = some l → H l = some (.lst ((F x).map V.str))
structure LK (H : Hp) (d : Addr) (xs : List Str) (F : Str → List Str) : Prop where
  ex : ∃ ls, H d = some (.dK (kvl xs ls)) ∧ LKv H xs ls F
section
variable {H H' : Hp} {d : Addr} {xs : List Str} {ls : List Addr} {F : Str → List Str}
theorem LKv.same (h : LKv H xs ls F) (e : Same H H') : LKv H' xs ls F := ⟨h.len, h.nd, fun i x l a b => e _ _ (h.at_ i x l a b)⟩
theorem LK.same (h : LK H d xs F) (e : Same H H') : LK H' d xs F := by
  obtain ⟨ls, h1, h2⟩ := h.ex
  exact ⟨ls, e _ _ h1, h2.same e⟩
theorem LKv.get (h : LKv H xs ls F) (nd : xs.Nodup) {x : Str} (hx : x ∈ xs) : ∃ (l : Addr) (i : Nat), xs[i]? = some x ∧ ls[i]? = some l ∧ valV (kvl xs ls) (Sum.inr x : Key) = some (.ref l) ∧ H l = some (.lst ((F x).map V.str)) := by
  obtain ⟨i, hi, e⟩ := List.getElem_of_mem hx
  have h1 : xs[i]? = some x := by rw [List.getElem?_eq_getElem hi, e]
  have hl : i < ls.length := by rw [h.len]; exact hi
  have h2 : ls[i]? = some ls[i] := List.getElem?_eq_getElem hl
  exact ⟨_, i, h1, h2, kvl_val nd h1 h2, h.at_ i x _ h1 h2⟩
theorem LKv.snoc (h : LKv H xs ls F) (e : Same H H') {x : Str} {l : Addr} (hl : H l = none) (hl' : H' l = some (.lst ((F x).map V.str))) : LKv H' (xs ++ [x]) (ls ++ [l]) F := by
  refine ⟨by simp [h.len], List.nodup_append.mpr ⟨h.nd, List.nodup_cons.mpr ⟨List.not_mem_nil, List.nodup_nil⟩, ?_⟩, fun i y m a b => ?_⟩
  · intro a ha b hb q
    rw [List.mem_singleton.mp hb] at q
    subst q
    obtain ⟨i, hi, e2⟩ := List.getElem_of_mem ha
    have h1 : xs[i]? = some (xs[i]'(by rw [← h.len]; exact hi)) := List.getElem?_eq_getElem _
    rw [h.at_ i _ a h1 (by rw [List.getElem?_eq_getElem hi, e2])] at hl
    cases hl
  · by_cases q : i < xs.length
    · rw [List.getElem?_append_left q] at a
      rw [List.getElem?_append_left (by rw [h.len]; exact q)] at b
      exact e _ _ (h.at_ i y m a b)
    · have hi : i = xs.length := by
        have := (List.getElem?_eq_some_iff.mp a).1
        simp at this
        omega
      subst hi
      rw [List.getElem?_append_right (Nat.le_refl _)] at a
      rw [List.getElem?_append_right (by rw [h.len]; exact Nat.le_refl _)] at b
      simp [h.len] at a b
      subst a b
      exact hl'
/-- one list is written -/
theorem LKv.put (h : LKv H xs ls F) (nd : xs.Nodup) {x : Str} {l : Addr} {i : Nat} {ys : List Str} (h1 : xs[i]? = some x) (h2 : ls[i]? = some l) : LKv (upd H l (.lst (ys.map V.str))) xs ls (fun z => if z = x then ys else F z) := by
  refine ⟨h.len, h.nd, fun j y m a b => ?_⟩
  by_cases q : j = i
  · subst q
    rw [h1] at a
    rw [h2] at b
    cases a
    cases b
    rw [upd_same, if_pos rfl]
  · have hy : ¬ y = x := fun e => q (by
      subst e
      have p1 := List.getElem?_eq_some_iff.mp a
      have p2 := List.getElem?_eq_some_iff.mp h1
      obtain ⟨b1, c1⟩ := p1
      obtain ⟨b2, c2⟩ := p2
      exact (List.getElem_inj nd).mp (c1.trans c2.symm))
    have hm : m ≠ l := fun e => q (by
      subst e
      obtain ⟨b1, c1⟩ := List.getElem?_eq_some_iff.mp b
      obtain ⟨b2, c2⟩ := List.getElem?_eq_some_iff.mp h2
      exact (List.getElem_inj h.nd).mp (c1.trans c2.symm))
    rw [upd_ne hm, if_neg hy]
    exact h.at_ j y m a b
theorem LKv.imp {F' : Str → List Str} (h : LKv H xs ls F) (e : ∀ x ∈ xs, F x = F' x) : LKv H xs ls F' :=
  ⟨h.len, h.nd, fun i x l a b => by rw [← e x (List.mem_of_getElem? a)]; exact h.at_ i x l a b⟩
end
theorem walk_kvl {d : Addr} {o : Obj} {xs : List Str} {ls : List Addr} (h : ls.length = xs.length) : Walk (Itk d o (kvl xs ls)) xs.length (fun H => H d = some (.frz o (.dK (kvl xs ls)))) (YAt (xs.map V.str)) := by
  have w := walk_keys (d := d) (o := o) (kvs := kvl xs ls)
  rw [kvl_len h] at w
  refine w.mono (fun _ q => q) fun i H x H' hi _ y => ?_
  obtain ⟨e, k, v, hk, rfl⟩ := y
  have hx : xs[i]? = some xs[i] := List.getElem?_eq_getElem hi
  have hl : ls[i]? = some (ls[i]'(by rw [h]; exact hi)) := List.getElem?_eq_getElem _
  rw [kvl_get hx hl] at hk
  cases hk
  exact ⟨e, by rw [List.getElem?_map, hx]; rfl⟩
theorem walk_kvi {d : Addr} {o : Obj} {xs : List Str} {ls : List Addr} (h : ls.length = xs.length) : Walk (Iti d o (kvl xs ls)) xs.length (fun H => H d = some (.frz o (.dK (kvl xs ls)))) (YPair (fun i => xs[i]?.map V.str) (fun i => ls[i]?.map V.ref)) := by
  have w := walk_items (d := d) (o := o) (kvs := kvl xs ls)
  rw [kvl_len h] at w
  refine w.mono (fun _ q => q) fun i H x H' hi _ y => ?_
  obtain ⟨T, a, b, h1, h2, h3, h4, h5⟩ := y
  have hx : xs[i]? = some xs[i] := List.getElem?_eq_getElem hi
  have hl : ls[i]? = some (ls[i]'(by rw [h]; exact hi)) := List.getElem?_eq_getElem _
  replace h4 : Option.map (fun kv => kV kv.fst) (kvl xs ls)[i]? = some a := h4
  replace h5 : Option.map Prod.snd (kvl xs ls)[i]? = some b := h5
  rw [kvl_get hx hl] at h4 h5
  exact ⟨T, a, b, h1, h2, h3, by show Option.map V.str xs[i]? = _; rw [hx]; exact h4, by show Option.map V.ref ls[i]? = _; rw [hl]; exact h5⟩
/-! ### the heap without one thing -/
def wo (H : Hp) (a : Addr) : Hp := fun b => if b = a then none else H b
section
variable {H H' : Hp} {a b : Addr}
theorem wo_at : wo H a a = none := if_pos rfl
theorem wo_ne (h : b ≠ a) : wo H a b = H b := if_neg h
theorem wo_same : Same (wo H a) H := fun b o h => by
  by_cases e : b = a
  · rw [e, wo_at] at h; cases h
  · rw [wo_ne e] at h; exact h
theorem same_wo (e : Same H H') (h : H a = none) : Same H (wo H' a) := fun b o hb => by
  have q : b ≠ a := ne_of_none hb h
  rw [wo_ne q]
  exact e b o hb
theorem wo_none (h : H b = none) : wo H a b = none := by
  by_cases e : b = a
  · rw [e, wo_at]
  · rw [wo_ne e]; exact h
end
theorem eq_int (a b : Int) : decide (V.int a = V.int b) = decide (a = b) := by
  by_cases h : a = b
  · subst h; simp
  · rw [decide_eq_false h, decide_eq_false fun e => h (V.int.inj e)]
theorem eq_str (a b : Str) : decide (V.str a = V.str b) = decide (a = b) := by
  by_cases h : a = b
  · subst h; simp
  · rw [decide_eq_false h, decide_eq_false fun e => h (V.str.inj e)]
/-- a dict of whole numbers -/
def wtD (xs : List Str) (wt : Str → Int) : Str → Option V := fun x => if x ∈ xs then some (.int (wt x)) else none
theorem wtD_some {xs : List Str} {wt : Str → Int} {x : Str} (h : x ∈ xs) : wtD xs wt x = some (.int (wt x)) := if_pos h
theorem wtD_put {xs : List Str} {wt : Str → Int} {u : Str} {z : Int} (h : u ∈ xs) (x : Str) : (if x = u then some (V.int z) else wtD xs wt x) = wtD xs (fun x => if x = u then z else wt x) x := by
  unfold wtD
  by_cases e : x = u
  · subst e; simp [h]
  · simp [e]
end Wi
set_option maxHeartbeats 4000000
set_option maxRecDepth 100000
/-! L7: slices from the start, membership -/
namespace Wi
open PySem L2 PySem.Spec PyProof.Rows
theorem inV_str (x : Str) (l : List Str) : inV (.str x) (l.map V.str) = decide (x ∈ l) := by
  unfold inV
  induction l with
  | nil => rfl
  | cons y l ih =>
    rw [List.map_cons, List.any_cons, ih]
    show ((y == x) || decide (x ∈ l)) = _
    by_cases e : y = x
    · subst e; simp
    · have e' : ¬ x = y := fun z => e z.symm
      simp [e, e']
theorem flat_strs (l : List Str) : (l.map V.str).all flatV = true := by
  rw [List.all_eq_true]
  intro v hv
  obtain ⟨x, _, rfl⟩ := List.mem_map.mp hv
  rfl
theorem sIx_some {n d : Nat} {i : Nat} (h : i ≤ n) : HT.sIx n d (some (i : Int)) = i := by
  rw [HT.sIx_nat]
  omega
theorem sIx_none {n d : Nat} : HT.sIx n d none = d := rfl
theorem cut_take {xs : List V} {i : Nat} (h : i ≤ xs.length) : cutV xs none (some (i : Int)) = xs.take i := by
  unfold cutV
  rw [sIx_some h, sIx_none, List.drop_zero, Nat.sub_zero]
theorem rd_slT {K : PySem.W.Frag} {H : Hp} {a : Addr} {xs : List V} {i : Nat} {Q : VK} (h : H a = some (.tup xs)) (hi : i ≤ xs.length) (k : ∀ p H', Same H H' → H' p = some (.tup (xs.take i)) → Q (.ref p) H') : rSlA K (.ref a) none (some (i : Int)) H Q := by
  refine ⟨a, xs, rfl, SqT.of h, fun q => k a H (Same.refl H) ?_, fun _ p hp => ?_⟩
  · have e := q.2
    rw [sIx_some hi] at e
    rw [e, List.take_length]
    exact h
  · rw [cut_take hi]
    exact k p _ (Same.new hp) upd_same
theorem rd_slL {K : PySem.W.Frag} {H : Hp} {a : Addr} {xs : List V} {i : Nat} {Q : VK} (h : H a = some (.lst xs)) (hi : i ≤ xs.length) (k : ∀ p H', Same H H' → H p = none → H' p = some (.lst (xs.take i)) → Q (.ref p) H') : rSlL K (.ref a) none (some (i : Int)) H Q := by
  refine ⟨a, xs, rfl, SqL.of h, fun p hp => ?_⟩
  rw [cut_take hi]
  exact k p _ (Same.new hp) hp upd_same
end Wi
set_option maxHeartbeats 4000000
set_option maxRecDepth 100000
/-! L8: defs with keyword-only parameters that have defaults -/
namespace Wi
open PySem L2 PySem.Spec PyProof.Rows
structure DfK (K : PySem.W.Frag) (mg : Str → Option Value) (g x : Str) (i : Nat) (kws : List (Str × V)) : Prop where
  ex : ∃ f fd, FunD K x x (defArgs (top i)) (defBody (top i)) (defScope (top i)) [] kws f fd ∧ mg g = some (.ref f)
structure CalF (P : Program) (w : World) (K : PySem.W.Frag) (mg : Str → Option Value) (base : Heap) (CX : CXT) (k : Nat) (g x : Str) (i : Nat) (kws : List (Str × V)) (ps : List Str) (sp : Sp) : Prop where
  ex : ∃ f fd, FunD K x x (defArgs (top i)) (defBody (top i)) (defScope (top i)) [] kws f fd ∧ FnOk P w K mg base CX k f fd ps sp ∧ mg g = some (.ref f)
section
variable {P : Program} {w : World} {K : PySem.W.Frag} {mg : Str → Option Value} {base : Heap} {CX : CXT}
theorem DfK.cal {g x : Str} {i k : Nat} {kws : List (Str × V)} {N ps : List Str} {sp : Sp} (D : DfK K mg g x i kws) (S : FnScope N ps (defScope (top i))) (len : ∀ vs H Q E, sp vs H Q E → vs.length = ps.length)
    (hbody : ∀ (f : Addr) (cdv : Value) (A : Around) (outer : List Env) (s : Shared) (H : Hp) (vs : List V) (Q : VK) (E : XK), Room k (A.deeper (envOfC x (defScope (top i)) s.heap.objs.size f cdv)) → sp vs H Q E →
      ∃ t, PSs (cxOf CX0 P w K mg base N x (defScope (top i)) f cdv A outer s H E).nox (defBody (top i)) t ∧ t { nx := fun _ H' => Q .non H', rt := Q } (start N vs) H) : CalF P w K mg base CX0 (k + 1) g x i kws ps sp := by
  obtain ⟨f, fd, F, hg⟩ := D.ex
  refine ⟨f, fd, F, F.ok S len fun cdv A outer s H vs Q E hr h => ?_, hg⟩
  obtain ⟨t, h1, h2⟩ := hbody f cdv A outer s H vs Q E hr h
  exact ⟨t, h1.nox, h2⟩
end
section
variable {X : Cx} {CX : CXT} {k : Nat} {g x : Str} {i : Nat} {kws : List (Str × V)} {ps : List Str} {sp : Sp} {E : XK} {p pos : Pos} {e : Expr} {es : List Expr} {t tk : TA} {kwE : List Keyword} {ks : List Str} {n : Nat}
/-- f(e, .., k = v, ..), every parameter given -/
theorem pe_callF (C : CalF X.prog X.w X.K X.mg X.base CX k g x i kws ps sp) (hkws : kws ≠ []) (hr : Room k X.A) (hg : Gl X g) (hx : Passes CX X E) (n : Nat) (ks : List Str)
    (hb : ∀ (D : Addr) (doc pm : Value) (an : Option Addr) (cdv ct : Value) (us ws : List Value), us.length = n → ws.length = ks.length → bindArgs (PySem.W.fnOf x x (defArgs (top i)) (defBody (top i)) (defScope (top i)) .none (.ref D) doc pm an cdv ct) ⟨us, ks.zip ws⟩ = pure (ps.zip (us ++ ws)))
    (ha : PA X (e :: es) t) (hkw : PK X kwE tk) (hall : (backToKw pos (keywordEach kwE X.env)).all (·.1.isSome) = true := by rfl) (hks : (backToKw pos (keywordEach kwE X.env)).filterMap (·.1) = ks := by rfl)
    (hdb : (g == ("__debug__" : Str)) = false := by decide) (he : starEach (e :: es) X.env = (false, eval e X.env) :: starEach es X.env := by rfl)
    (hpl : ((backTo pos (starEach (e :: es) X.env)).any (·.1) || (backToKw pos (keywordEach kwE X.env)).any (·.1.isNone)) = false := by rfl) :
    PE X (.Call (.Name g p) (e :: es) kwE pos) (tCallN n ks.length sp (fun vs zs => vs ++ zs) E t tk) := by
  obtain ⟨f, fd, F, ok, hm⟩ := C.ex
  obtain ⟨mv, kb⟩ := F.kbinds0 (ps := ps) n ks [] (fun us _ ws => us ++ ws) hkws (fun q hq => nomatch hq) (fun r1 _ r3 => r1.append r3) fun D doc pm an cdv ct us mv ws l1 l2 l3 => by
    have : mv = [] := List.length_eq_zero_iff.mp l2
    subst this
    exact hb D doc pm an cdv ct us ws l1 l3
  exact pe_callN ok hr hg hm F.kp kb hx ha hkw hall hks hdb he hpl
/-- f(e, ..), the keyword-only parameters left out -/
theorem pe_callFD (C : CalF X.prog X.w X.K X.mg X.base CX k g x i kws ps sp) (hkws : kws ≠ []) (hr : Room k X.A) (hg : Gl X g) (hx : Passes CX X E) (n : Nat) (hn : n + kws.length = ps.length)
    (hb : ∀ (D : Addr) (doc pm : Value) (an : Option Addr) (cdv ct : Value) (us ks : List Value), us.length = n → ks.length = kws.length →
      KwChain D ((kws.map (·.1)).zip ks) (bindArgs (PySem.W.fnOf x x (defArgs (top i)) (defBody (top i)) (defScope (top i)) .none (.ref D) doc pm an cdv ct) ⟨us, []⟩) (ps.zip (us ++ ks)))
    (ha : PA X (e :: es) t) (hdb : (g == ("__debug__" : Str)) = false := by decide) (he : starEach (e :: es) X.env = (false, eval e X.env) :: starEach es X.env := by rfl) (hpl : (backTo pos (starEach es X.env)).any (·.1) = false := by rfl) :
    PE X (.Call (.Name g p) (e :: es) [] pos) (tCall sp (kws.map (·.2)) E t) := by
  obtain ⟨f, fd, F, ok, hm⟩ := C.ex
  obtain ⟨ds, rd, bn⟩ := F.binds0 (ps := ps) n hkws hn hb
  exact pe_call ok hr hg hm F.kp bn rd hx ha hdb he hpl
end
/-! ### classes of the top -/
def clsBody : Stmt → List Stmt
  | .ClassDef _ _ _ b _ _ _ _ _ _ _ => b
  | _ => []
/-- statement j of the class that is the top's statement i -/
def ctop (i j : Nat) : Stmt := (clsBody (top i)).getD j (.Pass ⟨0, 0, 0, 0⟩)
/-- what the written part says of the class Run -/
structure RunC (K : PySem.W.Frag) (mg : Str → Option Value) (C : Addr) : Prop where
  ini : ∃ f fd, Mk K C f ∧ FunD K "__init__" "Run.__init__" (defArgs (ctop 98 0)) (defBody (ctop 98 0)) (defScope (ctop 98 0)) [] [] f fd
  gl : mg "Run" = some (.ref C)
  cl : Cls K C
  a1 : NoAttr K C "rows"
  a2 : NoAttr K C "own_places"
  a3 : NoAttr K C "own_values"
  a4 : NoAttr K C "own_states"
end Wi
set_option maxHeartbeats 4000000
set_option maxRecDepth 100000
namespace Wi
open PySem L2 PySem.Spec PyProof.Rows
/-! F1a: what the head looks at -/
def dd (g x : Str) (i : Nat) (kwd : List (Str × He.Dv)) : He.DefD := ⟨(g, none), x, x, defArgs (top i), defBody (top i), defScope (top i), [], kwd⟩
def fns : List He.DefD := [dd "is_name" "is_name" 14 [],
  dd "is_wire" "is_wire" 15 [],
  dd "is_bit" "is_bit" 16 [],
  dd "listed_wires" "listed_wires" 17 [],
  dd "declared_fault" "declared_fault" 18 [],
  dd "gate_fault" "gate_fault" 19 [],
  dd "reg_fault" "reg_fault" 20 [],
  dd "output_fault" "output_fault" 21 [],
  dd "net_fault" "net_fault" 22 [],
  dd "check_net" "check_net" 23 [],
  dd "wires" "wires" 24 [],
  dd "gate_links" "gate_links" 46 [],
  dd "turned_links" "turned_links" 47 [],
  dd "peeled" "peeled" 48 [],
  dd "find_order" "find_order" 53 [],
  dd "check_sound" "check_sound" 54 [],
  dd "full_table" "full_table" 56 [],
  dd "input_pattern" "input_pattern" 57 [],
  dd "op_value_logic" "op_value" 58 [],
  dd "gates_by_wire" "gates_by_wire" 65 [],
  dd "has_op" "has_op" 66 [],
  dd "is_constant" "is_constant" 67 [],
  dd "known_of" "known_of" 68 [],
  dd "is_plain" "is_plain" 70 [],
  dd "skipped" "skipped" 71 [],
  dd "copied" "copied" 72 [],
  dd "local_value" "local_value" 69 [],
  dd "table_step" "table_step" 73 [],
  dd "link_step" "link_step" 74 [],
  dd "gate_after" "gate_after" 75 [],
  dd "reg_after" "reg_after" 76 [],
  dd "first_step" "first_step" 77 [],
  dd "put_at" "put_at" 78 [],
  dd "net_after" "net_after" 79 [],
  dd "net_behind" "net_behind" 82 [],
  dd "trail" "trail" 83 [],
  dd "is_settled" "is_settled" 84 [],
  dd "rewrite" "rewrite" 85 [("limit", .int 400)],
  dd "check_row" "check_row" 87 [],
  dd "check_ticks" "check_ticks" 88 [],
  dd "first_state" "first_state" 89 [],
  dd "places_of" "places_of" 90 [],
  dd "picked" "picked" 95 [],
  dd "play_plan" "play_plan" 91 [],
  dd "op_value_aid_play" "op_value" 92 [],
  dd "plan_values" "plan_values" 94 [],
  dd "run" "run" 99 [("state", .non)],
  dd "declared_names" "declared_names" 26 [],
  dd "names_fault" "names_fault" 27 [],
  dd "plain_signals" "plain_signals" 28 [],
  dd "all_signals" "all_signals" 29 [],
  dd "ports_fault" "ports_fault" 30 [],
  dd "item_signals" "item_signals" 31 [],
  dd "own_fault" "own_fault" 32 [],
  dd "items_fault" "items_fault" 33 [],
  dd "module_fault" "module_fault" 34 [],
  dd "design_fault" "design_fault" 35 [],
  dd "check_design" "check_design" 36 [],
  dd "item_size" "item_size" 40 [],
  dd "add_reg" "add_reg" 42 [],
  dd "visit" "visit" 43 [],
  dd "top_name" "top_name" 39 [],
  dd "flat_size" "flat_size" 41 [("top", .non)],
  dd "flatten" "flatten" 44 [("top", .non)],
  dd "_law_mix" "_law_mix" 101 [],
  dd "_law_store" "_law_store" 102 [],
  dd "_law_take" "_law_take" 103 [],
  dd "_law_pick" "_law_pick" 104 [],
  dd "_law_chance" "_law_chance" 105 [],
  dd "_law_some" "_law_some" 106 [],
  dd "_law_labels" "_law_labels" 109 [],
  dd "_law_slim_gate" "_law_slim_gate" 110 [],
  dd "_law_op" "_law_op" 112 [],
  dd "_law_bit_rows" "_law_bit_rows" 117 [],
  dd "_law_shown" "_law_shown" 114 [],
  dd "_law_sorted" "_law_sorted" 111 [],
  dd "_law_alike" "_law_alike" 115 [],
  dd "_law_play" "_law_play" 113 [],
  dd "_law_rows_from" "_law_rows_from" 119 [],
  dd "_law_visit" "_law_visit" 107 [],
  dd "_law_flat" "_law_flat" 108 [],
  dd "_law_asked" "_law_asked" 118 [],
  dd "_law_slim_module" "_law_slim_module" 116 [],
  dd "_law_rewritten_right" "_law_rewritten_right" 120 [],
  dd "law" "law" 121 [],
  ⟨("Run", some "__init__"), "__init__", "Run.__init__", defArgs (ctop 98 0), defBody (ctop 98 0), defScope (ctop 98 0), [], []⟩]
def facs : List He.Fa := [.glo "is_name", .glo "is_wire", .glo "is_bit", .glo "listed_wires", .glo "declared_fault", .glo "gate_fault", .glo "reg_fault", .glo "output_fault", .glo "net_fault", .glo "check_net", .glo "wires", .glo "gate_links", .glo "turned_links", .glo "peeled", .glo "find_order", .glo "check_sound", .glo "full_table", .glo "input_pattern", .glo "op_value_logic", .glo "gates_by_wire", .glo "has_op", .glo "is_constant", .glo "known_of", .glo "is_plain", .glo "skipped", .glo "copied", .glo "local_value", .glo "table_step", .glo "link_step", .glo "gate_after", .glo "reg_after", .glo "first_step", .glo "put_at", .glo "net_after", .glo "net_behind", .glo "trail", .glo "is_settled", .glo "rewrite", .glo "check_row", .glo "check_ticks", .glo "first_state", .glo "places_of", .glo "picked", .glo "play_plan", .glo "op_value_aid_play", .glo "plan_values", .glo "run", .glo "declared_names", .glo "names_fault", .glo "plain_signals", .glo "all_signals", .glo "ports_fault", .glo "item_signals", .glo "own_fault", .glo "items_fault", .glo "module_fault", .glo "design_fault", .glo "check_design", .glo "item_size", .glo "add_reg", .glo "visit", .glo "top_name", .glo "flat_size", .glo "flatten", .glo "_law_mix", .glo "_law_store", .glo "_law_take", .glo "_law_pick", .glo "_law_chance", .glo "_law_some", .glo "_law_labels", .glo "_law_slim_gate", .glo "_law_op", .glo "_law_bit_rows", .glo "_law_shown", .glo "_law_sorted", .glo "_law_alike", .glo "_law_play", .glo "_law_rows_from", .glo "_law_visit", .glo "_law_flat", .glo "_law_asked", .glo "_law_slim_module", .glo "_law_rewritten_right", .glo "law", .free "len", .free "tuple", .free "list", .free "range", .free "enumerate", .free "zip", .free "all", .free "sum", .free "isinstance", .free "int", .free "str", .free "abs", .free "min", .free "bool", .free "super", .int "MOST_SIGNS" 8, .int "MOST_GATES" 200, .int "MOST_STEPS" 1000, .int "MOST_TICKS" 300, .int "AND_TABLE" 8, .int "OR_TABLE" 14, .glo "RULES", .glo "CONSTANT", .glo "ARITY", .glo "UnknownName", .glo "TooLarge", .glo "Run", .mkr "Run", .cls "Run", .noat "Run" "rows", .noat "Run" "own_places", .noat "Run" "own_values", .noat "Run" "own_states", .noat "UnknownName" "name", .noat "TooLarge" "what", .noat "TooLarge" "most", .exm "UnknownName" "UnknownName" true, .exm "TooLarge" "TooLarge" true, .exm "TooLarge" "UnknownName" false]
def tabs : List He.Tab := [(fun K => He.ga K "ARITY", ["zero", "one", "buf", "not", "and", "or", "xor", "mux"])]
/-! ### tables -/
def rulesV : List He.Dv := rules.map fun r => .str r.s
def arityV : List (Str × He.Dv) := [("zero", .int 0), ("one", .int 0), ("buf", .int 1), ("not", .int 1), ("and", .int 2), ("or", .int 2), ("xor", .int 2), ("mux", .int 3)]
def tabB (K : PySem.W.Frag) : Bool := He.tupB K "RULES" rulesV && (He.tupB K "CONSTANT" [.str "zero", .str "one"] && He.valsB K (He.ga K "ARITY") arityV)
/-! ### own exception classes -/
def oexB (K : PySem.W.Frag) (C : Addr) : Bool := (match K.lookup C with
  | some ⟨.type "type", _, .cls cd, sl⟩ => (match cd.mro, sl.toList with
    | .ref C' :: bm, [_, _, _, _, some (.builtin n), _] => C' == C && (n == "ValueError.__new__" && (!cd.hasDel && (cd.hasDict && PySem.HandSPX.refsVE bm)))
    | _, _ => false)
  | _ => false) && (He.eqO (PySem.W.findIn K (.ref C) "__setattr__") (some (some (.builtin "object.__setattr__"))) && (decide (PySem.W.subIn K (.ref C) (.type "BaseException") = some true) && (decide (PySem.W.typeIn K (.ref C) = some (.type "type")) && PySem.W.keepIn K (.ref C))))
/-- the __init__ of such a class: what is compared -/
abbrev FnS : Type := Option (Str × Str × Arguments × FuncBody × Scope × Addr × List Str × Value × Addr)
def iAd (K : PySem.W.Frag) (x : Str) : Addr := He.ma K (He.ga K x) "__init__"
def fnS (K : PySem.W.Frag) (x : Str) : FnS := match K.lookup (iAd K x) with
  | some ⟨_, _, .func fd, _⟩ => some (fd.name, fd.qualname, fd.params, fd.body, fd.scope, fd.globals, fd.closure.map (·.1), fd.defaults, fd.builtins)
  | _ => none
def valS (q : Str) (i : Nat) : FnS := some ("__init__", q, defArgs (ctop i 0), .stmts (defBody (ctop i 0)), defScope (ctop i 0), mainGlobals, ["__class__"], .none, builtinsNs)
def supB (file : Str) (K : PySem.W.Frag) (x q : Str) : Bool := oexB K (He.ga K x) && ((match K.lookup (iAd K x) with
  | some ⟨_, _, .func fd, _⟩ => (match fd.code, fd.closure with
    | .ref c, [(_, cc)] => PySem.W.codeIn K (.ref c) q && ((match K.lookup c with
        | some ⟨_, _, .fields vs, _⟩ => (match vs[2]? with
          | some (Value.str f _) => file == f
          | _ => false)
        | _ => false) && (match K.lookup cc with
        | some ⟨_, _, .cell (some (.ref C)), _⟩ => C == He.ga K x
        | _ => false))
    | _, _ => false)
  | _ => false) && (decide (PySem.W.mroIn K (He.ga K x) (.ref (He.ga K x)) = some true) && (decide (PySem.W.ks_superIn K (He.ga K x) (He.ga K x) "__init__" = some (some (.builtin "ValueError.__init__"))) && (decide (PySem.W.subIn K (.ref (He.ga K x)) (.type "ValueError") = some true) &&
    (He.eqO (PySem.W.nsIn K cStatics "thirdparty.any") (some none) && (He.eqO (PySem.W.findIn K (.ref (He.ga K x)) "__init__") (some (some (.ref (iAd K x)))) && decide (PySem.W.typeIn K (.ref (iAd K x)) = some (.type "function"))))))))
/-! ### what isinstance asks -/
def xcB (K : PySem.W.Frag) (D C : Addr) : Bool := L2.xfB K D && ((PySem.W.clsIn K D).isSome && (He.eqO (PySem.W.findIn K (.ref D) "__class__") (some (some (.builtin "object.__class__"))) && (decide (PySem.W.specialIn K (.builtin "object.__class__") "__get__" = some (some (.builtin "getset_descriptor.__get__"))) &&
  (decide (PySem.W.takesIn K (.builtin "object.__class__") = some true) && (decide (PySem.W.mroIn K D (.type "object") = some true) && decide (PySem.W.kitOne K (.ref D) (.ref C) = some false))))))
/-! ### the Hook -/
def extB (K : PySem.W.Frag) : Bool := tabB K && (supB (PySem.Program.main PySem.Challenge.pw_wirewatch_k95_whole_flat_and_rewritten).file K "UnknownName" "UnknownName.__init__" && (supB (PySem.Program.main PySem.Challenge.pw_wirewatch_k95_whole_flat_and_rewritten).file K "TooLarge" "TooLarge.__init__" && (xcB K (He.ga K "UnknownName") (He.ga K "TooLarge") && xcB K (He.ga K "TooLarge") (He.ga K "UnknownName"))))
abbrev AlW : Type := He.AlT × FnS × FnS × Bool
def obsW (K : PySem.W.Frag) : AlW := (He.obsT facs fns tabs K, fnS K "UnknownName", fnS K "TooLarge", extB K)
def valW (w : World) : AlW := (He.valT fns tabs w, valS "UnknownName.__init__" 9, valS "TooLarge.__init__" 10, true)
def vals1 (o : Obj) : List Addr := match o.data with
  | .dict es _ => es.toList.flatMap fun e => He.refV e.val
  | _ => []
def parts (o : Obj) : List Addr := match o.data with
  | .func fd => He.refV fd.code ++ (He.refV fd.kwdefaults ++ fd.closure.map (·.2))
  | .cls cd => cd.ns :: cd.mro.flatMap He.refV
  | _ => []
def lev (g : Addr → Option Obj) (f : Obj → List Addr) (as : List Addr) : List Addr := as.flatMap fun a => match g a with
  | some o => f o
  | none => []
def asW (g : Addr → Option Obj) : List Addr :=
  let l1 := lev g vals1 [mainGlobals]
  let l2 := lev g parts l1
  let l3 := lev g vals1 l2
  let l4 := lev g parts l3
  mainGlobals :: cStatics :: (l1 ++ (l2 ++ (l3 ++ l4)))
def hkW : PySem.W.Hook where
  α := AlW
  obs := fun s => obsW (He.frG s.heap.get? (asW s.heap.get?))
  val := valW
  says := fun w h => ∃ K : PySem.W.Frag, K.In h ∧ obsW K = valW w
  of := fun _ _ e => ⟨_, He.frG_in, e⟩
  keeps := fun _ _ _ ⟨K, hK, c⟩ k => ⟨K, PySem.W.Frag.In.keeps hK k, c⟩
def obW (s : PySem.W.SharedT) : AlW := obsW (He.frG (HandSHeadRun.getT s) (asW (HandSHeadRun.getT s)))
theorem obW_eq (s : PySem.W.SharedT) : obW s = hkW.obs s.abs := by
  have e : HandSHeadRun.getT s = s.abs.heap.get? := funext (HandSHeadRun.getT_eq s)
  unfold obW
  rw [e] <;> rfl
abbrev R : PySem.W.OpenRow := PySem.W.OpenLaw.row PySem.Challenge.rw_wirewatch_k95_whole_flat_and_rewritten
def looseW : List PySem.Str := (R.prog.main.scope.names.map (·.1)).filter fun n => n != ("law" : PySem.Str)
end Wi
set_option maxHeartbeats 0
set_option maxRecDepth 100000
namespace Wi
open PySem PySem.Spec PyProof.Rows L2
/-! F2: the top's run -/
abbrev qW : Program := PySem.W.view R.prog [121]
theorem run_join {α β γ δ : Type} {o : Option α} {f : α → β} {g : α → γ} {k : α → δ} {a : β} {b : γ} {c : δ} (h1 : o.map (fun s => (f s, g s)) = some (a, b)) (h2 : o.map k = some c) : o.map (fun s => (f s, g s, k s)) = some (a, b, c) := by
  cases o with
  | none => cases h1
  | some s =>
    have e1 := Option.some.inj h1
    have e2 := Option.some.inj h2
    have e3 := Prod.mk.inj e1
    show some (f s, g s, k s) = _
    rw [e3.1, e3.2, e2]
/-- the first two of what is looked at -/
def RunA (w : World) : Prop := ∀ os : OsState, (HandSHeadRun.endF (HandSHeadRun.stepQ (HandSHeadRun.denQ HandSHeadRun.tabQ) R.prog w) 12000 R.prog w os).map (fun s => (HandSHeadRun.looksF R.prog (PySem.W.boot_heap w.params) s.abs, HandSHeadRun.seenQ qW looseW (importedModules R.prog.main.body) (fun s => PySem.W.xlAt qW [] s && PySem.W.recOk R.toRowW.records s) s.abs)) = some (true, PySem.W.openGood qW looseW)
/-- .. the facts -/
def RunB (w : World) : Prop := ∀ os : OsState, (HandSHeadRun.endF (HandSHeadRun.stepQ (HandSHeadRun.denQ HandSHeadRun.tabQ) R.prog w) 12000 R.prog w os).map obW = some (valW w)
theorem runA0 (w : World) : RunA (w.withFollow "special-get-raises" false) := by
  intro os
  kernel_rfl
theorem runA1 (w : World) : RunA (w.withFollow "special-get-raises" true) := by
  intro os
  kernel_rfl
theorem runB0 (w : World) : RunB (w.withFollow "special-get-raises" false) := by
  intro os
  kernel_rfl
theorem runB1 (w : World) : RunB (w.withFollow "special-get-raises" true) := by
  intro os
  kernel_rfl
theorem runW (w : World) : HandSHeadRun.RunEq R qW hkW obW 12000 looseW w := fun os =>
  run_join (PySem.W.byRow2 (P := RunA) "special-get-raises" runA0 runA1 w os) (PySem.W.byRow2 (P := RunB) "special-get-raises" runB0 runB1 w os)
end Wi
set_option maxHeartbeats 4000000
set_option maxRecDepth 100000
/-! L9: texts joined; zip of tuples; what two lists' writer leaves alone -/
namespace Wi
open PySem L2 PySem.Spec PyProof.Rows
theorem sz_app {a b : S} (h : a.length + b.length ≤ 60000) : (a ++ b).length ≤ sizeLine := sz5 (by rw [len_app]; omega)
theorem rd_j2 {σ : L2.St} {H : Hp} {i j : Nat} {a b : S} {Q : Str → Hp → Prop} (h1 : σ[i]? = some (some (V.str a))) (h2 : σ[j]? = some (some (V.str b))) (hz : a.length + b.length ≤ 60000) (k : Q (a ++ b) H) : tJs [tFmt (tVar i), tFmt (tVar j)] PySem.Str.empty σ H Q := by
  refine ⟨_, h1, .inl ⟨a, rfl, sz5 (by omega), a, rfl, by rw [S.nil_app]; exact sz5 (by omega), _, h2, .inl ⟨b, rfl, sz5 (by omega), b, rfl, by rw [S.nil_app]; exact sz_app hz, ?_⟩⟩⟩
  show Q (PySem.Str.empty ++ a ++ b) H
  rw [S.nil_app]
  exact k
theorem rd_jc {σ : L2.St} {H : Hp} {i : Nat} {a c : S} {Q : Str → Hp → Prop} (h1 : σ[i]? = some (some (V.str a))) (hz : a.length + c.length ≤ 60000) (k : Q (a ++ c) H) : tJs [tFmt (tVar i), tC (.str c)] PySem.Str.empty σ H Q := by
  refine ⟨_, h1, .inl ⟨a, rfl, sz5 (by omega), a, rfl, by rw [S.nil_app]; exact sz5 (by omega), c, rfl, by rw [S.nil_app]; exact sz_app hz, ?_⟩⟩
  show Q (PySem.Str.empty ++ a ++ c) H
  rw [S.nil_app]
  exact k
theorem rd_jcj {σ : L2.St} {H : Hp} {i j : Nat} {a c b : S} {Q : Str → Hp → Prop} (h1 : σ[i]? = some (some (V.str a))) (h2 : σ[j]? = some (some (V.str b))) (hz : a.length + c.length + b.length ≤ 60000) (k : Q (a ++ c ++ b) H) : tJs [tFmt (tVar i), tC (.str c), tFmt (tVar j)] PySem.Str.empty σ H Q := by
  refine ⟨_, h1, .inl ⟨a, rfl, sz5 (by omega), a, rfl, by rw [S.nil_app]; exact sz5 (by omega), c, rfl, by rw [S.nil_app]; exact sz_app (by omega), _, h2, .inl ⟨b, rfl, sz5 (by omega), b, rfl, by rw [S.nil_app]; exact sz_app (by rw [len_app]; omega), ?_⟩⟩⟩
  show Q (PySem.Str.empty ++ a ++ c ++ b) H
  rw [S.nil_app]
  exact k
theorem walk_zipT {K : PySem.W.Frag} {a b : Addr} {xs ys : List V} {n : Nat} (hn : n = min xs.length ys.length) : Walk (RZ.ItzT K a b) n (fun H => SqT K H a xs ∧ SqT K H b ys) (YPair (fun i => xs[i]?) (fun i => ys[i]?)) := by
  subst hn
  refine ⟨fun i _ hi q => ?_, fun _ q => ⟨xs, ys, q.1, q.2, by omega⟩, fun i H v H' _ q y => ?_⟩
  · have h1 : i < xs.length := by omega
    have h2 : i < ys.length := by omega
    exact ⟨xs, ys, xs[i], ys[i], q.1, q.2, by simp [h1], by simp [h2]⟩
  · obtain ⟨T, x, z, h1, h2, h3, h4, h5⟩ := y
    exact ⟨T, x, z, h1, h2, h3, h4 xs q.1, h5 ys q.2⟩
/-- all but what stands at A and R stays -/
def Keep (A R : Addr) (H H' : Hp) : Prop := ∀ a o, H a = some o → a ≠ A → a ≠ R → H' a = some o
section
variable {A R : Addr} {H H1 H2 : Hp}
theorem Keep.refl : Keep A R H H := fun _ _ h _ _ => h
theorem Keep.trans (e : Keep A R H H1) (f : Keep A R H1 H2) : Keep A R H H2 := fun a o h x y => f a o (e a o h x y) x y
theorem _root_.L2.Same.keep (e : Same H H1) : Keep A R H H1 := fun a o h _ _ => e a o h
theorem Keep.updA (e : Keep A R H H1) (o : HO) : Keep A R H (upd H1 A o) := fun a u h x y => by rw [upd_ne x]; exact e a u h x y
theorem Keep.updR (e : Keep A R H H1) (o : HO) : Keep A R H (upd H1 R o) := fun a u h x y => by rw [upd_ne y]; exact e a u h x y
theorem Keep.tx (e : Keep A R H H1) {xs ys : List V} (hA : H A = some (.lst xs)) (hR : H R = some (.lst ys)) : Tx H H1 := fun a us h => e a _ h (fun z => by rw [z, hA] at h; cases h) (fun z => by rw [z, hR] at h; cases h)
/-- two fresh lists' writer -/
theorem Keep.same {H0 : Hp} (e : Keep A R H H1) (s : Same H0 H) (hA : H0 A = none) (hR : H0 R = none) : Same H0 H1 := fun a o h => e a o (s a o h) (ne_of_none h hA) (ne_of_none h hR)
theorem SD.keep {d : Addr} {n : Nat} {f : Str → Option V} (h : SD H d n f) (e : Keep A R H H1) {xs ys : List V} (hA : H A = some (.lst xs)) (hR : H R = some (.lst ys)) : SD H1 d n f := by
  obtain ⟨kvs, h1, h2, h3⟩ := h.ex
  exact ⟨kvs, e _ _ h1 (fun z => by rw [z, hA] at h1; cases h1) (fun z => by rw [z, hR] at h1; cases h1), h2, h3⟩
end
end Wi
set_option maxHeartbeats 4000000
set_option maxRecDepth 100000
/-! L10: an own exception class (over ValueError) whose __init__ begins with super().__init__(text) -/
namespace Wi
open PySem L2 PySem.Spec PyProof.Rows NdefX ClX
abbrev supNF (name qual : Str) (params : Arguments) (body : List Stmt) (scope : Scope) (cc c : Addr) : NF := ⟨name, qual, params, body, scope, [("__class__", cc)], c⟩
abbrev supFn (name qual : Str) (params : Arguments) (body : List Stmt) (scope : Scope) (dV kV doc pm : Value) (an : Option Addr) (ct : Value) (cc c : Addr) : FuncData := PySem.W.fnX name qual params body scope [("__class__", cc)] dV kV doc pm an (.ref c) ct
/-- what the written part says of such a class and its __init__ -/
structure SupC (P : Program) (K : PySem.W.Frag) (name qual : Str) (params : Arguments) (body : List Stmt) (scope : Scope) (C cc c fI : Addr) (fd : FuncData) : Prop where
  ox : OexC K C
  fn : ∃ dV kV doc pm an ct, fd = supFn name qual params body scope dV kV doc pm an ct cc c
  lk : ∃ oc od osl, K.lookup fI = some ⟨oc, od, .func fd, osl⟩
  hcd : PySem.W.codeIn K (.ref c) qual = true
  code : ∃ ccl cdd vs ccs file tf, K.lookup c = some ⟨ccl, cdd, .fields vs, ccs⟩ ∧ vs[2]? = some (.str file tf) ∧ ((P.main.file : Str) == file) = true
  cell : ∃ cl cld csl, K.lookup cc = some ⟨cl, cld, .cell (some (.ref C)), csl⟩
  msub : PySem.W.mroIn K C (.ref C) = some true
  along : PySem.W.ks_superIn K C C "__init__" = some (some (.builtin "ValueError.__init__"))
  subB : PySem.W.subIn K (.ref C) (.type "ValueError") = some true
  third : PySem.W.nsIn K cStatics "thirdparty.any" = some none
  top : (P.main.scope.names.lookup ("super" : Str)).isSome = false
section
variable {P : Program} {w : World} {K : PySem.W.Frag} {mg : Str → Option Value} {base : Heap} {CX : CXT} {k : Nat} {name qual : Str} {params : Arguments} {body rest : List Stmt} {scope : Scope} {C cc c fI : Addr} {fd : FuncData} {N ps : List Str} {sp : Sp} {a : Expr} {p0 p1 p2 pos pos' : Pos}
theorem cls_of_oex (T : OexC K C) : ∃ cd, PySem.W.clsIn K C = some cd := by
  obtain ⟨nm, q, N, bs, bm, sn, sub, ab, col, dd, k0, k1, k2, k3, k5, hC, hbm⟩ := T.cls
  exact ⟨_, by unfold PySem.W.clsIn; rw [hC]⟩
theorem sup_callWith {M : Model} {A : Around} {E : Value → Shared → Prop} {s : Shared} {i : String} {u x : Addr} {pos : Pos} {env : Env} {e : Expr} {rest : List Expr} {Q : Value → Shared → Prop}
    (he : starEach (e :: rest) env = (false, eval e env) :: starEach rest env) (hplain : (backTo pos (starEach rest env)).any (·.1) = false)
    (h : wpAny M A (spliced (backTo pos (starEach (e :: rest) env))) (fun vs s₁ => PySem.W.KxsAt i u x s₁.heap ∧ wpAny M A (call (.ref u) vs) Q E s₁) E s) :
    wpAny M A (callWith pos (.ref u) [] (backTo pos (starEach (e :: rest) env)) []) Q E s := by
  rw [he] at h ⊢
  refine PySem.W.kxs_callWith (i := i) (x := x) (by show (false || (backTo pos (starEach rest env)).any (·.1)) = false; rw [hplain]; rfl) ?_
  exact PySem.Calls.evalArgs_plain h
theorem fn_sup (T : SupC P K name qual params body scope C cc c fI fd) (hm : mg "super" = none) (S : NScope N ps ["__class__"] scope) (hks : scope.names.lookup ("super" : Str) = some .globalImplicit) (hkc : scope.names.lookup ("__class__" : Str) = some .free)
    (hb : body = .Expr (.Call (.Attribute (.Call (.Name "super" p0) [] [] p1) "__init__" p2) [a] [] pos) pos' :: rest) {ar : Arg} (hp : (params.posonlyargs ++ params.args).head? = some ar) (har : ps.head? = some ar.arg)
    {pl : Sem Bool} (hev : ∀ L, eval (.Call (.Attribute (.Call (.Name "super" p0) [] [] p1) "__init__" p2) [a] [] pos) (envF (supNF name qual params body scope cc c) fI L) = (do
      let ov ← attributeBase (.Call (.Name "super" p0) [] [] p1) "__init__" (envF (supNF name qual params body scope cc c) fI L) (eval (.Call (.Name "super" p0) [] [] p1) (envF (supNF name qual params body scope cc c) fI L))
      standAt p2.atName
      let (f, first) ← holding [ov] (getMethod ov "__init__" pl)
      callWith pos f first (backTo pos (starEach [a] (envF (supNF name qual params body scope cc c) fI L))) []))
    (hst : ∀ L, starEach [a] (envF (supNF name qual params body scope cc c) fI L) = (false, eval a (envF (supNF name qual params body scope cc c) fI L)) :: starEach [] (envF (supNF name qual params body scope cc c) fI L))
    (hsw : ∀ L, swapsWith (.Call (.Attribute (.Call (.Name "super" p0) [] [] p1) "__init__" p2) [a] [] pos) none pos'.line (envF (supNF name qual params body scope cc c) fI L) = pure false)
    (len : ∀ vs H Q E, sp vs H Q E → vs.length = ps.length)
    (hbody : ∀ (A : Around) (outer : List Env) (s : Shared) (H : Hp) (vs : List V) (Q : VK) (E : XK), Room k (A.deeper (envF (supNF name qual params body scope cc c) fI s.heap.objs.size)) → sp vs H Q E →
      ∃ (ta : TE) (t : TS) (e : Addr), vs.head? = some (.ref e) ∧ H e = some (exo e C none) ∧ PE (ncx CX P w K mg base N (supNF name qual params body scope cc c) fI A outer s H E) a ta ∧ PSs (ncx CX P w K mg base N (supNF name qual params body scope cc c) fI A outer s H E) rest t ∧
        ta (startF N vs [some (.ref C)]) H (fun _ H1 => H1 e = some (exo e C none) ∧ t { nx := fun _ H' => Q .non H', rt := Q } (startF N vs [some (.ref C)]) H1)) :
    FnOk P w K mg base CX (k + 1) fI fd ps sp := by
  obtain ⟨dV, kV, doc, pm, an, ct, rfl⟩ := T.fn
  obtain ⟨oc, od, osl, lk⟩ := T.lk
  obtain ⟨ccl, cdd, fvs, ccs, file, tf, hcode, hvs, hfile⟩ := T.code
  obtain ⟨cl, cld, csl, hcell⟩ := T.cell
  obtain ⟨cd, hcls⟩ := cls_of_oex T.ox
  refine ⟨len, fun A outer s H args us vs Q E hr e0 hbi r hsp => ?_⟩
  have KX : K.In s.heap := e0.mod.kin.keeps fun b o e => (e0.bs b o e).1
  have hl := len _ _ _ _ hsp
  have lim : s.heap.NoLimit := e0.mod.nolimit.keeps fun b o e => (e0.bs b o e).1
  have hcc : H cc = none := (e0.bs cc _ (e0.mod.kin cc _ hcell)).2
  have CA : CellsAt [("__class__", cc)] ["__class__"] [some (V.ref C)] s.heap H := by
    refine ⟨rfl, fun y d e => ?_, fun x y d ex ey => ?_, fun i y hi => ?_⟩
    · have : d = cc := by
        simp only [List.lookup] at e
        split at e
        · exact (Option.some.inj e).symm
        · cases e
      subst this
      exact ⟨hcc, _, _, KX _ _ hcell, rfl⟩
    · simp only [List.lookup] at ex ey
      split at ex
      · rename_i hx
        split at ey
        · rename_i hy
          exact (eq_of_beq hx).trans (eq_of_beq hy).symm
        · cases ey
      · cases ex
    · cases i with
      | zero =>
        simp at hi
        subst hi
        refine ⟨cc, rfl, fun v hv => ?_⟩
        simp at hv
        subst hv
        exact ⟨.ref C, rfl, _, KX _ _ hcell, rfl⟩
      | succ i => simp at hi
  refine ks_codeAny_call_defAt (fd := supFn name qual params body scope dV kV doc pm an ct cc c) (body := body) (binds := ps.zip us) hr.depth (KX _ _ lk) rfl lim (PySem.W.codeRec_of KX T.hcd) rfl hbi S.nocell (fun ⟨n, _⟩ hy => S.par n (List.of_mem_zip hy).1) (fun h₁ hns hk₁ => ?_) S.co S.gen S.kind
  have I : Inv (ncx CX P w K mg base N (supNF name qual params body scope cc c) fI A outer s H E) [] (startF N vs [some (.ref C)]) H { s with heap := h₁, toks := s.toks + (ps.zip us).length } := inv_startN S hr.hd e0 hl r CA hns hk₁
  obtain ⟨ta, t, e, hve, he, pe, pr, hta⟩ := hbody A outer s H vs Q E (hr.deeper _) hsp
  have fin : ∀ {σ' : L2.St} {H' : Hp} {v : V} {u : Value} {s' : Shared}, Inv (ncx CX P w K mg base N (supNF name qual params body scope cc c) fI A outer s H E) [] σ' H' s' → L2.RelV v u → Q v H' → CE outer P w H s Q u s' :=
    fun {σ' H' v u s'} J rv q => ⟨v, H', J.os, J.bare, J.base, J.hok, rv, q⟩
  obtain ⟨t1, ho⟩ := exo_at I.hok he
  obtain ⟨nmE, qE, NE, bsE, bmE, snE, subE, abE, colE, ddE, kE0, kE1, kE2, kE3, kE5, hC, hbm⟩ := T.ox.cls
  have hve2 : ∃ rv, us = .ref e :: rv := by
    cases vs with
    | nil => cases hve
    | cons v0 vr =>
      cases hve
      cases r with
      | cons r0 rr =>
        cases r0
        exact ⟨_, rfl⟩
  obtain ⟨usr, rfl⟩ := hve2
  have hself : (ps.zip (.ref e :: usr)).reverse.lookup ar.arg = some (Value.ref e) := by
    cases ps with
    | nil => cases har
    | cons p0 pr =>
      cases har
      have hnd : ∀ v, (ar.arg, v) ∉ pr.zip usr := fun v hv => by
        have h1 := (List.of_mem_zip hv).1
        have h2 := S.pre
        have nd : (ar.arg :: pr ++ [("__class__" : Str)]).Nodup := by
          rw [← h2]
          exact S.nd.sublist (List.take_sublist ..)
        exact (List.nodup_cons.mp nd).1 (List.mem_append_left _ h1)
      rw [List.zip_cons_cons, List.reverse_cons, List.lookup_append]
      rw [look_none fun v hv => hnd v (List.mem_reverse.mp hv)]
      simp [List.lookup]
  have X1 : K.In h₁ := I.kIn
  have hD := X1 _ _ hC
  subst hb
  obtain ⟨hs, gs, ds, tks, oss⟩ := s
  refine ks_wpAt_execs_cons (ks_wpAt_Expr_any (ks_wpAt_MethodCall (pl := pl) (ks_wpAt_super_base (env := envF (supNF name qual params (Stmt.Expr (.Call (.Attribute (.Call (.Name "super" p0) [] [] p1) "__init__" p2) [a] [] pos) pos' :: rest) scope cc c) fI hs.objs.size) hks hkc rfl rfl (X1 _ _ lk) rfl hp rfl (X1 _ _ hcode) rfl hvs hfile T.top ?_) (hev hs.objs.size)) I.quiet (hsw hs.objs.size))
  obtain ⟨mb, hb1, hb2⟩ := I.mod.blt
  have hgl := I.ok.glob
  have hbt := I.ok.blt
  change (envF (supNF name qual params _ scope cc c) fI hs.objs.size).globals = _ at hgl
  change (envF (supNF name qual params _ scope cc c) fI hs.objs.size).builtins = _ at hbt
  refine PySem.W.ks_loadName_global S.kind hks (Calls.loadGlobal_builtin (by rw [hgl]; exact I.mod.glob.keeps I.bk) hm (by rw [hbt]; exact hb1.keeps I.bk) ((hb2 "super" (by decide)).trans PyProof.Rows.Boot.«super») ⟨rfl, ?_⟩)
  refine wpAny_loadName_free S.kind hkc rfl ⟨_, X1 _ _ hcell, rfl⟩ (wpAny_loadName_local S.kind (S.par ar.arg (List.mem_of_mem_head? har)) hns hself (ks_wpAny_isType_cls hD rfl ⟨rfl, ?_⟩))
  refine ks_wpAny_call_super hD rfl ho rfl (fun c e => nomatch e) (PySem.W.looks_mroIn X1 T.msub) (fun h2 hso k2 => ?_)
  have I2 := I.kept (t' := tks + ((ps.zip (Value.ref e :: usr)).length)) k2
  have X2 : K.In h2 := I2.kIn
  have hI2 : PySem.W.Looks (model P w) h2 (isInstance (.ref e) (.type "ValueError")) true := (PySem.W.InstAt.type (h := h2) (x := e) (ox := { cls := .ref C, dict := none, data := .fields #[.ref t1, .none, .none, .none, .bool false, .none] }) (C := C) (od := none) ⟨k2 _ _ ho, rfl, rfl, trivial⟩).andThen (PySem.W.looks_subIn X2 T.subB)
  have hne : e ≠ C := PySem.W.ks_ne (h := h2) (ox := { cls := .ref C, dict := none, data := .fields #[.ref t1, .none, .none, .none, .bool false, .none] }) (odx := none) X2 ⟨k2 _ _ ho, rfl, rfl, trivial⟩ hcls
  have hal := T.along
  unfold PySem.W.ks_superIn at hal
  rw [hcls] at hal
  refine PySem.W.kxs_getMethod PySem.W.kxs_ValueError (l₀ := cd.mro) hso (PySem.W.looks_opaque X2 T.third) (fun A Q E s k q => wpAny_bind ((PySem.W.looks_clsIn X2 hcls) A _ E s k (wpAny_pure q))) rfl X2 hal hI2 hne rfl ?_
  have I3 := pin_new (a := h2.objs.size) (o := PySem.W.kxs_mw "ValueError.__init__" e) (h' := h2.push (PySem.W.kxs_mw "ValueError.__init__" e)) (t' := tks + (ps.zip (Value.ref e :: usr)).length + 1) I2 (fun b o q => Heap.get?_push_of_some _ q) (Nat.le_refl _) (Heap.get?_push_size _ rfl) (fun v z => nomatch z)
  refine sup_callWith (i := "ValueError.__init__") (x := e) (hst hs.objs.size) rfl (thn ((pa_cons pe pa_nil (hst hs.objs.size)).run pos _ _ (startF N vs [some (.ref C)]) H (fun vs2 H4 => match vs2 with | [_] => H4 e = some (exo e C none) ∧ t { nx := fun _ H' => Q .non H', rt := Q } (startF N vs [some (.ref C)]) H4 | _ => False) I3 ?_) fun us2 s4 ⟨vs2, H4, I4, rv4, q4⟩ => ⟨pin_at I4, ?_⟩)
  · exact hta
  · have l4 : vs2.length = 1 := by
      match vs2, q4 with
      | [_], _ => rfl
    obtain ⟨v4, rfl⟩ : ∃ v4, vs2 = [v4] := by
      match vs2, q4 with
      | [v], _ => exact ⟨v, rfl⟩
    obtain ⟨e4, q4⟩ := q4
    have hz : us2.length ≤ sizeLine := by rw [← Paired.length rv4, l4, sizeLine_eq]; omega
    obtain ⟨t2, ho4⟩ := exo_at I4.hok e4
    have hu := pin_at I4
    have X4 := I4.kIn
    obtain ⟨hp4, g4, d4, t4, os4⟩ := s4
    refine wpAny_call (codeAny_of_tree ?_)
    show wpAny _ (Around.in1 _) (callAny (.ref _) ⟨us2, []⟩) _ _ _
    simp only [callAny]
    refine wpAny_bind (wpAny_load hu ?_)
    simp only [PySem.W.kxs_mw, show (Value.type "method-wrapper" == Value.type "method" || Value.type "method-wrapper" == Value.type "builtin_function_or_method" || Value.type "method-wrapper" == Value.type "method-wrapper") = true by decide, if_true]
    refine PySem.W.KFB.if_so (by decide) ?_
    refine wpAny_bind (PySem.W.check_bound_init PySem.F.excBase_ValueError.toExcCallFacts (X4 _ _ hC) ho4 rfl ?_)
    refine wpAny_bind (wpAny_pure (wpAny_pure ?_))
    refine ⟨plainId_quiet PySem.F.excBase_ValueError.init.plain _, codeAny_builtin PySem.F.excBase_ValueError.initEntry ?_⟩
    refine PySem.W.exc_init_tree (cls := .ref C) (t0 := t2) (dv := none) (c2 := .none) (c3 := .none) (b4 := .bool false) ho4 hz (fun h' k hx _ => ?_)
    have J := (unpin I4).write (t' := t4) (x := e) (e := e) (o := exo e C none) (by rw [e4]; exact True.intro) (.inl rfl) k ⟨_, hx⟩ (exo_ok hx)
    have eu : upd H4 e (exo e C none) = H4 := by
      funext b
      by_cases hb : b = e
      · rw [hb, upd_same, e4]
      · rw [upd_ne hb]
    rw [eu] at J
    refine wpAt_of_wpAny ?_
    refine wpAny_mono (pr.run [] _ _ H4 _ J q4) (fun fl s' hs => ?_) fun e s' hs => hs
    cases fl with
    | ret u =>
      obtain ⟨v, σ', H', J, rv, q⟩ := hs
      exact fin J rv q
    | next =>
      obtain ⟨σ', H', J, q⟩ := hs
      exact fin (v := V.non) (u := Value.none) J rfl q
    | brk =>
      obtain ⟨_, _, _, q⟩ := hs
      exact False.elim q
    | cont =>
      obtain ⟨_, _, _, q⟩ := hs
      exact False.elim q
end
end Wi
set_option maxHeartbeats 4000000
set_option maxRecDepth 100000
namespace Wi
open PySem L2 PySem.Spec PyProof.Rows
theorem ls_a : ("a" : Str).cps.toList = [97] := by decide +kernel
theorem ls_z : ("z" : Str).cps.toList = [122] := by decide +kernel
theorem ls_0 : ("0" : Str).cps.toList = [48] := by decide +kernel
theorem ls_9 : ("9" : Str).cps.toList = [57] := by decide +kernel
theorem one_lt (a b : Nat) : decide (([a] : List Nat) < [b]) = decide (a < b) := by
  congr 1
  simp [List.cons_lt_cons_iff]
theorem az_le {c : Nat} : (!decide ((⟨#[c]⟩ : Str).cps.toList < ("a" : Str).cps.toList)) = decide (97 ≤ c) ∧ (!decide (("z" : Str).cps.toList < (⟨#[c]⟩ : Str).cps.toList)) = decide (c ≤ 122) := by
  rw [ls_a, ls_z]
  show (!decide (([c] : List Nat) < [97])) = _ ∧ (!decide (([122] : List Nat) < [c])) = _
  rw [one_lt, one_lt]
  constructor
  · by_cases h : 97 ≤ c
    · simp [h]
    · simp [h]; omega
  · by_cases h : c ≤ 122
    · simp [h]
    · simp [h]; omega
theorem dg_le {c : Nat} : (!decide ((⟨#[c]⟩ : Str).cps.toList < ("0" : Str).cps.toList)) = decide (48 ≤ c) ∧ (!decide (("9" : Str).cps.toList < (⟨#[c]⟩ : Str).cps.toList)) = decide (c ≤ 57) := by
  rw [ls_0, ls_9]
  show (!decide (([c] : List Nat) < [48])) = _ ∧ (!decide (([57] : List Nat) < [c])) = _
  rw [one_lt, one_lt]
  constructor
  · by_cases h : 48 ≤ c
    · simp [h]
    · simp [h]; omega
  · by_cases h : c ≤ 57
    · simp [h]
    · simp [h]; omega
abbrev rLeS : R2 := fun x y H Q => ∃ i j, x = V.str i ∧ y = V.str j ∧ Q (.bl (!decide (j.cps.toList < i.cps.toList))) H
theorem rd_az {σ : L2.St} {H : Hp} {i d : Nat} {Q : Bool → Hp → Prop} (hs : σ[i]? = some (some (.str ⟨#[d]⟩))) (k : Q (az d) H) : tTest (tChain rLeS rLeS (tC (.str "a")) (tVar i) (tC (.str "z"))) σ H Q := by
  refine ⟨_, hs, _, _, rfl, rfl, _, rfl, if2 (fun h => ⟨_, _, rfl, rfl, _, rfl, ?_⟩) fun h => ⟨_, rfl, ?_⟩⟩
  · rw [az_le.1] at h
    rw [az_le.2]
    unfold az at k
    rwa [h, Bool.true_and] at k
  · rw [az_le.1] at h
    unfold az at k
    rwa [h, Bool.false_and] at k
theorem rd_dg {σ : L2.St} {H : Hp} {i d : Nat} {Q : Bool → Hp → Prop} (hs : σ[i]? = some (some (.str ⟨#[d]⟩))) (k : Q (dg d) H) : tTest (tChain rLeS rLeS (tC (.str "0")) (tVar i) (tC (.str "9"))) σ H Q := by
  refine ⟨_, hs, _, _, rfl, rfl, _, rfl, if2 (fun h => ⟨_, _, rfl, rfl, _, rfl, ?_⟩) fun h => ⟨_, rfl, ?_⟩⟩
  · rw [dg_le.1] at h
    rw [dg_le.2]
    unfold dg at k
    rwa [h, Bool.true_and] at k
  · rw [dg_le.1] at h
    unfold dg at k
    rwa [h, Bool.false_and] at k
theorem name_head {x : Str} (h : isName x = true) : ∃ c r, x.cps.toList = c :: r ∧ az c = true ∧ (∀ d ∈ x.cps.toList, az d = true ∨ dg d = true) ∧ x.length ≤ 8 ∧ 0 < x.length := by
  unfold isName at h
  cases e : x.cps.toList with
  | nil => rw [e] at h; cases h
  | cons c r =>
    rw [e] at h
    simp only [Bool.and_eq_true] at h
    obtain ⟨⟨h1, h2⟩, h3⟩ := h
    have hl : x.length = r.length + 1 := by
      show x.cps.size = _
      rw [← Array.length_toList, e]; rfl
    have h4 : r.length < 8 := of_decide_eq_true h3
    refine ⟨c, r, rfl, h1, fun d hd => ?_, by omega, by omega⟩
    rcases List.mem_cons.mp hd with q | q
    · rw [q]; exact .inl h1
    · have := List.all_eq_true.mp h2 d q
      simpa using this
section
variable {P : Program} {w : World} {K : PySem.W.Frag} {mg : Str → Option Value} {base : Heap}
/-! ### is_name -/
theorem sc_is_name : FnScope ["text", "sign"] ["text"] (defScope (top 14)) :=
  ⟨rfl, rfl, rfl, by decide +kernel, rfl, by decide +kernel, by decide +kernel⟩
def spIsName : Sp := fun vs H Q _ => ∃ x : Str, vs = [.str x] ∧ isName x = true ∧ Q (.bl true) H
theorem cal_is_name (F : Df K mg "is_name" "is_name" 14) (B : Bl mg) (G : GC K w mg) : Cal P w K mg base CX0 1 "is_name" ["text"] spIsName := by
  refine F.cal sc_is_name (fun vs H Q E h => ?_) (fun _ _ _ _ _ _ us hl => match us, hl with | [_], _ => rfl) (fun f cdv A outer s H vs Q E hr h => ?_)
  · obtain ⟨x, rfl, _⟩ := h
    rfl
  · obtain ⟨x, rfl, hx, k⟩ := h
    refine ⟨_, (pss_cons (ps_if (PW.pt (pw_or (pt_cmpR op_eq (pv 0) pe_str (nomark _)) (pw_or1 (pt_cmpR op_gt (pe_callB call_len_str rfl B.len PySem.boot_len (pa_cons (pv 0) pa_nil)) (pe_globI rfl G.MOST_SIGNS) (nomark _)))))
        pss_never
        pss_nil)
      (pss_cons (ps_if (pt_not (pt_chain op_le_str op_le_str pe_str (pe_ix ix_str (pv 0) pe_int (fun _ _ => rfl)) pe_str))
        pss_never
        pss_nil)
      (pss_cons (ps_for PassesOwn.never rfl (pi_str (pv 0)) (pg_name (i := 1) sc_is_name.nd rfl (Or.inl rfl))
        (pss_one (ps_if (pt_not (PW.pt (pw_or (pt_chain op_le_str op_le_str pe_str (pv 1) pe_str) (pw_or1 (pt_chain op_le_str op_le_str pe_str (pv 1) pe_str)))))
          pss_never
          pss_nil)))
      (pss_one (ps_ret pe_bl))))), ?_⟩
    obtain ⟨c, r, hc, hz, hall, hl, hl0⟩ := name_head hx
    refine ⟨_, rfl, rfl, _, rfl, ifF (decide_eq_false fun e => ?_) ?_⟩
    · have e2 : x = ("" : Str) := V.str.inj e
      rw [e2] at hl0
      exact absurd hl0 (by decide +kernel)
    refine ⟨_, rfl, x, rfl, sz5 (by omega), _, _, rfl, rfl, _, rfl, ifF (decide_eq_false (by omega)) ?_⟩
    refine ⟨_, rfl, x, 0, c, rfl, rfl, sz5 (by omega), ?_, _, _, rfl, rfl, _, rfl, ifT ?_ ⟨_, _, rfl, rfl, _, rfl, ifF ?_ ?_⟩⟩
    · exact atI_nat (j := 0) (by rw [hc]; rfl)
    · exact az_le.1.trans (decide_eq_true (by unfold az at hz; simp at hz; omega))
    · rw [az_le.2, decide_eq_true (by unfold az at hz; simp at hz; omega)]; rfl
    refine ⟨_, rfl, x, rfl, for_it walk_str (fun i σ H' => H' = H ∧ ∃ o, σ = [some (.str x), o]) ⟨rfl, _, rfl⟩ (fun _ _ _ _ _ => trivial) ?_ ?_⟩
    · rintro i y σ H' H2 hi ⟨rfl, o, rfl⟩ ⟨rfl, d, hd, rfl⟩
      have hdm : d ∈ x.cps.toList := List.mem_of_getElem? (i := i) (by rw [Array.getElem?_toList]; exact hd)
      refine rd_az (d := d) rfl (if2 (fun _ => iteF ⟨rfl, _, rfl⟩) fun h => rd_dg (d := d) rfl ?_)
      have hd2 : dg d = true := (hall d hdm).resolve_left (by rw [h]; exact Bool.false_ne_true)
      rw [hd2]
      exact iteF ⟨rfl, _, rfl⟩
    · rintro σ H' ⟨rfl, o, rfl⟩
      exact k

/-! ### is_wire -/
theorem sc_is_wire : FnScope ["text", "part"] ["text"] (defScope (top 15)) :=
  ⟨rfl, rfl, rfl, by decide +kernel, rfl, by decide +kernel, by decide +kernel⟩
def spIsWire : Sp := fun vs H Q _ => ∃ x : Str, vs = [.str x] ∧ Wire x ∧ ∀ H', Same H H' → Q (.bl true) H'
theorem split_wire {l : List S} (hne : l ≠ []) (h : ∀ y ∈ l, isName y = true) : Txt.split (dotted l) "." = l :=
  (by
    have := TL.split_join (y := ".") (s := 46) (S := []) (by decide +kernel) (by decide +kernel) hne fun p hp hc => no_dot (h p hp) 46 hc rfl
    have e : Txt.join "." l = dotted l := PySem.StrLaws.glued_eq_join "." l
    rwa [e] at this)
theorem cal_is_wire (F : Df K mg "is_wire" "is_wire" 15) (B : Bl mg) (C_is_name : Cal P w K mg base CX0 1 "is_name" ["text"] spIsName) : Cal P w K mg base CX0 2 "is_wire" ["text"] spIsWire := by
  refine F.cal sc_is_wire (fun vs H Q E h => ?_) (fun _ _ _ _ _ _ us hl => match us, hl with | [_], _ => rfl) (fun f cdv A outer s H vs Q E hr h => ?_)
  · obtain ⟨x, rfl, _⟩ := h
    rfl
  · obtain ⟨x, rfl, ⟨l, hne, hl, hn, rfl⟩, k⟩ := h
    refine ⟨_, (pss_cons (ps_for PassesOwn.never rfl (pi_list (pe_split (pv 0) pe_str)) (pg_name (i := 1) sc_is_wire.nd rfl (Or.inl rfl))
        (pss_one (ps_if (pt_not (pt_val (pe_callC C_is_name (hr.mono (by decide)) rfl pass0 (pa_cons (pv 1) pa_nil))))
          pss_never
          pss_nil)))
      (pss_one (ps_ret pe_bl))), ?_⟩
    have hlen := dotted_len hn
    refine ⟨_, rfl, ⟨_, rfl⟩, _, _, rfl, rfl, by decide +kernel, sz5 (by omega), fun p hp => ?_⟩
    rw [split_wire hne hn]
    refine ⟨p, rfl, ⟨_, SqL.of upd_same⟩, for_it (walk_list (xs := l.map V.str)) (fun i σ H' => H' = upd H p (.lst (l.map V.str)) ∧ ∃ o, σ = [some (.str (dotted l)), o]) ⟨rfl, _, rfl⟩ (fun i σ H' _ h => by rw [h.1]; exact SqL.of upd_same) ?_ ?_⟩
    · rintro i y σ H' H2 hi ⟨rfl, o, rfl⟩ ⟨rfl, hy⟩
      rw [List.getElem?_map] at hy
      obtain ⟨z, hz, rfl⟩ := Option.map_eq_some_iff.mp hy
      exact ⟨_, rfl, z, rfl, hn z (List.mem_of_getElem? hz), _, rfl, ifF rfl ⟨rfl, _, rfl⟩⟩
    · rintro σ H' ⟨rfl, o, rfl⟩
      exact k _ (Same.new hp)
/-! ### is_bit -/
theorem sc_is_bit : FnScope ["number"] ["number"] (defScope (top 16)) :=
  ⟨rfl, rfl, rfl, by decide +kernel, rfl, by decide +kernel, by decide +kernel⟩
def spIsBit : Sp := fun vs H Q _ => ∃ b : Bool, vs = [.int (b2i b)] ∧ Q (.bl true) H
theorem cal_is_bit (F : Df K mg "is_bit" "is_bit" 16) (B : Bl mg) : Cal P w K mg base CX0 1 "is_bit" ["number"] spIsBit := by
  refine F.cal sc_is_bit (fun vs H Q E h => ?_) (fun _ _ _ _ _ _ us hl => match us, hl with | [_], _ => rfl) (fun f cdv A outer s H vs Q E hr h => ?_)
  · obtain ⟨x, rfl, _⟩ := h
    rfl
  · obtain ⟨b, rfl, k⟩ := h
    refine ⟨_, (pss_one (ps_ret (pe_or (pe_cmpR op_eq (pv 0) pe_int (nomark _)) (pe_one (pe_cmpR op_eq (pv 0) pe_int (nomark _)))))), ?_⟩
    cases b
    · exact ⟨_, rfl, rfl, _, rfl, iteT k⟩
    · exact ⟨_, rfl, rfl, _, rfl, iteF ⟨_, rfl, rfl, k⟩⟩
/-! ### the wires of a net -/
theorem sc_listed_wires : FnScope ["net", "inputs", "gates", "regs", "outputs", "gate", "reg"] ["net"] (defScope (top 17)) :=
  ⟨rfl, rfl, rfl, by decide +kernel, rfl, by decide +kernel, by decide +kernel⟩
def spListed : Sp := fun vs H Q _ => ∃ (n : Net) (v : V), vs = [v] ∧ Rep H n.d v ∧ n.decl.length ≤ 300 ∧ ∀ v' H', Same H H' → Rep H' (strsD n.decl) v' → Q v' H'
theorem cal_listed_wires (F : Df K mg "listed_wires" "listed_wires" 17) (B : Bl mg) : Cal P w K mg base CX0 1 "listed_wires" ["net"] spListed := by
  refine F.cal sc_listed_wires (fun vs H Q E h => ?_) (fun _ _ _ _ _ _ us hl => match us, hl with | [_], _ => rfl) (fun f cdv A outer s H vs Q E hr h => ?_)
  · obtain ⟨n, x, rfl, _⟩ := h
    rfl
  · obtain ⟨n, v, rfl, rv, hz, k⟩ := h
    refine ⟨_, (pss_cons (ps_asg (pv 0) (pg_tup rfl (pgs_cons (pg_name (i := 1) sc_listed_wires.nd rfl (Or.inl rfl)) (pgs_cons (pg_name (i := 2) sc_listed_wires.nd rfl (Or.inl rfl)) (pgs_cons (pg_name (i := 3) sc_listed_wires.nd rfl (Or.inl rfl)) (pgs_cons (pg_name (i := 4) sc_listed_wires.nd rfl (Or.inl rfl)) pgs_nil))))))
      (pss_one (ps_ret (pe_tup (StX.pa_star (pv 1) (StX.pa_star (pe_lc (own := [("gate", 5)]) rfl sc_listed_wires.nd (pi_tup (pv 2)) (blkOk_by (N := ["net", "inputs", "gates", "regs", "outputs", "gate", "reg"]) (sc := defScope (top 17)) (own := [("gate", 5)]) (by decide +kernel)) (fun _ _ _ _ _ => (pg_name (i := 5) sc_listed_wires.nd rfl (Or.inl rfl))) (fun _ _ _ _ _ => pts_nil) (fun _ _ _ _ _ => (pe_ix (r := rIxT K) ix_tup (pv 5) pe_int (fun _ _ => rfl)))) (StX.pa_star (pe_lc (own := [("reg", 6)]) rfl sc_listed_wires.nd (pi_tup (pv 3)) (blkOk_by (N := ["net", "inputs", "gates", "regs", "outputs", "gate", "reg"]) (sc := defScope (top 17)) (own := [("reg", 6)]) (by decide +kernel)) (fun _ _ _ _ _ => (pg_name (i := 6) sc_listed_wires.nd rfl (Or.inl rfl))) (fun _ _ _ _ _ => pts_nil) (fun _ _ _ _ _ => (pe_ix (r := rIxT K) ix_tup (pv 6) pe_int (fun _ _ => rfl)))) pa_nil))))))), ?_⟩
    obtain ⟨p, v1, v2, v3, v4, rfl, hp, r1, r2, r3, r4⟩ := rv.t4
    refine ⟨_, rfl, p, _, rfl, SqT.of hp, rfl, _, _, rfl, _, _, rfl, _, _, rfl, _, _, rfl, rfl, ?_⟩
    obtain ⟨p1, rfl, h1⟩ := r1.strs
    obtain ⟨p2, g, rfl, h2, rg⟩ := r2.eTup
    obtain ⟨p3, q, rfl, h3, rq⟩ := r3.eTup
    have hl := hz
    unfold Net.decl Net.gw Net.rw at hl
    simp only [List.length_append, List.length_map] at hl
    have lg := rg.len
    have lq := rq.len
    rw [List.length_map] at lg lq
    refine ⟨_, rfl, p1, _, rfl, .inl (SqT.of h1), ⟨_, rfl, p2, rfl, ⟨_, SqT.of h2⟩, fun L hL => ?_⟩⟩
    refine lc_data (walk_tup (xs := g)) (n.gw.map D.str) (by rw [List.length_map, Net.gw, List.length_map]; exact lg) (by omega) hL (fun H1 e => SqT.of (e _ _ h2)) ?_ ?_
    · rintro i x d H1 _ Q' hi e ⟨rfl, hx⟩ hd q
      obtain ⟨gt, hg, rgt⟩ := rg.at hx
      rw [List.getElem?_map, Net.gw, List.getElem?_map, hg] at hd
      cases hd
      exact ⟨rfl, _, rfl, rd_ixS (i := 0) e rgt rfl (q _ _ (Same.refl _) (.str _))⟩
    · intro H1 us e1 hL1 ru
      refine ⟨L, us, rfl, .inr (SqL.of hL1), ⟨_, rfl, p3, rfl, ⟨_, SqT.of (e1 _ _ h3)⟩, fun L2 hL2 => ?_⟩⟩
      refine lc_data (walk_tup (xs := q)) (n.rw.map D.str) (by rw [List.length_map, Net.rw, List.length_map]; exact lq) (by omega) hL2 (fun H1 e => SqT.of ((e1.trans e) _ _ h3)) ?_ ?_
      · rintro i x d H2 _ Q' hi e ⟨rfl, hx⟩ hd q
        obtain ⟨gt, hg, rgt⟩ := rq.at hx
        rw [List.getElem?_map, Net.rw, List.getElem?_map, hg] at hd
        cases hd
        exact ⟨rfl, _, rfl, rd_ixS (i := 0) (e1.trans e) rgt rfl (q _ _ (Same.refl _) (.str _))⟩
      · intro H2 ws e2 hL2' rw2
        refine ⟨L2, ws, rfl, .inr (SqL.of hL2'), ?_⟩
        have rr : RepL H2 (n.decl.map D.str) (n.ins.map V.str ++ (us ++ (ws ++ []))) := by
          unfold Net.decl
          rw [List.append_nil]
          rw [List.map_append, List.map_append, List.append_assoc]
          exact (repL_strs n.ins).app ((ru.ex e2).app rw2)
        exact mk_tup (Same.refl H2) rr (by rw [List.length_map]; omega) fun p' H' e' _ r' => k _ _ ((e1.trans e2).trans e') r'
/-! ### declared_fault -/
theorem sc_declared_fault : FnScope ["listed", "known", "wire"] ["listed"] (defScope (top 18)) :=
  ⟨rfl, rfl, rfl, by decide +kernel, rfl, by decide +kernel, by decide +kernel⟩
def spDecl : Sp := fun vs H Q _ => ∃ (l : List Str) (v : V), vs = [v] ∧ Rep H (strsD l) v ∧ l.length ≤ 300 ∧ l.Nodup ∧ (∀ x ∈ l, Wire x) ∧ ∀ H', Same H H' → Q .non H'
theorem nd_at {l : List Str} (h : l.Nodup) {i : Nat} {x : Str} (e : l[i]? = some x) : x ∉ l.take i := fun m => by
  have h1 := take_succ e
  have h2 : (l.take (i + 1)).Nodup := h.sublist (List.take_sublist ..)
  rw [h1] at h2
  exact (List.nodup_append.mp h2).2.2 x m x (List.mem_singleton.mpr rfl) rfl
theorem strs_get {l : List Str} {i : Nat} {v : V} (h : (l.map V.str)[i]? = some v) : ∃ x, l[i]? = some x ∧ v = .str x := by
  rw [List.getElem?_map] at h
  obtain ⟨z, hz, rfl⟩ := Option.map_eq_some_iff.mp h
  exact ⟨z, hz, rfl⟩
theorem cal_declared_fault (F : Df K mg "declared_fault" "declared_fault" 18) (B : Bl mg) (C_is_wire : Cal P w K mg base CX0 2 "is_wire" ["text"] spIsWire) : Cal P w K mg base CX0 3 "declared_fault" ["listed"] spDecl := by
  refine F.cal sc_declared_fault (fun vs H Q E h => ?_) (fun _ _ _ _ _ _ us hl => match us, hl with | [_], _ => rfl) (fun f cdv A outer s H vs Q E hr h => ?_)
  · obtain ⟨n, x, rfl, _⟩ := h
    rfl
  · obtain ⟨l, v, rfl, rv, hz, nd, hw, k⟩ := h
    refine ⟨_, (pss_cons (ps_set (i := 1) sc_declared_fault.nd rfl (Or.inl rfl) pe_dnewK)
      (pss_cons (ps_for PassesOwn.never rfl (pi_tup (pv 0)) (pg_name (i := 2) sc_declared_fault.nd rfl (Or.inl rfl))
        (pss_cons (ps_if (pt_not (pt_val (pe_callC C_is_wire (hr.mono (by decide)) rfl pass0 (pa_cons (pv 2) pa_nil))))
          pss_never
          pss_nil)
        (pss_cons (ps_if (pt_cmp (pc_din (hu_of hr) (pv 2) (pv 1)))
          pss_never
          pss_nil)
        (pss_one (ps_dput (hu_of hr) (pv 1) (pv 2) pe_bl rfl)))))
      (pss_one (ps_ret pe_non)))), ?_⟩
    obtain ⟨p, rfl, hp⟩ := rv.strs
    intro d hd
    refine ⟨_, rfl, p, rfl, ⟨_, SqT.of (Same.new hd _ _ hp)⟩, for_it (walk_tup (xs := l.map V.str)) (fun i σ H' => Same H H' ∧ SD H' d i (inD (l.take i)) ∧ ∃ o, σ = [some (.ref p), some (.ref d), o]) ⟨Same.new hd, SD.new.imp fun x => (inD_none (by simp)).symm, _, rfl⟩ (fun i σ H' _ h => SqT.of (h.1 _ _ hp)) ?_ ?_⟩
    · rintro i y σ H' H2 hi ⟨e, sd, o, rfl⟩ ⟨rfl, hy⟩
      obtain ⟨x, hx, rfl⟩ := strs_get hy
      rw [List.length_map] at hi
      refine ⟨_, rfl, x, rfl, hw x (List.mem_of_getElem? hx), fun H3 e3 => ⟨_, rfl, ifF rfl ?_⟩⟩
      have sd3 := sd.same e3
      refine ⟨_, rfl, _, rfl, d, _, rfl, sd3.get x, _, rfl, ifF (by rw [inD_none (nd_at nd hx)]; rfl) ?_⟩
      obtain ⟨kvs, _, h2, h3⟩ := sd3.put (by omega) x (.bl true)
      refine ⟨_, rfl, _, rfl, d, _, rfl, h2, (e.trans e3).mut hd, h3.imp fun y => ?_, _, rfl⟩
      rw [take_succ hx]
      exact inD_snoc _ _ _
    · rintro σ H' ⟨e, _, o, rfl⟩
      exact k _ e
/-! ### gate_fault -/
theorem sc_gate_fault : FnScope ["gates", "known", "wire", "op", "args", "arg"] ["gates", "known"] (defScope (top 19)) :=
  ⟨rfl, rfl, rfl, by decide +kernel, rfl, by decide +kernel, by decide +kernel⟩
/-- the gates are sound among these wires -/
def GsOk (decl : List Str) (gs : List Gate) : Prop := ∀ g ∈ gs, g.args.length = g.op.ar ∧ ∀ a ∈ g.args, a ∈ decl
def spGateF : Sp := fun vs H Q _ => ∃ (gs : List Gate) (decl : List Str) (v : V) (d : Addr) (m : Nat), vs = [v, .ref d] ∧ Rep H (gatesD gs) v ∧ SD H d m (inD decl) ∧ GsOk decl gs ∧ gs.length ≤ 300 ∧ ∀ H', Same H H' → Q .non H'
theorem ar_le (o : Op) : o.ar ≤ 3 := by cases o <;> decide
theorem cal_gate_fault (F : Df K mg "gate_fault" "gate_fault" 19) (B : Bl mg) (G : GC K w mg) : Cal P w K mg base CX0 1 "gate_fault" ["gates", "known"] spGateF := by
  refine F.cal sc_gate_fault (fun vs H Q E h => ?_) (fun _ _ _ _ _ _ us hl => match us, hl with | [_, _], _ => rfl) (fun f cdv A outer s H vs Q E hr h => ?_)
  · obtain ⟨gs, decl, x, d, m, rfl, _⟩ := h
    rfl
  · obtain ⟨gs, decl, v, d, m, rfl, rv, sd, ok, hz, k⟩ := h
    obtain ⟨aR, esR, nR, g_ARITY, d_ARITY, nsR⟩ := G.ARITY
    refine ⟨_, (pss_cons (ps_for PassesOwn.never rfl (pi_tup (pv 0)) (pg_tup rfl (pgs_cons (pg_name (i := 2) sc_gate_fault.nd rfl (Or.inl rfl)) (pgs_cons (pg_name (i := 3) sc_gate_fault.nd rfl (Or.inl rfl)) (pgs_cons (pg_name (i := 4) sc_gate_fault.nd rfl (Or.inl rfl)) pgs_nil))))
        (pss_cons (ps_if (pt_cmpR (op_notIn_kd d_ARITY) (pv 3) (pe_globR rfl g_ARITY) (by rfl))
          pss_never
          pss_nil)
        (pss_cons (ps_if (pt_cmpR op_ne (pe_callB call_len_seq rfl B.len PySem.boot_len (pa_cons (pv 4) pa_nil)) (pe_ix ix_kdict (pe_globR rfl g_ARITY) (pv 3) (fun _ _ => rfl)) (nomark _))
          pss_never
          pss_nil)
        (pss_one (ps_for PassesOwn.never rfl (pi_tup (pv 4)) (pg_name (i := 5) sc_gate_fault.nd rfl (Or.inl rfl))
          (pss_one (ps_if (pt_cmp (pc_dnotin (hu_of hr) (pv 5) (pv 1)))
            pss_never
            pss_nil)))))))
      (pss_one (ps_ret pe_non))), ?_⟩
    obtain ⟨p, us, rfl, hp, ru⟩ := rv.eTup
    refine ⟨_, rfl, p, rfl, ⟨_, SqT.of hp⟩, for_it (walk_tup (xs := us)) (fun i σ H' => H' = H ∧ ∃ o1 o2 o3 o4, σ = [some (.ref p), some (.ref d), o1, o2, o3, o4]) ⟨rfl, _, _, _, _, rfl⟩ (fun i σ H' _ h => by rw [h.1]; exact SqT.of hp) ?_ ?_⟩
    · rintro i y σ H' H2 hi ⟨rfl, o1, o2, o3, o4, rfl⟩ ⟨rfl, hy⟩
      obtain ⟨g, hg, rg⟩ := ru.at hy
      have hgm := List.mem_of_getElem? hg
      obtain ⟨q, x1, x2, x3, rfl, hq, r1, r2, r3⟩ := rg.t3
      rw [r1.eStr, r2.eStr] at hq
      obtain ⟨q3, rfl, hq3⟩ := r3.strs
      obtain ⟨u, hu, ru'⟩ := nsR g.op
      refine ⟨q, _, rfl, SqT.of hq, rfl, _, _, rfl, _, _, rfl, _, _, rfl, rfl, ?_⟩
      refine ⟨_, rfl, _, _, rfl, rfl, hu, _, rfl, ifF rfl ?_⟩
      refine ⟨_, rfl, q3, _, rfl, .inr (SqT.of hq3), _, rfl, _, _, _, rfl, rfl, ⟨_, _, _, d_ARITY.at_, d_ARITY.lit, hu, ru'⟩, rfl, _, rfl, ifF ?_ ?_⟩
      · rw [List.length_map, (ok g hgm).1]
        simp
      refine ⟨_, rfl, q3, rfl, ⟨_, SqT.of hq3⟩, for_it (walk_tup (xs := g.args.map V.str)) (fun i σ H' => H' = H2 ∧ ∃ o1 o2 o3 o4, σ = [some (.ref p), some (.ref d), o1, o2, o3, o4]) ⟨rfl, _, _, _, _, rfl⟩ (fun i σ H' _ h => by rw [h.1]; exact SqT.of hq3) ?_ ?_⟩
      · rintro j y σ H' _ hj ⟨rfl, o1, o2, o3, o4, rfl⟩ ⟨rfl, hy⟩
        obtain ⟨x, hx, rfl⟩ := strs_get hy
        exact ⟨_, rfl, _, rfl, d, _, rfl, sd.get x, _, rfl, ifF (by rw [inD_some ((ok g hgm).2 x (List.mem_of_getElem? hx))]; rfl) ⟨rfl, _, _, _, _, rfl⟩⟩
      · rintro σ H' ⟨rfl, o1, o2, o3, o4, rfl⟩
        exact ⟨rfl, _, _, _, _, rfl⟩
    · rintro σ H' ⟨rfl, o1, o2, o3, o4, rfl⟩
      exact k _ (Same.refl _)
/-! ### reg_fault -/
theorem sc_reg_fault : FnScope ["regs", "known", "wire", "first", "source"] ["regs", "known"] (defScope (top 20)) :=
  ⟨rfl, rfl, rfl, by decide +kernel, rfl, by decide +kernel, by decide +kernel⟩
def spRegF : Sp := fun vs H Q _ => ∃ (rs : List Reg) (decl : List Str) (v : V) (d : Addr) (m : Nat), vs = [v, .ref d] ∧ Rep H (regsD rs) v ∧ SD H d m (inD decl) ∧ (∀ r ∈ rs, r.src ∈ decl) ∧ rs.length ≤ 300 ∧ ∀ H', Same H H' → Q .non H'
theorem cal_reg_fault (F : Df K mg "reg_fault" "reg_fault" 20) (B : Bl mg) (C_is_bit : Cal P w K mg base CX0 1 "is_bit" ["number"] spIsBit) : Cal P w K mg base CX0 2 "reg_fault" ["regs", "known"] spRegF := by
  refine F.cal sc_reg_fault (fun vs H Q E h => ?_) (fun _ _ _ _ _ _ us hl => match us, hl with | [_, _], _ => rfl) (fun f cdv A outer s H vs Q E hr h => ?_)
  · obtain ⟨gs, decl, x, d, m, rfl, _⟩ := h
    rfl
  · obtain ⟨gs, decl, v, d, m, rfl, rv, sd, ok, hz, k⟩ := h
    refine ⟨_, (pss_cons (ps_for PassesOwn.never rfl (pi_tup (pv 0)) (pg_tup rfl (pgs_cons (pg_name (i := 2) sc_reg_fault.nd rfl (Or.inl rfl)) (pgs_cons (pg_name (i := 3) sc_reg_fault.nd rfl (Or.inl rfl)) (pgs_cons (pg_name (i := 4) sc_reg_fault.nd rfl (Or.inl rfl)) pgs_nil))))
        (pss_cons (ps_if (pt_not (pt_val (pe_callC C_is_bit (hr.mono (by decide)) rfl pass0 (pa_cons (pv 3) pa_nil))))
          pss_never
          pss_nil)
        (pss_one (ps_if (pt_cmp (pc_dnotin (hu_of hr) (pv 4) (pv 1)))
          pss_never
          pss_nil))))
      (pss_one (ps_ret pe_non))), ?_⟩
    obtain ⟨p, us, rfl, hp, ru⟩ := rv.eTup
    refine ⟨_, rfl, p, rfl, ⟨_, SqT.of hp⟩, for_it (walk_tup (xs := us)) (fun i σ H' => H' = H ∧ ∃ o1 o2 o3, σ = [some (.ref p), some (.ref d), o1, o2, o3]) ⟨rfl, _, _, _, rfl⟩ (fun i σ H' _ h => by rw [h.1]; exact SqT.of hp) ?_ ?_⟩
    · rintro i y σ H' H2 hi ⟨rfl, o1, o2, o3, rfl⟩ ⟨rfl, hy⟩
      obtain ⟨g, hg, rg⟩ := ru.at hy
      have hgm := List.mem_of_getElem? hg
      obtain ⟨q, x1, x2, x3, rfl, hq, r1, r2, r3⟩ := rg.t3
      rw [r1.eStr, r2.eInt, r3.eStr] at hq
      refine ⟨q, _, rfl, SqT.of hq, rfl, _, _, rfl, _, _, rfl, _, _, rfl, rfl, ?_⟩
      refine ⟨_, rfl, g.fi, rfl, _, rfl, ifF rfl ?_⟩
      exact ⟨_, rfl, _, rfl, d, _, rfl, sd.get g.src, _, rfl, ifF (by rw [inD_some (ok g hgm)]; rfl) ⟨rfl, _, _, _, rfl⟩⟩
    · rintro σ H' ⟨rfl, o1, o2, o3, rfl⟩
      exact k _ (Same.refl _)
/-! ### output_fault -/
theorem sc_output_fault : FnScope ["outputs", "known", "earlier", "output"] ["outputs", "known"] (defScope (top 21)) :=
  ⟨rfl, rfl, rfl, by decide +kernel, rfl, by decide +kernel, by decide +kernel⟩
def spOutF : Sp := fun vs H Q _ => ∃ (os : List Str) (decl : List Str) (v : V) (d : Addr) (m : Nat), vs = [v, .ref d] ∧ Rep H (strsD os) v ∧ SD H d m (inD decl) ∧ (∀ o ∈ os, o ∈ decl) ∧ os.Nodup ∧ os.length ≤ 300 ∧ ∀ H', Same H H' → Q .non H'
theorem cal_output_fault (F : Df K mg "output_fault" "output_fault" 21) (B : Bl mg) : Cal P w K mg base CX0 1 "output_fault" ["outputs", "known"] spOutF := by
  refine F.cal sc_output_fault (fun vs H Q E h => ?_) (fun _ _ _ _ _ _ us hl => match us, hl with | [_, _], _ => rfl) (fun f cdv A outer s H vs Q E hr h => ?_)
  · obtain ⟨gs, decl, x, d, m, rfl, _⟩ := h
    rfl
  · obtain ⟨l, decl, v, d, m, rfl, rv, sd, ok, nd, hz, k⟩ := h
    refine ⟨_, (pss_cons (ps_set (i := 2) sc_output_fault.nd rfl (Or.inl rfl) pe_dnewK)
      (pss_cons (ps_for PassesOwn.never rfl (pi_tup (pv 0)) (pg_name (i := 3) sc_output_fault.nd rfl (Or.inl rfl))
        (pss_cons (ps_if (pt_cmp (pc_dnotin (hu_of hr) (pv 3) (pv 1)))
          pss_never
          pss_nil)
        (pss_cons (ps_if (pt_cmp (pc_din (hu_of hr) (pv 3) (pv 2)))
          pss_never
          pss_nil)
        (pss_one (ps_dput (hu_of hr) (pv 2) (pv 3) pe_bl rfl)))))
      (pss_one (ps_ret pe_non)))), ?_⟩
    obtain ⟨p, rfl, hp⟩ := rv.strs
    intro e he
    refine ⟨_, rfl, p, rfl, ⟨_, SqT.of (Same.new he _ _ hp)⟩, for_it (walk_tup (xs := l.map V.str)) (fun i σ H' => Same H H' ∧ SD H' e i (inD (l.take i)) ∧ ∃ o', σ = [some (.ref p), some (.ref d), some (.ref e), o']) ⟨Same.new he, SD.new.imp fun x => (inD_none (by simp)).symm, _, rfl⟩ (fun i σ H' _ h => SqT.of (h.1 _ _ hp)) ?_ ?_⟩
    · rintro i y σ H' H2 hi ⟨e1, sd1, o', rfl⟩ ⟨rfl, hy⟩
      obtain ⟨x, hx, rfl⟩ := strs_get hy
      rw [List.length_map] at hi
      refine ⟨_, rfl, _, rfl, d, _, rfl, (sd.same e1).get x, _, rfl, ifF (by rw [inD_some (ok x (List.mem_of_getElem? hx))]; rfl) ?_⟩
      refine ⟨_, rfl, _, rfl, e, _, rfl, sd1.get x, _, rfl, ifF (by rw [inD_none (nd_at nd hx)]; rfl) ?_⟩
      obtain ⟨kvs, _, h2, h3⟩ := sd1.put (by omega) x (.bl true)
      refine ⟨_, rfl, _, rfl, e, _, rfl, h2, e1.mut he, h3.imp fun y => ?_, _, rfl⟩
      rw [take_succ hx]
      exact inD_snoc _ _ _
    · rintro σ H' ⟨e, _, o', rfl⟩
      exact k _ e
/-! ### net_fault, check_net, wires -/
structure NOk (n : Net) : Prop where
  sd : Sound n
  sz : n.decl.length ≤ 300
  osz : n.outs.length ≤ 300
theorem NOk.gsz {n : Net} (h : NOk n) : n.gates.length ≤ 300 := by
  have := h.sz
  unfold Net.decl Net.gw at this
  simp only [List.length_append, List.length_map] at this
  omega
theorem NOk.rsz {n : Net} (h : NOk n) : n.regs.length ≤ 300 := by
  have := h.sz
  unfold Net.decl Net.rw at this
  simp only [List.length_append, List.length_map] at this
  omega
theorem NOk.isz {n : Net} (h : NOk n) : n.ins.length ≤ 300 := by
  have := h.sz
  unfold Net.decl at this
  simp only [List.length_append] at this
  omega
theorem sc_net_fault : FnScope ["net", "inputs", "gates", "regs", "outputs", "listed", "fault", "known", "wire"] ["net"] (defScope (top 22)) :=
  ⟨rfl, rfl, rfl, by decide +kernel, rfl, by decide +kernel, by decide +kernel⟩
def spNet (r : Hp → VK → Prop) : Sp := fun vs H Q _ => ∃ (n : Net) (v : V), vs = [v] ∧ Rep H n.d v ∧ NOk n ∧ r H Q
def rNon : Hp → VK → Prop := fun H Q => ∀ H', Same H H' → Q .non H'
theorem cal_net_fault (F : Df K mg "net_fault" "net_fault" 22) (B : Bl mg) (C_listed_wires : Cal P w K mg base CX0 1 "listed_wires" ["net"] spListed) (C_declared_fault : Cal P w K mg base CX0 3 "declared_fault" ["listed"] spDecl)
    (C_gate_fault : Cal P w K mg base CX0 1 "gate_fault" ["gates", "known"] spGateF) (C_reg_fault : Cal P w K mg base CX0 2 "reg_fault" ["regs", "known"] spRegF) (C_output_fault : Cal P w K mg base CX0 1 "output_fault" ["outputs", "known"] spOutF) :
    Cal P w K mg base CX0 4 "net_fault" ["net"] (spNet rNon) := by
  refine F.cal sc_net_fault (fun vs H Q E h => ?_) (fun _ _ _ _ _ _ us hl => match us, hl with | [_], _ => rfl) (fun f cdv A outer s H vs Q E hr h => ?_)
  · obtain ⟨n, x, rfl, _⟩ := h
    rfl
  · obtain ⟨n, v, rfl, rv, hn, k⟩ := h
    refine ⟨_, (pss_cons (ps_asg (pv 0) (pg_tup rfl (pgs_cons (pg_name (i := 1) sc_net_fault.nd rfl (Or.inl rfl)) (pgs_cons (pg_name (i := 2) sc_net_fault.nd rfl (Or.inl rfl)) (pgs_cons (pg_name (i := 3) sc_net_fault.nd rfl (Or.inl rfl)) (pgs_cons (pg_name (i := 4) sc_net_fault.nd rfl (Or.inl rfl)) pgs_nil))))))
      (pss_cons (ps_set (i := 5) sc_net_fault.nd rfl (Or.inl rfl) (pe_callC C_listed_wires (hr.mono (by decide)) rfl pass0 (pa_cons (pv 0) pa_nil)))
      (pss_cons (ps_set (i := 6) sc_net_fault.nd rfl (Or.inl rfl) (pe_callC C_declared_fault (hr.mono (by decide)) rfl pass0 (pa_cons (pv 5) pa_nil)))
      (pss_cons (ps_if (pt_cmpR op_notN (pv 6) pe_non (nomark _))
        pss_never
        pss_nil)
      (pss_cons (ps_setDc (i := 7) (own := [("wire", 8)]) rfl sc_net_fault.nd rfl rfl (sw_trueD rfl rfl rfl (by decide +kernel)) (pi_tup (pv 5)) (blkOk_by (N := ["net", "inputs", "gates", "regs", "outputs", "listed", "fault", "known", "wire"]) (sc := defScope (top 22)) (own := [("wire", 8)]) (by decide +kernel)) (fun _ _ _ _ _ => (pg_name (i := 8) sc_net_fault.nd rfl (Or.inl rfl))) (fun _ _ _ _ _ => pts_nil) (fun _ _ _ _ _ => (pv 8)) (fun _ _ _ _ _ => pe_bl))
      (pss_cons (ps_set (i := 6) sc_net_fault.nd rfl (Or.inl rfl) (pe_callC C_gate_fault (hr.mono (by decide)) rfl pass0 (pa_cons (pv 2) (pa_cons (pv 7) pa_nil))))
      (pss_cons (ps_if (pt_cmpR op_notN (pv 6) pe_non (nomark _))
        pss_never
        pss_nil)
      (pss_cons (ps_set (i := 6) sc_net_fault.nd rfl (Or.inl rfl) (pe_callC C_reg_fault (hr.mono (by decide)) rfl pass0 (pa_cons (pv 3) (pa_cons (pv 7) pa_nil))))
      (pss_cons (ps_if (pt_cmpR op_notN (pv 6) pe_non (nomark _))
        pss_never
        pss_nil)
      (pss_one (ps_ret (pe_callC C_output_fault (hr.mono (by decide)) rfl pass0 (pa_cons (pv 4) (pa_cons (pv 7) pa_nil)))))))))))))), ?_⟩
    obtain ⟨p, v1, v2, v3, v4, rfl, hp, r1, r2, r3, r4⟩ := rv.t4
    refine ⟨_, rfl, p, _, rfl, SqT.of hp, rfl, _, _, rfl, _, _, rfl, _, _, rfl, _, _, rfl, rfl, ?_⟩
    refine ⟨_, rfl, n, _, rfl, rv, hn.sz, fun vl H1 e1 rl => ?_⟩
    refine ⟨_, rfl, n.decl, _, rfl, rl, hn.sz, hn.sd.nd, hn.sd.wire, fun H2 e2 => ?_⟩
    have e12 := e1.trans e2
    refine ⟨_, rfl, rfl, _, rfl, ifF rfl ?_⟩
    obtain ⟨pl, rfl, hpl⟩ := (rl.ex e2).strs
    refine ⟨_, rfl, pl, rfl, ⟨_, SqT.of hpl⟩, fun d hd => ?_⟩
    refine dc_in (walk_tup (xs := n.decl.map V.str)) (by rw [List.length_map]) (by rw [List.length_map]; exact Nat.le_trans hn.sz (by decide)) hd (fun H3 e3 => SqT.of (e3 _ _ hpl)) (fun i x H3 Q' _ q => ⟨rfl, _, rfl, q⟩) fun H3 e3 sd => ?_
    have e13 := e12.trans e3
    refine ⟨_, rfl, _, rfl, n.gates, n.decl, _, d, _, rfl, r2.ex e13, sd, fun g hg => ⟨hn.sd.ar g hg, hn.sd.args g hg⟩, hn.gsz, fun H4 e4 => ?_⟩
    refine ⟨_, rfl, rfl, _, rfl, ifF rfl ?_⟩
    have e14 := e13.trans e4
    refine ⟨_, rfl, _, rfl, n.regs, n.decl, _, d, _, rfl, r3.ex e14, sd.same e4, hn.sd.src, hn.rsz, fun H5 e5 => ?_⟩
    refine ⟨_, rfl, rfl, _, rfl, ifF rfl ?_⟩
    have e15 := e14.trans e5
    refine ⟨_, rfl, _, rfl, n.outs, n.decl, _, d, _, rfl, r4.ex e15, (sd.same e4).same e5, hn.sd.outs, hn.sd.ond, hn.osz, fun H6 e6 => k _ (e15.trans e6)⟩
theorem sc_check_net : FnScope ["net", "fault"] ["net"] (defScope (top 23)) :=
  ⟨rfl, rfl, rfl, by decide +kernel, rfl, by decide +kernel, by decide +kernel⟩
theorem cal_check_net (F : Df K mg "check_net" "check_net" 23) (B : Bl mg) (C_net_fault : Cal P w K mg base CX0 4 "net_fault" ["net"] (spNet rNon)) : Cal P w K mg base CX0 5 "check_net" ["net"] (spNet rNon) := by
  refine F.cal sc_check_net (fun vs H Q E h => ?_) (fun _ _ _ _ _ _ us hl => match us, hl with | [_], _ => rfl) (fun f cdv A outer s H vs Q E hr h => ?_)
  · obtain ⟨n, x, rfl, _⟩ := h
    rfl
  · obtain ⟨n, v, rfl, rv, hn, k⟩ := h
    refine ⟨_, (pss_cons (ps_set (i := 1) sc_check_net.nd rfl (Or.inl rfl) (pe_callC C_net_fault (hr.mono (by decide)) rfl pass0 (pa_cons (pv 0) pa_nil)))
      (pss_one (ps_if (pt_cmpR op_notN (pv 1) pe_non (nomark _))
        pss_never
        pss_nil))), ?_⟩
    exact ⟨_, rfl, n, _, rfl, rv, hn, fun H1 e1 => ⟨_, rfl, rfl, _, rfl, ifF rfl (k _ e1)⟩⟩
theorem sc_wires : FnScope ["net"] ["net"] (defScope (top 24)) :=
  ⟨rfl, rfl, rfl, by decide +kernel, rfl, by decide +kernel, by decide +kernel⟩
def rWires (n : Net) : Hp → VK → Prop := fun H Q => ∀ v' H', Same H H' → Rep H' (strsD n.decl) v' → Q v' H'
def spNetR (r : Net → Hp → VK → Prop) : Sp := fun vs H Q _ => ∃ (n : Net) (v : V), vs = [v] ∧ Rep H n.d v ∧ NOk n ∧ r n H Q
theorem cal_wires (F : Df K mg "wires" "wires" 24) (B : Bl mg) (C_check_net : Cal P w K mg base CX0 5 "check_net" ["net"] (spNet rNon)) (C_listed_wires : Cal P w K mg base CX0 1 "listed_wires" ["net"] spListed) : Cal P w K mg base CX0 6 "wires" ["net"] (spNetR rWires) := by
  refine F.cal sc_wires (fun vs H Q E h => ?_) (fun _ _ _ _ _ _ us hl => match us, hl with | [_], _ => rfl) (fun f cdv A outer s H vs Q E hr h => ?_)
  · obtain ⟨n, x, rfl, _⟩ := h
    rfl
  · obtain ⟨n, v, rfl, rv, hn, k⟩ := h
    refine ⟨_, (pss_cons (ps_expr (pe_callC C_check_net (hr.mono (by decide)) rfl pass0 (pa_cons (pv 0) pa_nil)))
      (pss_one (ps_ret (pe_callC C_listed_wires (hr.mono (by decide)) rfl pass0 (pa_cons (pv 0) pa_nil))))), ?_⟩
    exact ⟨_, rfl, n, _, rfl, rv, hn, fun H1 e1 => ⟨_, rfl, n, _, rfl, rv.ex e1, hn.sz, fun v' H2 e2 r2 => k _ _ (e1.trans e2) r2⟩⟩
end
end Wi
set_option maxHeartbeats 4000000
set_option maxRecDepth 100000
namespace Wi
open PySem L2 PySem.Spec PyProof.Rows
def Net.lnk (n : Net) (x : S) : List S := ((n.gate? x).map n.gargs).getD []
theorem lnk_of {n : Net} (h : Sound n) {g : Gate} (hg : g ∈ n.gates) : n.lnk g.w = n.gargs g := by
  unfold Net.lnk
  rw [gate?_of h.gnd hg]; rfl
theorem gw_at {n : Net} {i : Nat} {g : Gate} (h : n.gates[i]? = some g) : n.gw[i]? = some g.w := by
  unfold Net.gw
  rw [List.getElem?_map, h]; rfl
/-- the gates' tuples -/
theorem gatesAt {H : Hp} {gs : List Gate} {us : List V} (r : RepL H (gs.map Gate.d) us) {i : Nat} {y : V} (h : us[i]? = some y) : ∃ g q q3, gs[i]? = some g ∧ y = .ref q ∧ H q = some (.tup [.str g.w, .str g.op.s, .ref q3]) ∧ H q3 = some (.tup (g.args.map V.str)) := by
  obtain ⟨g, hg, rg⟩ := r.at h
  obtain ⟨q, x1, x2, x3, rfl, hq, r1, r2, r3⟩ := rg.t3
  rw [r1.eStr, r2.eStr] at hq
  obtain ⟨q3, rfl, hq3⟩ := r3.strs
  exact ⟨g, q, q3, hg, rfl, hq, hq3⟩
/-- who leads from the texts xs to z -/
def backF (F : S → List S) (xs : List S) (z : S) : List S := xs.flatMap fun x => (F x).filterMap fun a => if a = z then some x else none
theorem backF_snoc (F : S → List S) (xs : List S) (x z : S) : backF F (xs ++ [x]) z = backF F xs z ++ (F x).filterMap (fun a => if a = z then some x else none) := by
  unfold backF
  rw [List.flatMap_append]; simp
theorem backF_len (F : S → List S) (z : S) : ∀ (xs : List S), (∀ x ∈ xs, (F x).length ≤ 3) → (backF F xs z).length ≤ 3 * xs.length
  | [], _ => by simp [backF]
  | x :: xs, h => by
    have h1 := backF_len F z xs fun y hy => h y (List.mem_cons_of_mem _ hy)
    have h2 := h x (List.mem_cons_self ..)
    have h3 := List.length_filterMap_le (fun a => if a = z then some x else none) (F x)
    unfold backF at h1 ⊢
    rw [List.flatMap_cons, List.length_append, List.length_cons]
    omega
theorem backF_users {n : Net} (h : Sound n) (z : S) : backF n.lnk n.gw z = n.usersOf z := by
  unfold backF Net.gw Net.usersOf
  rw [List.flatMap_map]
  have : ∀ l : List Gate, (∀ g ∈ l, g ∈ n.gates) → (l.flatMap fun g => (n.lnk g.w).filterMap fun a => if a = z then some g.w else none) = l.flatMap fun g => (n.gargs g).filterMap fun a => if a = z then some g.w else none := by
    intro l
    induction l with
    | nil => intro _; rfl
    | cons g l ih =>
      intro hl
      rw [List.flatMap_cons, List.flatMap_cons, lnk_of h (hl g (List.mem_cons_self ..)), ih fun d hd => hl d (List.mem_cons_of_mem _ hd)]
  exact this n.gates fun _ q => q
theorem nodup_le : ∀ {l m : List S}, l.Nodup → (∀ x ∈ l, x ∈ m) → l.length ≤ m.length
  | [], _, _, _ => Nat.zero_le _
  | x :: l, m, nd, h => by
    obtain ⟨n1, n2⟩ := List.nodup_cons.mp nd
    have hx := h x (List.mem_cons_self ..)
    have h1 := nodup_le (m := m.erase x) n2 fun y hy => (List.mem_erase_of_ne (fun e : y = x => n1 (e ▸ hy))).mpr (h y (List.mem_cons_of_mem _ hy))
    rw [List.length_erase_of_mem hx] at h1
    have := List.length_pos_of_mem hx
    rw [List.length_cons]
    omega
structure LkOk (xs : List S) (F : S → List S) : Prop where
  nd : xs.Nodup
  cl : ∀ x ∈ xs, ∀ a ∈ F x, a ∈ xs
  f3 : ∀ x ∈ xs, (F x).length ≤ 3
  sz : xs.length ≤ 300
theorem lnk_ok {n : Net} (h : NOk n) : LkOk n.gw n.lnk := by
  refine ⟨h.sd.gnd, fun x hx a ha => ?_, fun x hx => ?_, by unfold Net.gw; rw [List.length_map]; exact h.gsz⟩
  · obtain ⟨g, hg, rfl⟩ := List.mem_map.mp hx
    rw [lnk_of h.sd hg] at ha
    exact of_decide_eq_true (List.mem_filter.mp ha).2
  · obtain ⟨g, hg, rfl⟩ := List.mem_map.mp hx
    rw [lnk_of h.sd hg]
    have h1 := List.length_filter_le (fun a => decide (a ∈ n.gw)) g.args
    have h2 := h.sd.ar g hg
    have h3 := ar_le g.op
    unfold Net.gargs
    omega
theorem users_len {n : Net} (h : NOk n) (z : S) : (n.usersOf z).length ≤ 900 := by
  rw [← backF_users h.sd]
  have ok := lnk_ok h
  have h1 := backF_len n.lnk z n.gw ok.f3
  have h2 := ok.sz
  omega
section
variable {P : Program} {w : World} {K : PySem.W.Frag} {mg : Str → Option Value} {base : Heap}
theorem sc_gate_links : FnScope ["net", "known", "gate", "arg"] ["net"] (defScope (top 46)) :=
  ⟨rfl, rfl, rfl, by decide +kernel, rfl, by decide +kernel, by decide +kernel⟩
def rLinks (n : Net) : Hp → VK → Prop := fun H Q => ∀ d H', Same H H' → LK H' d n.gw n.lnk → Q (.ref d) H'
theorem cal_gate_links (F : Df K mg "gate_links" "gate_links" 46) (B : Bl mg) : Cal P w K mg base CX0 1 "gate_links" ["net"] (spNetR rLinks) := by
  refine F.cal sc_gate_links (fun vs H Q E h => ?_) (fun _ _ _ _ _ _ us hl => match us, hl with | [_], _ => rfl) (fun f cdv A outer s H vs Q E hr h => ?_)
  · obtain ⟨n, x, rfl, _⟩ := h
    rfl
  · obtain ⟨n, v, rfl, rv, hn, k⟩ := h
    refine ⟨_, (pss_cons (ps_set (i := 1) sc_gate_links.nd rfl (Or.inr rfl) (pe_dc (own := [("gate", 2)]) rfl sc_gate_links.nd (pi_tup (pe_ix (r := rIxT K) ix_tup (pv 0) pe_int (fun _ _ => rfl))) (blkOk_by (N := ["net", "known", "gate", "arg"]) (sc := defScope (top 46)) (own := [("gate", 2)]) (by decide +kernel)) (fun _ _ _ _ _ => (pg_name (i := 2) sc_gate_links.nd rfl (Or.inl rfl))) (fun _ _ _ _ _ => pts_nil) (fun _ _ _ _ _ => (pe_ix (r := rIxT K) ix_tup (pv 2) pe_int (fun _ _ => rfl))) (fun _ _ _ _ _ => pe_bl)))
      (pss_one (ps_ret (pe_dc (own := [("gate", 2)]) rfl sc_gate_links.nd (pi_tup (pe_ix (r := rIxT K) ix_tup (pv 0) pe_int (fun _ _ => rfl))) (blkOk_by (N := ["net", "known", "gate", "arg"]) (sc := defScope (top 46)) (own := [("gate", 2)]) (by decide +kernel)) (fun _ _ _ _ _ => (pg_name (i := 2) sc_gate_links.nd rfl (Or.inl rfl))) (fun _ _ _ _ _ => pts_nil) (fun _ _ _ _ _ => (pe_ix (r := rIxT K) ix_tup (pv 2) pe_int (fun _ _ => rfl))) (fun _ _ _ _ _ => (pe_lc (own := [("arg", 3)]) rfl sc_gate_links.nd (pi_tupK (K := K) rfl (pe_ix (r := rIxT K) ix_tup (pv 2) pe_int (fun _ _ => rfl))) (blkOk_by (N := ["net", "known", "gate", "arg"]) (own := [("arg", 3)]) (by rfl)) (fun _ _ _ _ _ => (pg_name (i := 3) sc_gate_links.nd rfl (Or.inl rfl))) (fun _ _ _ _ _ => (pts_one (pt_cmp (pc_din (hu_of hr) (pv 3) (pv 1))))) (fun _ _ _ _ _ => (pv 3)))))))), ?_⟩
    obtain ⟨p, v1, v2, v3, v4, rfl, hp, r1, r2, r3, r4⟩ := rv.t4
    obtain ⟨p2, us, rfl, h2, ru⟩ := r2.eTup
    have lu := ru.len
    rw [List.length_map] at lu
    have hgz := hn.gsz
    refine ⟨_, rfl, p, _, _, _, rfl, rfl, SqT.of hp, rfl, p2, rfl, ⟨_, SqT.of h2⟩, fun dk hdk => ?_⟩
    refine dc_it (walk_tup (xs := us)) (tt := tYes) (fun i H' => Same H H' ∧ SD H' dk i (inD (n.gw.take i))) ⟨(Same.refl H).mut hdk, SD.new.imp fun x => (inD_none (by simp)).symm⟩ (fun i H' _ h => SqT.of (h.1 _ _ h2)) ?_ ?_
    · rintro i x _ H1 hi ⟨e, sd⟩ ⟨rfl, hx⟩
      obtain ⟨g, q, q3, hg, rfl, hq, hq3⟩ := gatesAt ru hx
      obtain ⟨kvs, h1, h2', h3⟩ := sd.put (by omega) g.w (.bl true)
      have hlen : kvs.length < sizeLine := by
        obtain ⟨kvs', q1, q2, _⟩ := sd.ex
        rw [h1] at q1
        cases q1
        exact sz5' (by omega)
      refine ⟨rfl, _, rfl, q, _, _, _, rfl, rfl, SqT.of (e _ _ hq), rfl, kvs, Sum.inr g.w, rfl, h1, hlen, e.mut hdk, h3.imp fun y => ?_⟩
      rw [take_succ (gw_at hg)]
      exact inD_snoc _ _ _
    · rintro H1 ⟨e1, sd⟩
      rw [← lu, show n.gates.length = n.gw.length from (List.length_map ..).symm, List.take_length] at sd
      refine ⟨_, rfl, p, _, _, _, rfl, rfl, SqT.of (e1 _ _ hp), rfl, p2, rfl, ⟨_, SqT.of (e1 _ _ h2)⟩, fun dl hdl => ?_⟩
      refine dc_it (walk_tup (xs := us)) (tt := tYes) (fun i H' => Same H1 H' ∧ ∃ ls, H' dl = some (.dK (kvl (n.gw.take i) ls)) ∧ LKv H' (n.gw.take i) ls n.lnk) ⟨(Same.refl H1).mut hdl, [], upd_same, rfl, List.nodup_nil, fun i x l a b => by simp at b⟩ (fun i H' _ h => SqT.of (h.1 _ _ (e1 _ _ h2))) ?_ ?_
      · rintro i x _ H2 hi ⟨e, ls, hd, lk⟩ ⟨rfl, hx⟩
        obtain ⟨g, q, q3, hg, rfl, hq, hq3⟩ := gatesAt ru hx
        have hgm := List.mem_of_getElem? hg
        have e2 := e1.trans e
        have har : g.args.length ≤ 3 := by rw [hn.sd.ar g hgm]; exact ar_le _
        refine ⟨rfl, _, rfl, q, _, _, _, rfl, rfl, SqT.of (e2 _ _ hq), rfl, _, rfl, q, _, _, _, rfl, rfl, SqT.of (e2 _ _ hq), rfl, q3, rfl, ⟨_, SqT.of (e2 _ _ hq3)⟩, fun l hl => ?_⟩
        refine lc_filt (walk_tup (xs := g.args.map V.str)) (fun a => decide (a ∈ n.gw)) (by rw [List.length_map]) (by rw [List.length_map]; omega) hl (fun H3 e3 => SqT.of ((e2.trans e3) _ _ hq3)) (fun _ => rfl) ?_ (fun x H Qe q => ⟨_, rfl, q⟩) ?_
        · intro j y H3 Qb hy e3 q
          refine ⟨_, rfl, _, rfl, dk, _, rfl, ((sd.same e).same e3).get y, _, rfl, ?_⟩
          have : (inD n.gw y).isSome = decide (y ∈ n.gw) := by
            unfold inD
            by_cases h : y ∈ n.gw <;> simp [h]
          rw [this]
          exact q
        · intro H3 e3 hl3
          have hne : dl ≠ l := fun z => by rw [z] at hd; rw [hl] at hd; cases hd
          have nw : g.w ∉ n.gw.take i := nd_at hn.sd.gnd (gw_at hg)
          refine ⟨_, Sum.inr g.w, rfl, e3 _ _ hd, ?_, (e.trans e3).mut hdl, ls ++ [l], ?_, ?_⟩
          · rw [kvl_len lk.len, List.length_take]
            exact sz5' (by omega)
          · rw [upd_same, putK_new _ (kvl_none nw), take_succ (gw_at hg), kvl_snoc _ _ lk.len]
          · rw [take_succ (gw_at hg)]
            have hdl' : H2 dl ≠ none := by rw [hd]; exact fun z => nomatch z
            have lk3 := (lk.snoc e3 (x := g.w) (l := l) hl (by rw [hl3, lnk_of hn.sd hgm]; rfl))
            refine ⟨lk3.len, lk3.nd, fun j y m a b => ?_⟩
            have := lk3.at_ j y m a b
            have hm : m ≠ dl := fun z => by rw [z, e3 _ _ hd] at this; cases this
            rw [upd_ne hm]
            exact this
      · rintro H2 ⟨e2, ls, hd, lk⟩
        rw [← lu, show n.gates.length = n.gw.length from (List.length_map ..).symm, List.take_length] at hd lk
        exact k _ _ (e1.trans e2) ⟨ls, hd, lk⟩
theorem sc_turned_links : FnScope ["links", "back", "wire", "args", "arg"] ["links"] (defScope (top 47)) :=
  ⟨rfl, rfl, rfl, by decide +kernel, rfl, by decide +kernel, by decide +kernel⟩
def spTurned : Sp := fun vs H Q _ => ∃ (d : Addr) (xs : List S) (F : S → List S), vs = [.ref d] ∧ LK H d xs F ∧ LkOk xs F ∧ ∀ b H', Same H H' → H b = none → LK H' b xs (backF F xs) → Q (.ref b) H'
theorem cal_turned_links (F : Df K mg "turned_links" "turned_links" 47) (B : Bl mg) : Cal P w K mg base CX0 1 "turned_links" ["links"] spTurned := by
  refine F.cal sc_turned_links (fun vs H Q E h => ?_) (fun _ _ _ _ _ _ us hl => match us, hl with | [_], _ => rfl) (fun f cdv A outer s H vs Q E hr h => ?_)
  · obtain ⟨n, _, x, rfl, _⟩ := h
    rfl
  · obtain ⟨d, xs, lf, rfl, ⟨lsL, hd, lkL⟩, ok, k⟩ := h
    refine ⟨_, (pss_cons (ps_lock (ps_setDc (i := 1) (own := [("wire", 2)]) rfl sc_turned_links.nd rfl rfl (sw_trueD rfl rfl rfl (by decide +kernel)) (pi_keys (pv 0)) (blkOk_by (N := ["links", "back", "wire", "args", "arg"]) (sc := defScope (top 47)) (own := [("wire", 2)]) (by decide +kernel)) (fun _ _ _ _ _ => (pg_name (i := 2) sc_turned_links.nd rfl (Or.inl rfl))) (fun _ _ _ _ _ => pts_nil) (fun _ _ _ _ _ => (pv 2)) (fun _ _ _ _ _ => (pe_lst pa_nil))))
      (pss_cons (ps_lock (ps_for PassesOwn.never rfl (pi_items (pv 0)) (pg_tup rfl (pgs_cons (pg_name (i := 2) sc_turned_links.nd rfl (Or.inl rfl)) (pgs_cons (pg_name (i := 3) sc_turned_links.nd rfl (Or.inl rfl)) pgs_nil)))
        (pss_one (ps_for PassesOwn.never rfl (pi_list (pv 3)) (pg_name (i := 4) sc_turned_links.nd rfl (Or.inl rfl))
          (pss_one (ps_expr (pe_bm PySem.F.plainAttrs_list PySem.F.slot_list_append PySem.F.type_list_append mt_append (pe_dget (hu_of hr) (pv 1) (pv 4) (fun _ _ => rfl)) (pa_cons (pv 2) pa_nil))))))))
      (pss_one (ps_ret (pv 1))))), ?_⟩
    have hsz := ok.sz
    refine ⟨d, _, hd, trivial, fun od => ⟨_, rfl, d, od, rfl, .inl ⟨_, upd_same, fun D hD => ?_⟩⟩⟩
    have hDd : D ≠ d := fun z => by rw [z, upd_same] at hD; cases hD
    have hD0 : H D = none := by rw [upd_ne hDd] at hD; exact hD
    refine dc_it walk_keys (tt := tYes) (fun i H' => Same (upd H d (.frz od (.dK (kvl xs lsL)))) H' ∧ ∃ ls, H' D = some (.dK (kvl (xs.take i) ls)) ∧ LKv H' (xs.take i) ls (fun _ => []) ∧ ∀ l ∈ ls, H l = none) ⟨(Same.refl _).mut hD, [], upd_same, ⟨rfl, List.nodup_nil, fun i x l a b => by simp at b⟩, fun l hl => nomatch hl⟩ (fun i H' _ h => h.1 _ _ upd_same) ?_ ?_
    · rintro i x _ H2 hi ⟨e, ls, h1, lk, fr⟩ ⟨rfl, key, val, hk, rfl⟩
      rw [kvl_len lkL.len] at hi
      have hx : xs[i]? = some xs[i] := List.getElem?_eq_getElem hi
      have hl : lsL[i]? = some (lsL[i]'(by rw [lkL.len]; exact hi)) := List.getElem?_eq_getElem _
      rw [kvl_get hx hl] at hk
      cases hk
      refine ⟨rfl, _, rfl, by decide, fun l hl2 => ?_⟩
      have hne : D ≠ l := fun z => by rw [z] at h1; rw [hl2] at h1; cases h1
      have nw : xs[i] ∉ xs.take i := nd_at ok.nd hx
      have e3 : Same H2 (upd H2 l (.lst [])) := Same.new hl2
      refine ⟨_, Sum.inr xs[i], rfl, e3 _ _ h1, ?_, (e.trans e3).mut hD, ls ++ [l], ?_, ?_, ?_⟩
      · rw [kvl_len lk.len, List.length_take]
        exact sz5' (by omega)
      · rw [upd_same, putK_new _ (kvl_none nw), take_succ hx, kvl_snoc _ _ lk.len]
      · rw [take_succ hx]
        have lk3 := lk.snoc e3 (x := xs[i]) (l := l) hl2 upd_same
        refine ⟨lk3.len, lk3.nd, fun j y m a b => ?_⟩
        have := lk3.at_ j y m a b
        have hm : m ≠ D := fun z => by rw [z, e3 _ _ h1] at this; cases this
        rw [upd_ne hm]
        exact this
      · intro m hm
        rcases List.mem_append.mp hm with q | q
        · exact fr m q
        · rw [List.mem_singleton.mp q]
          have hld : l ≠ d := fun z => by rw [z, e _ _ upd_same] at hl2; cases hl2
          cases q2 : H l with
          | none => rfl
          | some o => rw [e l o (by rw [upd_ne hld]; exact q2)] at hl2; cases hl2
    · rintro H1 ⟨e1, ls, h1, lk, fr⟩
      rw [kvl_len lkL.len, List.take_length] at h1 lk
      obtain ⟨hfz, e1'⟩ := Same.unlock hd e1
      refine ⟨hfz, d, _, upd_same, trivial, fun od2 => ⟨_, rfl, d, od2, _, rfl, upd_same, ?_⟩⟩
      have hd2 : ∀ l ∈ ls, l ≠ d := fun l hl z => by rw [z] at hl; rw [fr d hl] at hd; cases hd
      have hdD : D ≠ d := hDd
      have hlD : ∀ l ∈ ls, l ≠ D := fun l hl z => by
        obtain ⟨i, hi, e⟩ := List.getElem_of_mem hl
        have := lk.at_ i _ l (List.getElem?_eq_getElem (by rw [← lk.len]; exact hi)) (by rw [List.getElem?_eq_getElem hi, e])
        rw [z, h1] at this
        cases this
      have e2 : Same (upd H d (.frz od2 (.dK (kvl xs lsL)))) (upd (upd H1 d (.dK (kvl xs lsL))) d (.frz od2 (.dK (kvl xs lsL)))) := e1'.updBoth
      refine for_it walk_items (fun i σ H' => Same (upd H d (.frz od2 (.dK (kvl xs lsL)))) H' ∧ H' D = some (.dK (kvl xs ls)) ∧ LKv H' xs ls (backF lf (xs.take i)) ∧ ∃ o1 o2 o3, σ = [some (.ref d), some (.ref D), o1, o2, o3]) ⟨e2, ?_, ?_, _, _, _, rfl⟩ (fun i σ H' _ h => h.1 _ _ upd_same) ?_ ?_
      · rw [upd_ne hdD, upd_ne hdD]
        exact h1
      · refine ⟨lk.len, lk.nd, fun j y m a b => ?_⟩
        have hm := List.mem_of_getElem? b
        rw [upd_ne (hd2 m hm), upd_ne (hd2 m hm), lk.at_ j y m a b]
        rfl
      · rintro i x σ H2 H3 hi ⟨e3, hD3, lk3, o1, o2, o3, rfl⟩ ⟨T, kx, lx, rfl, hT, rfl, hkx, hlx⟩
        rw [kvl_len lkL.len] at hi
        have hx : xs[i]? = some xs[i] := List.getElem?_eq_getElem hi
        have hl : lsL[i]? = some (lsL[i]'(by rw [lkL.len]; exact hi)) := List.getElem?_eq_getElem _
        replace hkx : Option.map (fun kv => kV kv.fst) (kvl xs lsL)[i]? = some kx := hkx
        replace hlx : Option.map Prod.snd (kvl xs lsL)[i]? = some lx := hlx
        rw [kvl_get hx hl] at hkx hlx
        cases hkx
        cases hlx
        have hxm : xs[i] ∈ xs := List.getElem_mem hi
        have e4 := e3.trans (Same.new hT (o := .tup [kV (Sum.inr xs[i]), .ref (lsL[i]'(by rw [lkL.len]; exact hi))]))
        have hLd : (lsL[i]'(by rw [lkL.len]; exact hi)) ≠ d := fun z => by
          have := lkL.at_ i _ _ hx hl
          rw [z, hd] at this
          cases this
        have hLst : ∀ H', Same (upd H d (.frz od2 (.dK (kvl xs lsL)))) H' → H' (lsL[i]'(by rw [lkL.len]; exact hi)) = some (.lst ((lf xs[i]).map V.str)) := fun H' e => e _ _ (by rw [upd_ne hLd]; exact lkL.at_ i _ _ hx hl)
        refine ⟨T, _, rfl, SqT.of upd_same, rfl, _, _, rfl, _, _, rfl, rfl, ?_⟩
        refine ⟨_, rfl, _, rfl, ⟨_, SqL.of (hLst _ e4)⟩, ?_⟩
        refine for_it (walk_list (xs := (lf xs[i]).map V.str)) (fun j σ H' => Same (upd H d (.frz od2 (.dK (kvl xs lsL)))) H' ∧ H' D = some (.dK (kvl xs ls)) ∧ LKv H' xs ls (fun z => backF lf (xs.take i) z ++ ((lf xs[i]).take j).filterMap (fun a => if a = z then some xs[i] else none)) ∧ ∃ o3, σ = [some (.ref d), some (.ref D), some (.str xs[i]), some (.ref (lsL[i]'(by rw [lkL.len]; exact hi))), o3]) ⟨e4, ?_, ?_, _, rfl⟩ (fun j σ H' _ h => SqL.of (hLst _ h.1)) ?_ ?_
        · rw [upd_ne (fun z => by rw [z, hT] at hD3; cases hD3)]
          exact hD3
        · refine (lk3.same (Same.new hT)).imp fun z _ => ?_
          simp
        · rintro j y σ H4 _ hj ⟨e5, hD5, lk5, o3, rfl⟩ ⟨rfl, hy⟩
          obtain ⟨a, ha, rfl⟩ := strs_get hy
          have ham := ok.cl _ hxm a (List.mem_of_getElem? ha)
          obtain ⟨l, m, hm1, hm2, hv, hl5⟩ := lk5.get ok.nd ham
          have hlm := List.mem_of_getElem? hm2
          refine ⟨_, rfl, _, rfl, D, _, rfl, .inl ⟨_, Sum.inr a, Rd.of hD5, rfl, hv.symm⟩, .inl ⟨rfl, _, SqL.of hl5⟩, _, rfl, l, _, _, rfl, rfl, hl5, ?_, ?_⟩
          · have b1 := backF_len lf a (xs.take i) fun y hy => ok.f3 y (List.mem_of_mem_take hy)
            have b2 := List.length_filterMap_le (fun b => if b = a then some xs[i] else none) ((lf xs[i]).take j)
            have b3 := ok.f3 _ hxm
            rw [List.length_take] at b1 b2
            rw [List.length_map, List.length_append]
            exact sz5' (by omega)
          · have hfr : upd H d (.frz od2 (.dK (kvl xs lsL))) l = none := by rw [upd_ne (hd2 l hlm)]; exact fr l hlm
            rw [← List.map_singleton (f := V.str), ← List.map_append]
            refine ⟨e5.mut hfr, ?_, (lk5.put ok.nd hm1 hm2).imp fun z hz => ?_, _, rfl⟩
            · rw [upd_ne (Ne.symm (hlD l hlm))]
              exact hD5
            · rw [take_succ ha, List.filterMap_append]
              by_cases q : z = a
              · subst q
                simp
              · rw [if_neg q]
                simp [show ¬ a = z from fun e => q e.symm]
        · rintro σ H4 ⟨e5, hD5, lk5, o3, rfl⟩
          refine ⟨e5, hD5, lk5.imp fun z hz => ?_, _, _, _, rfl⟩
          rw [List.length_map, List.take_length, take_succ hx, backF_snoc]
      · rintro σ H2 ⟨e3, hD3, lk3, o1, o2, o3, rfl⟩
        rw [kvl_len lkL.len, List.take_length] at lk3
        obtain ⟨hz, e5⟩ := Same.unlock hd e3
        refine ⟨hz, _, rfl, k _ _ e5 hD0 ⟨ls, ?_, ⟨lk3.len, lk3.nd, fun j y m a b => ?_⟩⟩⟩
        · rw [upd_ne hdD]
          exact hD3
        · rw [upd_ne (hd2 m (List.mem_of_getElem? b))]
          exact lk3.at_ j y m a b
theorem sc_peeled : FnScope ["links", "waiting", "wire", "args", "back", "out", "at", "user"] ["links"] (defScope (top 48)) :=
  ⟨rfl, rfl, rfl, by decide +kernel, rfl, by decide +kernel, by decide +kernel⟩
def spPeeled : Sp := fun vs H Q _ => ∃ (d : Addr) (n : Net), vs = [.ref d] ∧ LK H d n.gw n.lnk ∧ NOk n ∧ ∀ l H' out, Same H H' → H' l = some (.lst (out.map V.str)) → IsOrder n out → Q (.ref l) H'
theorem cal_peeled (F : Df K mg "peeled" "peeled" 48) (B : Bl mg) (C_turned_links : Cal P w K mg base CX0 1 "turned_links" ["links"] spTurned) : Cal P w K mg base CX0 2 "peeled" ["links"] spPeeled := by
  refine F.cal sc_peeled (fun vs H Q E h => ?_) (fun _ _ _ _ _ _ us hl => match us, hl with | [_], _ => rfl) (fun f cdv A outer s H vs Q E hr h => ?_)
  · obtain ⟨_, x, rfl, _⟩ := h
    rfl
  · obtain ⟨d, n, rfl, lk, hn, k⟩ := h
    obtain ⟨lsL, hd, lkL⟩ := lk.ex
    have ok := lnk_ok hn
    refine ⟨_, (pss_cons (ps_set (i := 1) sc_peeled.nd rfl (Or.inr rfl) (pe_lock (pe_dc (own := [("wire", 2), ("args", 3)]) rfl sc_peeled.nd (pi_items (pv 0)) (blkOk_by (N := ["links", "waiting", "wire", "args", "back", "out", "at", "user"]) (sc := defScope (top 48)) (own := [("wire", 2), ("args", 3)]) (by decide +kernel)) (fun _ _ _ _ _ => (pg_tupK (n := 2) (K := K) rfl rfl (pgs_cons (pg_name (i := 2) sc_peeled.nd rfl (Or.inl rfl)) (pgs_cons (pg_name (i := 3) sc_peeled.nd rfl (Or.inl rfl)) pgs_nil)))) (fun _ _ _ _ _ => pts_nil) (fun _ _ _ _ _ => (pv 2)) (fun _ _ _ _ _ => (pe_callB (call_lenK (K := K) rfl) rfl B.len PySem.boot_len (pa_cons (pv 3) pa_nil))))))
      (pss_cons (ps_set (i := 4) sc_peeled.nd rfl (Or.inl rfl) (pe_callC C_turned_links (hr.mono (by decide)) rfl pass0 (pa_cons (pv 0) pa_nil)))
      (pss_cons (ps_lock (ps_setLc (i := 5) (own := [("wire", 2)]) rfl sc_peeled.nd rfl rfl (sw_true rfl rfl rfl (by decide +kernel)) (pi_keys (pv 0)) (blkOk_by (N := ["links", "waiting", "wire", "args", "back", "out", "at", "user"]) (sc := defScope (top 48)) (own := [("wire", 2)]) (by decide +kernel)) (fun _ _ _ _ _ => (pg_name (i := 2) sc_peeled.nd rfl (Or.inl rfl))) (fun _ _ _ _ _ => (pts_one (pt_cmpR op_eq (pe_dget (hu_of hr) (pv 1) (pv 2) (fun _ _ => rfl)) pe_int (nomark _)))) (fun _ _ _ _ _ => (pv 2))))
      (pss_cons (ps_set (i := 6) sc_peeled.nd rfl (Or.inl rfl) pe_int)
      (pss_cons (ps_while PassesOwn.never (pt_cmpR op_lt (pv 6) (pe_callB call_len_seq rfl B.len PySem.boot_len (pa_cons (pv 5) pa_nil)) (nomark _))
        (pss_cons (ps_for PassesOwn.never rfl (pi_list (pe_dget (hu_of hr) (pv 4) (pe_ix (r := rIxL K) ix_list (pv 5) (pv 6) (fun _ _ => rfl)) (fun _ _ => rfl))) (pg_name (i := 7) sc_peeled.nd rfl (Or.inl rfl))
          (pss_cons (ps_daug (hu_of hr) (pv 1) (pv 7) pe_int in_sub (fun _ _ _ => rfl))
          (pss_one (ps_if (pt_cmpR op_eq (pe_dget (hu_of hr) (pv 1) (pv 7) (fun _ _ => rfl)) pe_int (nomark _))
            (pss_one (ps_expr (pe_bm PySem.F.plainAttrs_list PySem.F.slot_list_append PySem.F.type_list_append mt_append (pv 5) (pa_cons (pv 7) pa_nil))))
            pss_nil))))
        (pss_one (ps_aug (i := 6) sc_peeled.nd rfl (Or.inl rfl) pe_int ip_add))))
      (pss_one (ps_ret (pv 5)))))))), ?_⟩
    have hsz := ok.sz
    have hgnd := hn.sd.gnd
    refine ⟨d, _, hd, trivial, fun od => ⟨_, rfl, d, od, _, rfl, upd_same, fun W hW => ?_⟩⟩
    have hWd : W ≠ d := fun z => by rw [z, upd_same] at hW; cases hW
    have hW0 : H W = none := by rw [upd_ne hWd] at hW; exact hW
    refine dc_it (walk_kvi lkL.len) (tt := tYes) (fun i H' => Same (upd H d (.frz od (.dK (kvl n.gw lsL)))) H' ∧ SD H' W i (wtD (n.gw.take i) fun x => ((n.lnk x).length : Int))) ⟨(Same.refl _).mut hW, SD.new.imp fun x => by unfold wtD; simp⟩ (fun i H' _ h => h.1 _ _ upd_same) ?_ ?_
    · rintro i x H2 H3 hi ⟨e, sd⟩ ⟨T, kx, lx, rfl, hT, rfl, hkx, hlx⟩
      have hx : n.gw[i]? = some n.gw[i] := List.getElem?_eq_getElem hi
      have hl : lsL[i]? = some (lsL[i]'(by rw [lkL.len]; exact hi)) := List.getElem?_eq_getElem _
      replace hkx : Option.map V.str n.gw[i]? = some kx := hkx
      replace hlx : Option.map V.ref lsL[i]? = some lx := hlx
      rw [hx] at hkx
      rw [hl] at hlx
      cases hkx
      cases hlx
      have hLd : (lsL[i]'(by rw [lkL.len]; exact hi)) ≠ d := fun z => by
        have := lkL.at_ i _ _ hx hl
        rw [z, hd] at this
        cases this
      have e4 := e.trans (Same.new hT (o := .tup [V.str n.gw[i], .ref (lsL[i]'(by rw [lkL.len]; exact hi))]))
      have sd4 := sd.same (Same.new hT (o := .tup [V.str n.gw[i], .ref (lsL[i]'(by rw [lkL.len]; exact hi))]))
      obtain ⟨kvs, h1, h2', h3⟩ := sd4.put (by omega) n.gw[i] (.int ((n.lnk n.gw[i]).length : Int))
      have hlen : kvs.length < sizeLine := by
        obtain ⟨kvs', q1, q2, _⟩ := sd4.ex
        rw [h1] at q1
        cases q1
        exact sz5' (by omega)
      refine ⟨T, _, rfl, SqT.of upd_same, rfl, _, _, rfl, _, _, rfl, rfl, rfl, _, rfl, _, rfl, _, _, rfl, .inl (SqL.of (e4 _ _ (by rw [upd_ne hLd]; exact lkL.at_ i _ _ hx hl))), kvs, Sum.inr n.gw[i], rfl, h1, hlen, e4.mut hW, ?_⟩
      rw [List.length_map]
      refine h3.imp fun y => ?_
      rw [take_succ hx]
      unfold wtD
      by_cases q : y = n.gw[i]
      · rw [if_pos q, if_pos (List.mem_append_right _ (by rw [q]; exact List.mem_singleton.mpr rfl)), q]
      · rw [if_neg q]
        simp only [List.mem_append, List.mem_singleton, q, or_false]
    · rintro H1 ⟨e1, sd1⟩
      rw [List.take_length] at sd1
      obtain ⟨hfz, e1'⟩ := Same.unlock hd e1
      refine ⟨hfz, _, rfl, d, n.gw, n.lnk, rfl, lk.same e1', ok, fun b H2 e2 hb lkb => ?_⟩
      have sdW : SD (upd H1 d (.dK (kvl n.gw lsL))) W n.gw.length (wtD n.gw fun x => ((n.lnk x).length : Int)) := sd1.at (upd_ne hWd)
      have sd2 := sdW.same e2
      have hbW : b ≠ W := fun z => by
        obtain ⟨kvs, h⟩ := sdW.dict
        rw [z, h] at hb
        cases hb
      have hd2 : H2 d = some (.dK (kvl n.gw lsL)) := e2 _ _ (e1' _ _ hd)
      have e02 : Same H H2 := e1'.trans e2
      refine ⟨d, _, hd2, trivial, fun od2 => ⟨_, rfl, d, od2, rfl, .inl ⟨_, upd_same, fun O hO => ?_⟩⟩⟩
      have hOd : O ≠ d := fun z => by rw [z, upd_same] at hO; cases hO
      have hO2 : H2 O = none := by rw [upd_ne hOd] at hO; exact hO
      refine lc_filt (walk_kvl lkL.len) (fun x => decide (((n.lnk x).length : Int) = 0)) rfl (by omega) hO (fun H' e => e _ _ upd_same) (fun _ => rfl) ?_ (fun x H Qe q => ⟨_, rfl, q⟩) ?_
      · intro i x H' Qb hx e q
        refine ⟨_, rfl, _, rfl, W, .int ((n.lnk x).length : Int), rfl, ?_, rfl, _, rfl, ?_⟩
        · have := (sd2.at (H' := upd H2 d (.frz od2 (.dK (kvl n.gw lsL)))) (upd_ne hWd)).same e
          have := this.get x
          rw [wtD_some (List.mem_of_getElem? hx)] at this
          exact this
        · rw [eq_int]
          exact q
      · intro H3 e3 hO3
        obtain ⟨hfz3, e3'⟩ := Same.unlock hd2 e3
        refine ⟨hfz3, ?_⟩
        have pst := peel_start hn.sd (wt := fun x => ((n.lnk x).length : Int)) fun g hg => by show ((n.lnk g.w).length : Int) = _; rw [lnk_of hn.sd hg]
        have lkw : LK (wo H2 W) b n.gw n.usersOf := by
          obtain ⟨ls, h1, h2⟩ := lkb.ex
          refine ⟨ls, by rw [wo_ne hbW]; exact h1, h2.len, h2.nd, fun i x l ha hb => ?_⟩
          have h3 := h2.at_ i x l ha hb
          rw [backF_users hn.sd] at h3
          have : l ≠ W := fun z => by
            obtain ⟨kvs, h⟩ := sd2.dict
            rw [z, h] at h3
            cases h3
          rw [wo_ne this]
          exact h3
        have hOW : O ≠ W := fun z => by
          obtain ⟨kvs, h⟩ := sd2.dict
          rw [z, h] at hO2
          cases hO2
        have hO2w : wo H2 W O = none := wo_none hO2
        refine ⟨fun m σ H' => ∃ (k : Nat) (out : List S) (wt : S → Int) (M : Nat) (o2 o3 o7 : Option V), m = n.gw.length - k ∧ σ = [some (.ref d), some (.ref W), o2, o3, some (.ref b), some (.ref O), some (.int (k : Nat)), o7] ∧ PeelInv n out k wt ∧ Same (wo H2 W) H' ∧ SD H' W n.gw.length (wtD n.gw wt) ∧ H' O = some (.lst (out.map V.str)), ⟨_, 0, _, _, 0, _, _, _, rfl, rfl, pst, (wo_same).trans e3', ?_, ?_⟩, ?_⟩
        · exact (sd2.same e3').mono (by omega)
        · rw [upd_ne hOd]
          exact hO3
        · rintro m σ H4 ⟨at_, out, wt, M, o2, o3, o7, rfl, rfl, pv_, e4, sd4, hO4⟩
          refine ⟨_, rfl, _, rfl, _, _, rfl, .inl (SqL.of hO4), _, _, rfl, rfl, _, rfl, ?_⟩
          have osub : out.length ≤ n.gw.length := by
            exact nodup_le pv_.nd pv_.sub
          refine if2 (fun hb => ?_) fun hb => ?_
          · have hlt : at_ < out.length := by
              have := of_decide_eq_true hb
              rw [List.length_map] at this
              omega
            have hx : out[at_]? = some out[at_] := List.getElem?_eq_getElem hlt
            have hxm : out[at_] ∈ n.gw := pv_.sub _ (List.getElem_mem hlt)
            obtain ⟨ls, hbk, lkv⟩ := lkw.ex
            obtain ⟨lu, iu, hu1, hu2, hval, hlu⟩ := lkv.get hgnd hxm
            have hb4 := e4 _ _ hbk
            refine ⟨fun σ' H' => ∃ (out' : List S) (wt : S → Int) (o2 o3 o7 : Option V), σ' = [some (.ref d), some (.ref W), o2, o3, some (.ref b), some (.ref O), some (.int ((at_ + 1 : Nat) : Int)), o7] ∧ PeelInv n out' (at_ + 1) wt ∧ Same (wo H2 W) H' ∧ SD H' W n.gw.length (wtD n.gw wt) ∧ H' O = some (.lst (out'.map V.str)), ?_, ?_⟩
            · rintro σ' H' ⟨out', wt', p2, p3, p7, rfl, q1, q2, q3, q4⟩
              exact ⟨n.gw.length - (at_ + 1), by omega, at_ + 1, out', wt', 0, p2, p3, p7, rfl, rfl, q1, q2, q3, q4⟩
            refine ⟨_, rfl, _, rfl, _, rfl, _, _, _, _, rfl, rfl, SqL.of hO4, atI_nat (by rw [List.getElem?_map, hx]; rfl), b, _, rfl, .inl ⟨_, Sum.inr out[at_], Rd.of hb4, rfl, hval.symm⟩, lu, rfl, ⟨_, SqL.of (e4 _ _ hlu)⟩, ?_⟩
            refine for_it (walk_list (xs := (n.usersOf out[at_]).map V.str)) (fun j σ' H' => ∃ (out' : List S) (wt : S → Int) (o2 o3 o7 : Option V), σ' = [some (.ref d), some (.ref W), o2, o3, some (.ref b), some (.ref O), some (.int ((at_ : Nat) : Int)), o7] ∧ PeelIn n out at_ out[at_] ((n.usersOf out[at_]).take j) ((n.usersOf out[at_]).drop j) out' wt ∧ Same (wo H2 W) H' ∧ SD H' W n.gw.length (wtD n.gw wt) ∧ H' O = some (.lst (out'.map V.str))) ⟨_, _, _, _, _, rfl, by rw [List.take_zero, List.drop_zero]; exact peelIn_start pv_, e4, sd4, hO4⟩ (fun j σ' H' _ h => by obtain ⟨_, _, _, _, _, _, _, q, _⟩ := h; exact SqL.of (q _ _ hlu)) ?_ ?_
            · rintro j y σ' _ H5 hj ⟨out', wt', p2, p3, p7, rfl, q1, q2, q3, q4⟩ ⟨rfl, hy⟩
              obtain ⟨u, hu, rfl⟩ := strs_get hy
              rw [List.length_map] at hj
              have hum : u ∈ n.gw := users_sub out[at_] u (List.mem_of_getElem? hu)
              have huL := users_len hn out[at_]
              obtain ⟨kvs, h1, h2, h3⟩ := q3.puto (by omega) u (.int (wt' u - 1)) (by rw [wtD_some hum]; rfl)
              have g3 := q3.get u
              rw [wtD_some hum] at g3
              refine ⟨_, rfl, _, rfl, W, _, rfl, g3, _, _, rfl, rfl, _, h2, ?_⟩
              have h4 := h3.imp fun x => wtD_put hum x
              have g4 := h4.get u
              rw [wtD_some hum] at g4
              replace g4 := g4
              simp only [if_pos] at g4
              have drp : (n.usersOf out[at_]).drop j = u :: (n.usersOf out[at_]).drop (j + 1) := by
                obtain ⟨hj', e⟩ := List.getElem?_eq_some_iff.mp hu
                rw [← e]; exact List.drop_eq_getElem_cons hj'
              rw [drp] at q1
              have step := peelIn_step hn.sd (fun _ => trivial) hx pv_.nd q1
              rw [← take_succ hu] at step
              have q2' := q2.mut (o := .dK (putK kvs (Sum.inr u) (.int (wt' u - 1)))) (wo_at (H := H2) (a := W))
              refine ⟨_, rfl, _, rfl, W, _, rfl, g4, rfl, _, rfl, ?_⟩
              rw [eq_int]
              refine if2 (fun hz => ?_) fun hz => ?_
              · have hz' := of_decide_eq_true hz
                rw [if_pos hz'] at step
                have hO5 : upd H5 W (.dK (putK kvs (Sum.inr u) (.int (wt' u - 1)))) O = some (.lst (out'.map V.str)) := by rw [upd_ne hOW]; exact q4
                refine ⟨_, rfl, .inl ⟨rfl, _, SqL.of hO5⟩, _, rfl, O, _, _, rfl, rfl, hO5, ?_, out' ++ [u], _, _, _, _, rfl, step, q2'.mut hO2w, ?_, ?_⟩
                · have := nodup_le q1.nd q1.sub
                  rw [List.length_map]
                  exact sz5' (by omega)
                · exact (h4.at (upd_ne (Ne.symm hOW))).mono (by omega)
                · rw [upd_same, List.map_append]; rfl
              · have hz' := of_decide_eq_false hz
                rw [if_neg hz'] at step
                refine ⟨out', _, _, _, _, rfl, step, q2', h4.mono (by omega), ?_⟩
                rw [upd_ne hOW]; exact q4
            · rintro σ' H5 ⟨out', wt', p2, p3, p7, rfl, q1, q2, q3, q4⟩
              rw [List.length_map, List.take_length, List.drop_length] at q1
              refine ⟨_, rfl, _, _, rfl, rfl, out', wt', _, _, _, rfl, peelIn_end hn.sd hx pv_.nd q1, q2, q3, q4⟩
          · have hge : at_ = out.length := by
              have := of_decide_eq_false hb
              have h2 := pv_.le
              rw [List.length_map] at this
              omega
            subst hge
            exact ⟨_, rfl, k _ _ _ ((same_wo e02 hW0).trans e4) hO4 (peel_done hn.sd pv_)⟩
theorem sc_find_order : FnScope ["net", "links", "out"] ["net"] (defScope (top 53)) :=
  ⟨rfl, rfl, rfl, by decide +kernel, rfl, by decide +kernel, by decide +kernel⟩
def rOrder (n : Net) : Hp → VK → Prop := fun H Q => ∀ v' H' out, Same H H' → Rep H' (strsD out) v' → IsOrder n out → Q v' H'
theorem cal_find_order (F : Df K mg "find_order" "find_order" 53) (B : Bl mg) (C_check_net : Cal P w K mg base CX0 5 "check_net" ["net"] (spNet rNon)) (C_gate_links : Cal P w K mg base CX0 1 "gate_links" ["net"] (spNetR rLinks)) (C_peeled : Cal P w K mg base CX0 2 "peeled" ["links"] spPeeled) : Cal P w K mg base CX0 6 "find_order" ["net"] (spNetR rOrder) := by
  refine F.cal sc_find_order (fun vs H Q E h => ?_) (fun _ _ _ _ _ _ us hl => match us, hl with | [_], _ => rfl) (fun f cdv A outer s H vs Q E hr h => ?_)
  · obtain ⟨_, x, rfl, _⟩ := h
    rfl
  · obtain ⟨n, v, rfl, rv, hn, k⟩ := h
    refine ⟨_, (pss_cons (ps_expr (pe_callC C_check_net (hr.mono (by decide)) rfl pass0 (pa_cons (pv 0) pa_nil)))
      (pss_cons (ps_set (i := 1) sc_find_order.nd rfl (Or.inl rfl) (pe_callC C_gate_links (hr.mono (by decide)) rfl pass0 (pa_cons (pv 0) pa_nil)))
      (pss_cons (ps_set (i := 2) sc_find_order.nd rfl (Or.inl rfl) (pe_callC C_peeled (hr.mono (by decide)) rfl pass0 (pa_cons (pv 1) pa_nil)))
      (pss_cons (ps_if (pt_cmpR op_lt (pe_callB call_len_seq rfl B.len PySem.boot_len (pa_cons (pv 2) pa_nil)) (pe_callB call_lenD rfl B.len PySem.boot_len (pa_cons (pv 1) pa_nil)) (nomark _))
        pss_never
        pss_nil)
      (pss_one (ps_ret (pe_callTy call_tuple_of rfl B.tuple (by decide +kernel) (pa_cons (pv 2) pa_nil)))))))), ?_⟩
    refine ⟨_, rfl, n, _, rfl, rv, hn, fun H1 e1 => ?_⟩
    refine ⟨_, rfl, n, _, rfl, rv.ex e1, hn, fun d H2 e2 lk => ?_⟩
    refine ⟨_, rfl, d, n, rfl, lk, hn, fun l H3 out e3 hl ord => ?_⟩
    obtain ⟨ls, hd, lkv⟩ := lk.ex
    have ol : out.length = n.gw.length := ord.perm.length_eq
    refine ⟨_, rfl, _, _, rfl, .inl (SqL.of hl), _, rfl, _, _, rfl, e3 _ _ hd, _, _, rfl, rfl, _, rfl, ifF (decide_eq_false ?_) ?_⟩
    · rw [kvl_len lkv.len, List.length_map, ol]
      omega
    refine ⟨_, rfl, l, _, rfl, .inl ⟨SqL.of hl, fun p hp => k _ _ out ((e1.trans (e2.trans e3)).trans (Same.new hp)) (Rep.ofStrs upd_same) ord⟩⟩
theorem sc_check_sound : FnScope ["net"] ["net"] (defScope (top 54)) :=
  ⟨rfl, rfl, rfl, by decide +kernel, rfl, by decide +kernel, by decide +kernel⟩
theorem cal_check_sound (F : Df K mg "check_sound" "check_sound" 54) (B : Bl mg) (C_find_order : Cal P w K mg base CX0 6 "find_order" ["net"] (spNetR rOrder)) : Cal P w K mg base CX0 7 "check_sound" ["net"] (spNet rNon) := by
  refine F.cal sc_check_sound (fun vs H Q E h => ?_) (fun _ _ _ _ _ _ us hl => match us, hl with | [_], _ => rfl) (fun f cdv A outer s H vs Q E hr h => ?_)
  · obtain ⟨_, x, rfl, _⟩ := h
    rfl
  · obtain ⟨n, v, rfl, rv, hn, k⟩ := h
    refine ⟨_, (pss_one (ps_expr (pe_callC C_find_order (hr.mono (by decide)) rfl pass0 (pa_cons (pv 0) pa_nil)))), ?_⟩
    exact ⟨_, rfl, n, _, rfl, rv, hn, fun v' H1 out e1 _ _ => k _ e1⟩
end
end Wi
set_option maxHeartbeats 4000000
set_option maxRecDepth 100000
namespace Wi
open PySem L2 PySem.Spec PyProof.Rows
theorem opS_eq (o o' : Op) : decide (V.str o.s = V.str o'.s) = decide (o = o') := by
  rw [eq_str]
  cases o <;> cases o' <;> decide +kernel
theorem opS_inj {o o' : Op} (h : o.s = o'.s) : o = o' := by
  have := opS_eq o o'
  rw [h] at this
  simpa using this.symm
theorem full_int {k : Nat} (h : k < 4) : (1 * 2 ^ ((1 * 2 ^ ((k : Int)).toNat : Int)).toNat - 1 : Int) = fullT k ∧ (1 * 2 ^ ((k : Int)).toNat : Int) ≤ 8 ∧ 0 ≤ (1 * 2 ^ ((k : Int)).toNat : Int) := by
  have : k = 0 ∨ k = 1 ∨ k = 2 ∨ k = 3 := by omega
  rcases this with rfl | rfl | rfl | rfl <;> decide
abbrev stI (i : Nat) : Int := 1 * 2 ^ ((i : Int)).toNat
theorem pat_int {i k : Nat} (hi : i < 3) (hk : k < 4) : (fullT k).fdiv (1 * 2 ^ (stI i).toNat + 1) * 2 ^ (stI i).toNat = inPat i (fullT k) ∧
    (1 * 2 ^ (stI i).toNat + 1 : Int) ≠ 0 ∧ (1 * 2 ^ (stI i).toNat + 1 : Int).natAbs < 1073741824 ∧ ((fullT k).fdiv (1 * 2 ^ (stI i).toNat + 1)).natAbs < 2 ^ 64 ∧ (0 : Int) ≤ stI i ∧ (stI i : Int) ≤ 1000000 := by
  have h1 : i = 0 ∨ i = 1 ∨ i = 2 := by omega
  have h2 : k = 0 ∨ k = 1 ∨ k = 2 ∨ k = 3 := by omega
  rcases h1 with rfl | rfl | rfl <;> rcases h2 with rfl | rfl | rfl | rfl <;> decide
/-- the gates by their wires -/
structure GDl (H : Hp) (d : Addr) (gs : List Gate) : Prop where
  ex : ∃ f, SD H d 300 f ∧ (∀ x, x ∉ gs.map (·.w) → f x = none) ∧ ∀ g ∈ gs, ∃ v, f g.w = some v ∧ Rep H g.d v
theorem GDl.same {H H' : Hp} {d : Addr} {gs : List Gate} (h : GDl H d gs) (e : Same H H') : GDl H' d gs := by
  obtain ⟨f, h1, h2, h3⟩ := h.ex
  exact ⟨f, h1.same e, h2, fun g hg => let ⟨v, a, b⟩ := h3 g hg; ⟨v, a, b.ex e⟩⟩
theorem GDl.some {H : Hp} {d : Addr} {n : Net} (h : GDl H d n.gates) {x : S} {g : Gate} (e : n.gate? x = some g) : ∃ v, DGet H d (.str x) (some v) ∧ Rep H g.d v := by
  obtain ⟨f, h1, h2, h3⟩ := h.ex
  obtain ⟨hg, rfl⟩ := gate?_some e
  obtain ⟨v, a, b⟩ := h3 g hg
  exact ⟨v, a ▸ h1.get g.w, b⟩
theorem GDl.none {H : Hp} {d : Addr} {n : Net} (h : GDl H d n.gates) {x : S} (e : n.gate? x = none) : DGet H d (.str x) none := by
  obtain ⟨f, h1, h2, h3⟩ := h.ex
  have := h1.get x
  rwa [h2 x (gate?_none e)] at this
theorem fdGet_snoc (m : List (FK × Str)) (k k' : FK) (z : Str) : fdGet (m ++ [(k, z)]) k' = (fdGet m k').or (if k = k' then some z else none) := by
  unfold fdGet
  rw [List.find?_append]
  cases h : m.find? (fun x => decide (x.1 = k')) with
  | some y => rfl
  | none =>
    by_cases e : k = k'
    · simp [e]
    · simp [e]
def firstsOf (gs : List Gate) (o : Op) (args : List S) : Option S := (gs.find? fun g => decide (g.op = o ∧ g.args = args)).map (·.w)
theorem firstsOf_snoc (gs : List Gate) (g : Gate) (o : Op) (args : List S) : firstsOf (gs ++ [g]) o args = (firstsOf gs o args).or (if g.op = o ∧ g.args = args then some g.w else none) := by
  unfold firstsOf
  rw [List.find?_append]
  cases h : gs.find? (fun g => decide (g.op = o ∧ g.args = args)) with
  | some y => rfl
  | none =>
    by_cases e : g.op = o ∧ g.args = args
    · simp [e]
    · simp [e]
theorem key_eq {g : Gate} {o : Op} {args : List S} : ((g.op.s, g.args) : FK) = (o.s, args) ↔ g.op = o ∧ g.args = args := by
  constructor
  · intro h
    exact ⟨opS_inj (congrArg Prod.fst h), congrArg Prod.snd h⟩
  · rintro ⟨h1, h2⟩
    rw [h1, h2]
theorem _root_.L2.Same.eqv {H0 H H' : Hp} {d : Addr} (e : Same H0 H) (h : H0 d = none) (q : ∀ a, a ≠ d → H' a = H a) : Same H0 H' := fun a o ha => (q a (ne_of_none ha h)).trans (e a o ha)
/-- what is known of a net -/
structure KN (P : Program) (w : World) (H : Hp) (v : V) (n : Net) : Prop where
  ex : ∃ p dg du df mf m, v = .ref p ∧ H p = some (.tup [.ref dg, .ref du, .ref df]) ∧ GDl H dg n.gates ∧ SD H du m (inD n.usedL) ∧ FD P w H df mf ∧ ∀ o args, fdGet mf (Op.s o, args) = n.firstOf o args
theorem KN.same {P : Program} {w : World} {H H' : Hp} {v : V} {n : Net} (h : KN P w H v n) (e : Same H H') : KN P w H' v n := by
  obtain ⟨p, dg, du, df, mf, m, h1, h2, h3, h4, h5, h6⟩ := h.ex
  obtain ⟨φ, h7⟩ := h5.some
  exact ⟨p, dg, du, df, mf, m, h1, e _ _ h2, h3.same e, h4.same e, h5.tx (by rw [e _ _ h7, h7]) e.tx, h6⟩
section
variable {P : Program} {w : World} {K : PySem.W.Frag} {mg : Str → Option Value} {base : Heap}
/-! ### full_table, input_pattern, op_value -/
theorem sc_full_table : FnScope ["count"] ["count"] (defScope (top 56)) :=
  ⟨rfl, rfl, rfl, by decide +kernel, rfl, by decide +kernel, by decide +kernel⟩
def spFull : Sp := fun vs H Q _ => ∃ k : Nat, vs = [.int (k : Int)] ∧ k < 4 ∧ Q (.int (fullT k)) H
theorem cal_full_table (F : Df K mg "full_table" "full_table" 56) : Cal P w K mg base CX0 1 "full_table" ["count"] spFull := by
  refine F.cal sc_full_table (fun vs H Q E h => ?_) (fun _ _ _ _ _ _ us hl => match us, hl with | [_], _ => rfl) (fun f cdv A outer s H vs Q E hr h => ?_)
  · obtain ⟨x, rfl, _⟩ := h
    rfl
  · obtain ⟨n, rfl, hn, k⟩ := h
    refine ⟨_, (pss_one (ps_ret (pe_op op_sub (pe_op op_shl pe_int (pe_op op_shl pe_int (pv 0))) pe_int))), ?_⟩
    obtain ⟨h1, h2, h3⟩ := full_int hn
    refine ⟨_, rfl, _, _, rfl, rfl, ⟨by omega, by omega, by decide⟩, _, _, rfl, rfl, ⟨h3, by omega, by decide⟩, _, _, rfl, rfl, ?_⟩
    rw [← h1] at k
    exact k
theorem sc_input_pattern : FnScope ["index", "full", "step"] ["index", "full"] (defScope (top 57)) :=
  ⟨rfl, rfl, rfl, by decide +kernel, rfl, by decide +kernel, by decide +kernel⟩
def spPat : Sp := fun vs H Q _ => ∃ i k : Nat, vs = [.int (i : Int), .int (fullT k)] ∧ i < 3 ∧ k < 4 ∧ Q (.int (inPat i (fullT k))) H
theorem cal_input_pattern (F : Df K mg "input_pattern" "input_pattern" 57) : Cal P w K mg base CX0 1 "input_pattern" ["index", "full"] spPat := by
  refine F.cal sc_input_pattern (fun vs H Q E h => ?_) (fun _ _ _ _ _ _ us hl => match us, hl with | [_, _], _ => rfl) (fun f cdv A outer s H vs Q E hr h => ?_)
  · obtain ⟨x, _, rfl, _⟩ := h
    rfl
  · obtain ⟨i, n, rfl, hi, hn, k⟩ := h
    refine ⟨_, (pss_cons (ps_set (i := 2) sc_input_pattern.nd rfl (Or.inl rfl) (pe_op op_shl pe_int (pv 0)))
      (pss_one (ps_ret (pe_op op_shl (pe_op op_fdivN (pv 1) (pe_op op_add (pe_op op_shl pe_int (pv 2)) pe_int)) (pv 2))))), ?_⟩
    obtain ⟨h2, h3, h4, h5, h6, h7⟩ := pat_int hi hn
    refine ⟨_, rfl, _, _, rfl, rfl, ⟨by omega, by omega, by decide⟩, ?_⟩
    rw [← h2] at k
    exact ⟨_, rfl, _, rfl, _, _, rfl, rfl, ⟨h6, h7, by decide⟩, _, _, rfl, rfl, _, _, rfl, rfl, ⟨h3, h4⟩, _, rfl, _, _, rfl, rfl, ⟨h6, h7, h5⟩, k⟩
theorem sc_op_value : FnScope ["op", "args", "full"] ["op", "args", "full"] (defScope (top 58)) :=
  ⟨rfl, rfl, rfl, by decide +kernel, rfl, by decide +kernel, by decide +kernel⟩
def spOpV : Sp := fun vs H Q _ => ∃ (o : Op) (l : Addr) (as : List Int) (full : Int), vs = [.str o.s, .ref l, .int full] ∧ H l = some (.lst (as.map V.int)) ∧ as.length = o.ar ∧ Q (.int (opV o as full)) H
theorem cal_op_value_logic (F : Df K mg "op_value_logic" "op_value" 58) : Cal P w K mg base CX0 1 "op_value_logic" ["op", "args", "full"] spOpV := by
  refine F.cal sc_op_value (fun vs H Q E h => ?_) (fun _ _ _ _ _ _ us hl => match us, hl with | [_, _, _], _ => rfl) (fun f cdv A outer s H vs Q E hr h => ?_)
  · obtain ⟨_, _, _, _, rfl, _⟩ := h
    rfl
  · obtain ⟨o, l, as, full, rfl, hl, hlen, k⟩ := h
    refine ⟨_, (pss_cons (ps_if (pt_cmpR op_eq (pv 0) pe_str (nomark _))
        (pss_one (ps_ret pe_int))
        pss_nil)
      (pss_cons (ps_if (pt_cmpR op_eq (pv 0) pe_str (nomark _))
        (pss_one (ps_ret (pv 2)))
        pss_nil)
      (pss_cons (ps_if (pt_cmpR op_eq (pv 0) pe_str (nomark _))
        (pss_one (ps_ret (pe_ix (r := rIxL K) ix_list (pv 1) pe_int (fun _ _ => rfl))))
        pss_nil)
      (pss_cons (ps_if (pt_cmpR op_eq (pv 0) pe_str (nomark _))
        (pss_one (ps_ret (pe_op op_xor (pv 2) (pe_ix (r := rIxL K) ix_list (pv 1) pe_int (fun _ _ => rfl)))))
        pss_nil)
      (pss_cons (ps_if (pt_cmpR op_eq (pv 0) pe_str (nomark _))
        (pss_one (ps_ret (pe_op op_and (pe_ix (r := rIxL K) ix_list (pv 1) pe_int (fun _ _ => rfl)) (pe_ix (r := rIxL K) ix_list (pv 1) pe_int (fun _ _ => rfl)))))
        pss_nil)
      (pss_cons (ps_if (pt_cmpR op_eq (pv 0) pe_str (nomark _))
        (pss_one (ps_ret (pe_op op_or (pe_ix (r := rIxL K) ix_list (pv 1) pe_int (fun _ _ => rfl)) (pe_ix (r := rIxL K) ix_list (pv 1) pe_int (fun _ _ => rfl)))))
        pss_nil)
      (pss_cons (ps_if (pt_cmpR op_eq (pv 0) pe_str (nomark _))
        (pss_one (ps_ret (pe_op op_xor (pe_ix (r := rIxL K) ix_list (pv 1) pe_int (fun _ _ => rfl)) (pe_ix (r := rIxL K) ix_list (pv 1) pe_int (fun _ _ => rfl)))))
        pss_nil)
      (pss_one (ps_ret (pe_op op_or (pe_op op_and (pe_ix (r := rIxL K) ix_list (pv 1) pe_int (fun _ _ => rfl)) (pe_op op_xor (pv 2) (pe_ix (r := rIxL K) ix_list (pv 1) pe_int (fun _ _ => rfl)))) (pe_op op_and (pe_ix (r := rIxL K) ix_list (pv 1) pe_int (fun _ _ => rfl)) (pe_ix (r := rIxL K) ix_list (pv 1) pe_int (fun _ _ => rfl))))))))))))), ?_⟩
    have ix : ∀ (j : Nat) (z : Int) (σ : L2.St) (Q : VK), σ[1]? = some (some (V.ref l)) → as[j]? = some z → Q (.int z) H → tOp (rIxL K) (tVar 1) (tC (.int (j : Int))) σ H Q := fun j z σ Q hs hz q =>
      ⟨_, hs, l, _, _, _, rfl, rfl, SqL.of hl, atI_nat (by rw [List.getElem?_map, hz]; rfl), q⟩
    cases o with
    | zero => exact ⟨_, rfl, rfl, _, rfl, ifT (opS_eq .zero .zero) k⟩
    | one => exact ⟨_, rfl, rfl, _, rfl, ifF (opS_eq .one .zero) ⟨_, rfl, rfl, _, rfl, ifT (opS_eq .one .one) ⟨_, rfl, k⟩⟩⟩
    | buf =>
      match as, hlen, ix, k with
      | [a], _, ix, k => exact ⟨_, rfl, rfl, _, rfl, ifF (opS_eq .buf .zero) ⟨_, rfl, rfl, _, rfl, ifF (opS_eq .buf .one) ⟨_, rfl, rfl, _, rfl, ifT (opS_eq .buf .buf) (ix 0 a _ _ rfl rfl k)⟩⟩⟩
    | not =>
      match as, hlen, ix, k with
      | [a], _, ix, k => exact ⟨_, rfl, rfl, _, rfl, ifF (opS_eq .not .zero) ⟨_, rfl, rfl, _, rfl, ifF (opS_eq .not .one) ⟨_, rfl, rfl, _, rfl, ifF (opS_eq .not .buf) ⟨_, rfl, rfl, _, rfl, ifT (opS_eq .not .not) ⟨_, rfl, ix 0 a _ _ rfl rfl ⟨_, _, rfl, rfl, k⟩⟩⟩⟩⟩⟩
    | and =>
      match as, hlen, ix, k with
      | [a, b], _, ix, k => exact ⟨_, rfl, rfl, _, rfl, ifF (opS_eq .and .zero) ⟨_, rfl, rfl, _, rfl, ifF (opS_eq .and .one) ⟨_, rfl, rfl, _, rfl, ifF (opS_eq .and .buf) ⟨_, rfl, rfl, _, rfl, ifF (opS_eq .and .not) ⟨_, rfl, rfl, _, rfl, ifT (opS_eq .and .and) (ix 0 a _ _ rfl rfl (ix 1 b _ _ rfl rfl ⟨_, _, rfl, rfl, k⟩))⟩⟩⟩⟩⟩
    | or =>
      match as, hlen, ix, k with
      | [a, b], _, ix, k => exact ⟨_, rfl, rfl, _, rfl, ifF (opS_eq .or .zero) ⟨_, rfl, rfl, _, rfl, ifF (opS_eq .or .one) ⟨_, rfl, rfl, _, rfl, ifF (opS_eq .or .buf) ⟨_, rfl, rfl, _, rfl, ifF (opS_eq .or .not) ⟨_, rfl, rfl, _, rfl, ifF (opS_eq .or .and) ⟨_, rfl, rfl, _, rfl, ifT (opS_eq .or .or) (ix 0 a _ _ rfl rfl (ix 1 b _ _ rfl rfl ⟨_, _, rfl, rfl, k⟩))⟩⟩⟩⟩⟩⟩
    | xor =>
      match as, hlen, ix, k with
      | [a, b], _, ix, k => exact ⟨_, rfl, rfl, _, rfl, ifF (opS_eq .xor .zero) ⟨_, rfl, rfl, _, rfl, ifF (opS_eq .xor .one) ⟨_, rfl, rfl, _, rfl, ifF (opS_eq .xor .buf) ⟨_, rfl, rfl, _, rfl, ifF (opS_eq .xor .not) ⟨_, rfl, rfl, _, rfl, ifF (opS_eq .xor .and) ⟨_, rfl, rfl, _, rfl, ifF (opS_eq .xor .or) ⟨_, rfl, rfl, _, rfl, ifT (opS_eq .xor .xor) (ix 0 a _ _ rfl rfl (ix 1 b _ _ rfl rfl ⟨_, _, rfl, rfl, k⟩))⟩⟩⟩⟩⟩⟩⟩
    | mux =>
      match as, hlen, ix, k with
      | [a, b, c], _, ix, k => exact ⟨_, rfl, rfl, _, rfl, ifF (opS_eq .mux .zero) ⟨_, rfl, rfl, _, rfl, ifF (opS_eq .mux .one) ⟨_, rfl, rfl, _, rfl, ifF (opS_eq .mux .buf) ⟨_, rfl, rfl, _, rfl, ifF (opS_eq .mux .not) ⟨_, rfl, rfl, _, rfl, ifF (opS_eq .mux .and) ⟨_, rfl, rfl, _, rfl, ifF (opS_eq .mux .or) ⟨_, rfl, rfl, _, rfl, ifF (opS_eq .mux .xor)
          (ix 1 b _ _ rfl rfl ⟨_, rfl, ix 0 a _ _ rfl rfl ⟨_, _, rfl, rfl, _, _, rfl, rfl, ix 2 c _ _ rfl rfl (ix 0 a _ _ rfl rfl ⟨_, _, rfl, rfl, _, _, rfl, rfl, k⟩)⟩⟩)⟩⟩⟩⟩⟩⟩⟩
/-! ### gates_by_wire, has_op, is_constant -/
theorem sc_gates_by_wire : FnScope ["net", "gate"] ["net"] (defScope (top 65)) :=
  ⟨rfl, rfl, rfl, by decide +kernel, rfl, by decide +kernel, by decide +kernel⟩
def rGbw (n : Net) : Hp → VK → Prop := fun H Q => ∀ d H', Same H H' → GDl H' d n.gates → Q (.ref d) H'
theorem cal_gates_by_wire (F : Df K mg "gates_by_wire" "gates_by_wire" 65) : Cal P w K mg base CX0 1 "gates_by_wire" ["net"] (spNetR rGbw) := by
  refine F.cal sc_gates_by_wire (fun vs H Q E h => ?_) (fun _ _ _ _ _ _ us hl => match us, hl with | [_], _ => rfl) (fun f cdv A outer s H vs Q E hr h => ?_)
  · obtain ⟨n, x, rfl, _⟩ := h
    rfl
  · obtain ⟨n, v, rfl, rv, hn, k⟩ := h
    refine ⟨_, (pss_one (ps_ret (pe_dc (own := [("gate", 1)]) rfl sc_gates_by_wire.nd (pi_tup (pe_ix (r := rIxT K) ix_tup (pv 0) pe_int (fun _ _ => rfl))) (blkOk_by (N := ["net", "gate"]) (sc := defScope (top 65)) (own := [("gate", 1)]) (by decide +kernel)) (fun _ _ _ _ _ => (pg_name (i := 1) sc_gates_by_wire.nd rfl (Or.inl rfl))) (fun _ _ _ _ _ => pts_nil) (fun _ _ _ _ _ => (pe_ix (r := rIxT K) ix_tup (pv 1) pe_int (fun _ _ => rfl))) (fun _ _ _ _ _ => (pv 1))))), ?_⟩
    obtain ⟨p, v1, v2, v3, v4, rfl, hp, r1, r2, r3, r4⟩ := rv.t4
    obtain ⟨p2, us, rfl, h2, ru⟩ := r2.eTup
    have lu := ru.len
    rw [List.length_map] at lu
    have hgz := hn.gsz
    have hgnd := hn.sd.gnd
    refine ⟨_, rfl, p, _, _, _, rfl, rfl, SqT.of hp, rfl, p2, rfl, ⟨_, SqT.of h2⟩, fun D hD => ?_⟩
    refine dc_it (walk_tup (xs := us)) (tt := tYes) (fun i H' => Same H H' ∧ ∃ f, SD H' D i f ∧ (∀ x, x ∉ n.gw.take i → f x = none) ∧ ∀ g ∈ n.gates.take i, ∃ v, f g.w = some v ∧ Rep H' g.d v) ⟨(Same.refl H).mut hD, _, SD.new, fun _ _ => rfl, fun g hg => by simp at hg⟩ (fun i H' _ h => SqT.of (h.1 _ _ h2)) ?_ ?_
    · rintro i x _ H1 hi ⟨e, f, sd, fn, fs⟩ ⟨rfl, hx⟩
      obtain ⟨g, hg, rg⟩ := ru.at hx
      obtain ⟨q, x1, x2, x3, rfl, hq, q1, q2, q3⟩ := rg.t3
      rw [q1.eStr] at hq
      obtain ⟨kvs, h1, h2', h3⟩ := sd.put (by omega) g.w (.ref q)
      have hlen : kvs.length < sizeLine := by
        obtain ⟨kvs', z1, z2, _⟩ := sd.ex
        rw [h1] at z1
        cases z1
        exact sz5' (by omega)
      have tx : Tx H1 (upd H1 D (.dK (putK kvs (Sum.inr g.w) (.ref q)))) := (Tx.refl H1).mut h1 fun _ z => nomatch z
      refine ⟨rfl, _, rfl, q, _, _, _, rfl, rfl, SqT.of (e _ _ hq), rfl, _, rfl, kvs, Sum.inr g.w, rfl, h1, hlen, e.mut hD, _, h3, fun y hy => ?_, fun d hd => ?_⟩
      · rw [take_succ (gw_at hg)] at hy
        have hne : ¬ y = g.w := fun z => hy (List.mem_append_right _ (List.mem_singleton.mpr z))
        rw [if_neg hne]
        exact fn y fun m => hy (List.mem_append_left _ m)
      · rw [take_succ hg] at hd
        rcases List.mem_append.mp hd with z | z
        · have hne : ¬ d.w = g.w := fun q => nd_at hgnd (gw_at hg) (by
            rw [← q]
            unfold Net.gw
            rw [← List.map_take]
            exact List.mem_map_of_mem z)
          obtain ⟨v, a, b⟩ := fs d z
          exact ⟨v, by rw [if_neg hne]; exact a, b.tx tx⟩
        · rw [List.mem_singleton.mp z]
          exact ⟨_, if_pos rfl, (rg.ex e).tx tx⟩
    · rintro H1 ⟨e1, f, sd, fn, fs⟩
      rw [← lu] at sd fn fs
      rw [show n.gates.length = n.gw.length from (List.length_map ..).symm, List.take_length] at fn
      rw [List.take_length] at fs
      exact k _ _ e1 ⟨f, sd.mono (by omega), fn, fs⟩
theorem sc_has_op : FnScope ["wire", "op", "gates"] ["wire", "op", "gates"] (defScope (top 66)) :=
  ⟨rfl, rfl, rfl, by decide +kernel, rfl, by decide +kernel, by decide +kernel⟩
def spHas : Sp := fun vs H Q _ => ∃ (x : S) (o : Op) (d : Addr) (n : Net), vs = [.str x, .str o.s, .ref d] ∧ GDl H d n.gates ∧ Q (.bl (n.hasOp x o)) H
theorem cal_has_op (F : Df K mg "has_op" "has_op" 66) : Cal P w K mg base CX0 1 "has_op" ["wire", "op", "gates"] spHas := by
  refine F.cal sc_has_op (fun vs H Q E h => ?_) (fun _ _ _ _ _ _ us hl => match us, hl with | [_, _, _], _ => rfl) (fun f cdv A outer s H vs Q E hr h => ?_)
  · obtain ⟨_, _, _, _, rfl, _⟩ := h
    rfl
  · obtain ⟨x, o, d, n, rfl, gd, k⟩ := h
    refine ⟨_, (pss_one (ps_ret (pe_and (pe_cmp (pc_din (hu_of hr) (pv 0) (pv 2))) (pe_one (pe_cmpR op_eq (pe_ix (r := rIxT K) ix_tup (pe_dget (hu_of hr) (pv 2) (pv 0) (fun _ _ => rfl)) pe_int (fun _ _ => rfl)) (pv 1) (nomark _)))))), ?_⟩
    unfold Net.hasOp at k
    cases e : n.gate? x with
    | none =>
      rw [e] at k
      exact ⟨_, rfl, _, rfl, d, _, rfl, gd.none e, _, rfl, ifF rfl k⟩
    | some g =>
      rw [e] at k
      obtain ⟨v, hg, rg⟩ := gd.some e
      obtain ⟨q, x1, x2, x3, rfl, hq, q1, q2, q3⟩ := rg.t3
      rw [q2.eStr] at hq
      refine ⟨_, rfl, _, rfl, d, _, rfl, hg, _, rfl, ifT rfl ⟨_, rfl, _, rfl, d, _, rfl, hg, q, _, _, _, rfl, rfl, SqT.of hq, rfl, _, rfl, rfl, ?_⟩⟩
      rw [opS_eq]
      exact k
theorem sc_is_constant : FnScope ["wire", "gates"] ["wire", "gates"] (defScope (top 67)) :=
  ⟨rfl, rfl, rfl, by decide +kernel, rfl, by decide +kernel, by decide +kernel⟩
def spCon : Sp := fun vs H Q _ => ∃ (x : S) (d : Addr) (n : Net), vs = [.str x, .ref d] ∧ GDl H d n.gates ∧ Q (.bl (n.isCon x)) H
theorem con_in (o : Op) : inV (.str o.s) [V.str Op.zero.s, V.str Op.one.s] = o.con := by cases o <;> decide +kernel
theorem cal_is_constant (F : Df K mg "is_constant" "is_constant" 67) (G : GC K w mg) : Cal P w K mg base CX0 1 "is_constant" ["wire", "gates"] spCon := by
  refine F.cal sc_is_constant (fun vs H Q E h => ?_) (fun _ _ _ _ _ _ us hl => match us, hl with | [_, _], _ => rfl) (fun f cdv A outer s H vs Q E hr h => ?_)
  · obtain ⟨_, _, _, rfl, _⟩ := h
    rfl
  · obtain ⟨x, d, n, rfl, gd, k⟩ := h
    obtain ⟨aC, g_CONSTANT, hC⟩ := G.CONSTANT
    refine ⟨_, (pss_one (ps_ret (pe_and (pe_cmp (pc_din (hu_of hr) (pv 0) (pv 1))) (pe_one (pe_cmpR op_in_seq (pe_ix (r := rIxT K) ix_tup (pe_dget (hu_of hr) (pv 1) (pv 0) (fun _ _ => rfl)) pe_int (fun _ _ => rfl)) (pe_globR rfl g_CONSTANT) (by rfl)))))), ?_⟩
    unfold Net.isCon at k
    cases e : n.gate? x with
    | none =>
      rw [e] at k
      exact ⟨_, rfl, _, rfl, d, _, rfl, gd.none e, _, rfl, ifF rfl k⟩
    | some g =>
      rw [e] at k
      obtain ⟨v, hg, rg⟩ := gd.some e
      obtain ⟨q, x1, x2, x3, rfl, hq, q1, q2, q3⟩ := rg.t3
      rw [q2.eStr] at hq
      refine ⟨_, rfl, _, rfl, d, _, rfl, hg, _, rfl, ifT rfl ⟨_, rfl, _, rfl, d, _, rfl, hg, q, _, _, _, rfl, rfl, SqT.of hq, rfl, aC, _, rfl, .inr (hC H), rfl, rfl, ?_⟩⟩
      rw [con_in]
      exact k
/-! ### known_of -/
theorem sc_known_of : FnScope ["net", "used", "firsts", "wire", "op", "args", "arg", "reg"] ["net"] (defScope (top 68)) :=
  ⟨rfl, rfl, rfl, by decide +kernel, rfl, by decide +kernel, by decide +kernel⟩
def rKnown (P : Program) (w : World) (n : Net) : Hp → VK → Prop := fun H Q => ∀ v' H', Same H H' → KN P w H' v' n → Q v' H'
theorem cal_known_of (F : Df K mg "known_of" "known_of" 68) (C_gates_by_wire : Cal P w K mg base CX0 1 "gates_by_wire" ["net"] (spNetR rGbw)) : Cal P w K mg base CX0 2 "known_of" ["net"] (spNetR (rKnown P w)) := by
  refine F.cal sc_known_of (fun vs H Q E h => ?_) (fun _ _ _ _ _ _ us hl => match us, hl with | [_], _ => rfl) (fun f cdv A outer s H vs Q E hr h => ?_)
  · obtain ⟨n, x, rfl, _⟩ := h
    rfl
  · obtain ⟨n, v, rfl, rv, hn, k⟩ := h
    refine ⟨_, (pss_cons (ps_set (i := 1) sc_known_of.nd rfl (Or.inl rfl) pe_dnewK)
      (pss_cons (ps_set (i := 2) sc_known_of.nd rfl (Or.inl rfl) pe_dnewF)
      (pss_cons (ps_for PassesOwn.never rfl (pi_tup (pe_ix (r := rIxT K) ix_tup (pv 0) pe_int (fun _ _ => rfl))) (pg_tup rfl (pgs_cons (pg_name (i := 3) sc_known_of.nd rfl (Or.inl rfl)) (pgs_cons (pg_name (i := 4) sc_known_of.nd rfl (Or.inl rfl)) (pgs_cons (pg_name (i := 5) sc_known_of.nd rfl (Or.inl rfl)) pgs_nil))))
        (pss_cons (ps_for PassesOwn.never rfl (pi_tup (pv 5)) (pg_name (i := 6) sc_known_of.nd rfl (Or.inl rfl))
          (pss_one (ps_dput (hu_of hr) (pv 1) (pv 6) pe_bl rfl)))
        (pss_one (ps_if (pt_cmpR (op_notIn_fd (nroom hr)) (pe_tup (pa_cons (pv 4) (pa_cons (pv 5) pa_nil))) (pv 2) (by rfl))
          (pss_one (ps_asg (pv 3) (pg_sub (pv 2) (pe_tup (pa_cons (pv 4) (pa_cons (pv 5) pa_nil))) (set_fd (nroom hr)))))
          pss_nil))))
      (pss_cons (ps_for PassesOwn.never rfl (pi_tup (pe_ix (r := rIxT K) ix_tup (pv 0) pe_int (fun _ _ => rfl))) (pg_name (i := 7) sc_known_of.nd rfl (Or.inl rfl))
        (pss_one (ps_dput (hu_of hr) (pv 1) (pe_ix (r := rIxT K) ix_tup (pv 7) pe_int (fun _ _ => rfl)) pe_bl rfl)))
      (pss_cons (ps_for PassesOwn.never rfl (pi_tup (pe_ix (r := rIxT K) ix_tup (pv 0) pe_int (fun _ _ => rfl))) (pg_name (i := 3) sc_known_of.nd rfl (Or.inl rfl))
        (pss_one (ps_dput (hu_of hr) (pv 1) (pv 3) pe_bl rfl)))
      (pss_one (ps_ret (pe_tup (pa_cons (pe_callC C_gates_by_wire (hr.mono (by decide)) rfl pass0 (pa_cons (pv 0) pa_nil)) (pa_cons (pv 1) (pa_cons (pv 2) pa_nil))))))))))), ?_⟩
    obtain ⟨p, v1, v2, v3, v4, rfl, hp, r1, r2, r3, r4⟩ := rv.t4
    obtain ⟨p2, us, rfl, h2, ru⟩ := r2.eTup
    obtain ⟨p3, rs, rfl, h3, rr⟩ := r3.eTup
    obtain ⟨p4, rfl, h4⟩ := r4.strs
    have lu := ru.len
    have lr := rr.len
    rw [List.length_map] at lu lr
    have hgz := hn.gsz
    have hrz := hn.rsz
    have hoz := hn.osz
    intro U hU
    intro D hD fd0
    have hDU : D ≠ U := fun z => by rw [z, upd_same] at hD; cases hD
    have hD0 : H D = none := by rw [upd_ne hDU] at hD; exact hD
    have e0 : Same H (upd (upd H U (.dK [])) D (fdO P w D [])) := (Same.new hU).trans (Same.new hD)
    refine ⟨_, rfl, p, _, _, _, rfl, rfl, SqT.of (e0 _ _ hp), rfl, p2, rfl, ⟨_, SqT.of (e0 _ _ h2)⟩, ?_⟩
    refine for_it (walk_tup (xs := us)) (fun i σ H' => Same H H' ∧ SD H' U (3 * i) (inD ((n.gates.take i).flatMap (·.args))) ∧ (∃ mf, FD P w H' D mf ∧ mf.length ≤ i ∧ ∀ o args, fdGet mf (Op.s o, args) = firstsOf (n.gates.take i) o args) ∧ ∃ o3 o4 o5 o6 o7, σ = [some (.ref p), some (.ref U), some (.ref D), o3, o4, o5, o6, o7]) ⟨e0, ?_, ⟨[], fd0, Nat.le_refl _, fun o args => rfl⟩, _, _, _, _, _, rfl⟩ (fun i σ H' _ h => SqT.of (h.1 _ _ h2)) ?_ ?_
    · exact (SD.at (SD.new (H := H) (a := U)) (upd_ne (Ne.symm hDU))).imp fun x => (inD_none (by simp)).symm
    · rintro i y σ _ H1 hi ⟨e1, sd1, ⟨mf, fd1, ml, mg1⟩, o3, o4, o5, o6, o7, rfl⟩ ⟨rfl, hy⟩
      obtain ⟨g, q, q3, hg, rfl, hq, hq3⟩ := gatesAt ru hy
      have hgm := List.mem_of_getElem? hg
      have har : g.args.length ≤ 3 := by rw [hn.sd.ar g hgm]; exact ar_le _
      refine ⟨q, _, rfl, SqT.of (e1 _ _ hq), rfl, _, _, rfl, _, _, rfl, _, _, rfl, rfl, ?_⟩
      refine ⟨_, rfl, q3, rfl, ⟨_, SqT.of (e1 _ _ hq3)⟩, ?_⟩
      refine for_it (walk_tup (xs := g.args.map V.str)) (fun j σ H' => Same H H' ∧ SD H' U (3 * i + j) (inD ((n.gates.take i).flatMap (·.args) ++ g.args.take j)) ∧ FD P w H' D mf ∧ ∃ o6, σ = [some (.ref p), some (.ref U), some (.ref D), some (.str g.w), some (.str g.op.s), some (.ref q3), o6, o7]) ⟨e1, by simpa using sd1, fd1, _, rfl⟩ (fun j σ H' _ h => SqT.of (h.1 _ _ hq3)) ?_ ?_
      · rintro j z σ _ H2 hj ⟨e2, sd2, fd2, o6, rfl⟩ ⟨rfl, hz⟩
        obtain ⟨x, hx, rfl⟩ := strs_get hz
        rw [List.length_map] at hj
        obtain ⟨kvs, a1, a2, a3⟩ := sd2.put (by omega) x (.bl true)
        refine ⟨_, rfl, _, rfl, U, _, rfl, a2, e2.mut hU, (a3.mono (by omega)).imp fun y => ?_, fd2.tx (upd_ne hDU) ((Tx.refl H2).mut a1 fun _ z => nomatch z), _, rfl⟩
        rw [take_succ hx, ← List.append_assoc]
        exact inD_snoc _ _ _
      · rintro σ H2 ⟨e2, sd2, fd2, o6, rfl⟩
        rw [List.length_map, List.take_length] at sd2
        have fin : ∀ (H3 : Hp) (mf3 : List (FK × Str)), Same H H3 → SD H3 U (3 * (i + 1)) (inD ((n.gates.take i).flatMap (·.args) ++ g.args)) → FD P w H3 D mf3 → mf3.length ≤ i + 1 → (∀ o args, fdGet mf3 (Op.s o, args) = firstsOf (n.gates.take i ++ [g]) o args) →
            (Same H H3 ∧ SD H3 U (3 * (i + 1)) (inD ((n.gates.take (i + 1)).flatMap (·.args))) ∧ (∃ mf, FD P w H3 D mf ∧ mf.length ≤ i + 1 ∧ ∀ o args, fdGet mf (Op.s o, args) = firstsOf (n.gates.take (i + 1)) o args) ∧ ∃ o3' o4' o5' o6' o7', [some (.ref p), some (.ref U), some (.ref D), some (.str g.w), some (.str g.op.s), some (.ref q3), o6, o7] = [some (V.ref p), some (.ref U), some (.ref D), o3', o4', o5', o6', o7']) := fun H3 mf3 a b c d e => by
          refine ⟨a, ?_, ⟨mf3, c, d, ?_⟩, _, _, _, _, _, rfl⟩
          · rw [take_succ hg, List.flatMap_append]
            simpa using b
          · rw [take_succ hg]; exact e
        refine ⟨_, rfl, _, rfl, sz5 (by simp), fun t ht => ⟨_, rfl, D, (g.op.s, g.args), mf, rfl, ?_, ?_, _, rfl, ?_⟩⟩
        · exact fd2.tx (upd_ne fun z => by obtain ⟨φ, h⟩ := fd2.some; rw [z] at h; rw [h] at ht; cases ht) (Tx.refl H2 |>.new ht)
        · exact .tup upd_same (.cons (.str _) (.cons (Rep.ofStrs (((e2.trans (Same.new ht)) _ _ hq3))) .nil))
        · have hDt : D ≠ t := fun z => by obtain ⟨φ, h⟩ := fd2.some; rw [z] at h; rw [h] at ht; cases ht
          have hUt : U ≠ t := fun z => by obtain ⟨kv, h⟩ := sd2.dict; rw [z] at h; rw [h] at ht; cases ht
          have e3 := e2.trans (Same.new ht (o := .tup [.str g.op.s, .ref q3]))
          have fd3 : FD P w (upd H2 t (.tup [.str g.op.s, .ref q3])) D mf := fd2.tx (upd_ne hDt) (Tx.refl H2 |>.new ht)
          have sd3 : SD (upd H2 t (.tup [.str g.op.s, .ref q3])) U (3 * i + g.args.length) _ := sd2.at (upd_ne hUt)
          refine if2 (fun hb => ?_) fun hb => ?_
          · have hnone : fdGet mf (g.op.s, g.args) = none := by
              cases h : fdGet mf (g.op.s, g.args) with
              | none => rfl
              | some z => rw [h] at hb; cases hb
            refine ⟨_, rfl, _, rfl, _, rfl, _, rfl, sz5 (by simp), fun t2 ht2 => ?_⟩
            have hDt2 : D ≠ t2 := fun z => by obtain ⟨φ, h⟩ := fd3.some; rw [z] at h; rw [h] at ht2; cases ht2
            have hUt2 : U ≠ t2 := fun z => by obtain ⟨kv, h⟩ := sd3.dict; rw [z] at h; rw [h] at ht2; cases ht2
            have e4 := e3.trans (Same.new ht2 (o := .tup [.str g.op.s, .ref q3]))
            refine ⟨D, (g.op.s, g.args), mf, g.w, rfl, rfl, fd3.tx (upd_ne hDt2) (Tx.refl _ |>.new ht2), .tup upd_same (.cons (.str _) (.cons (Rep.ofStrs (e4 _ _ hq3)) .nil)), hnone, sz5' (by omega), fun H5 q5 fd5 _ => ?_⟩
            refine fin H5 _ (e4.eqv hD0 q5) ((sd3.at (H' := H5) ?_).mono (by omega)) fd5 (by simp; omega) fun o args => ?_
            · rw [q5 _ (Ne.symm hDU), upd_ne hUt2]
            · rw [fdGet_snoc, firstsOf_snoc, mg1]
              by_cases z : g.op = o ∧ g.args = args
              · rw [if_pos z, if_pos (key_eq.mpr z)]
              · rw [if_neg z, if_neg (fun y => z (key_eq.mp y))]
          · refine fin _ mf e3 (sd3.mono (by omega)) fd3 (by omega) fun o args => ?_
            rw [firstsOf_snoc, mg1]
            by_cases z : g.op = o ∧ g.args = args
            · rw [← z.1, ← z.2, ← mg1]
              cases h : fdGet mf (g.op.s, g.args) with
              | none => rw [h] at hb; cases hb
              | some z => rfl
            · rw [if_neg z, Option.or_none]
    · rintro σ H1 ⟨e1, sd1, ⟨mf, fd1, ml, mg1⟩, o3, o4, o5, o6, o7, rfl⟩
      rw [← lu, List.take_length] at sd1 mg1
      refine ⟨_, rfl, p, _, _, _, rfl, rfl, SqT.of (e1 _ _ hp), rfl, p3, rfl, ⟨_, SqT.of (e1 _ _ h3)⟩, ?_⟩
      refine for_it (walk_tup (xs := rs)) (fun i σ H' => Same H H' ∧ SD H' U (900 + i) (inD (n.gates.flatMap (·.args) ++ (n.regs.take i).map (·.src))) ∧ FD P w H' D mf ∧ ∃ o3 o4 o5 o6 o7, σ = [some (.ref p), some (.ref U), some (.ref D), o3, o4, o5, o6, o7]) ⟨e1, by simpa using sd1.mono (by omega), fd1, _, _, _, _, _, rfl⟩ (fun i σ H' _ h => SqT.of (h.1 _ _ h3)) ?_ ?_
      · rintro i y σ _ H2 hi ⟨e2, sd2, fd2, o3, o4, o5, o6, o7, rfl⟩ ⟨rfl, hy⟩
        obtain ⟨r, hr2, rrg⟩ := rr.at hy
        obtain ⟨q, x1, x2, x3, rfl, hq, q1, q2, q3⟩ := rrg.t3
        rw [q3.eStr] at hq
        obtain ⟨kvs, a1, a2, a3⟩ := sd2.put (by omega) r.src (.bl true)
        refine ⟨_, rfl, _, rfl, q, _, _, _, rfl, rfl, SqT.of (e2 _ _ hq), rfl, U, _, rfl, a2, e2.mut hU, (a3.mono (by omega)).imp fun y => ?_, fd2.tx (upd_ne hDU) ((Tx.refl H2).mut a1 fun _ z => nomatch z), _, _, _, _, _, rfl⟩
        rw [take_succ hr2, List.map_append, ← List.append_assoc]
        exact inD_snoc _ _ _
      · rintro σ H2 ⟨e2, sd2, fd2, o3, o4, o5, o6, o7, rfl⟩
        rw [← lr, List.take_length] at sd2
        refine ⟨_, rfl, p, _, _, _, rfl, rfl, SqT.of (e2 _ _ hp), rfl, p4, rfl, ⟨_, SqT.of (e2 _ _ h4)⟩, ?_⟩
        refine for_it (walk_tup (xs := n.outs.map V.str)) (fun i σ H' => Same H H' ∧ SD H' U (1200 + i) (inD (n.gates.flatMap (·.args) ++ n.regs.map (·.src) ++ n.outs.take i)) ∧ FD P w H' D mf ∧ ∃ o3 o4 o5 o6 o7, σ = [some (.ref p), some (.ref U), some (.ref D), o3, o4, o5, o6, o7]) ⟨e2, by simpa using sd2.mono (by omega), fd2, _, _, _, _, _, rfl⟩ (fun i σ H' _ h => SqT.of (h.1 _ _ h4)) ?_ ?_
        · rintro i y σ _ H3 hi ⟨e3, sd3, fd3, o3, o4, o5, o6, o7, rfl⟩ ⟨rfl, hy⟩
          obtain ⟨x, hx, rfl⟩ := strs_get hy
          rw [List.length_map] at hi
          obtain ⟨kvs, a1, a2, a3⟩ := sd3.put (by omega) x (.bl true)
          refine ⟨_, rfl, _, rfl, U, _, rfl, a2, e3.mut hU, (a3.mono (by omega)).imp fun y => ?_, fd3.tx (upd_ne hDU) ((Tx.refl H3).mut a1 fun _ z => nomatch z), _, _, _, _, _, rfl⟩
          rw [take_succ hx, ← List.append_assoc]
          exact inD_snoc _ _ _
        · rintro σ H3 ⟨e3, sd3, fd3, o3, o4, o5, o6, o7, rfl⟩
          rw [List.length_map, List.take_length] at sd3
          refine ⟨_, rfl, n, _, rfl, rv.ex e3, hn, fun dg H4 e4 gd => ?_⟩
          refine ⟨_, rfl, _, rfl, sz5 (by simp), fun t ht => ?_⟩
          have e5 := Same.new ht (o := .tup [.ref dg, .ref U, .ref D])
          obtain ⟨φ, hφ⟩ := fd3.some
          have fd4 : FD P w H4 D mf := fd3.tx (by rw [e4 _ _ hφ, hφ]) e4.tx
          have fd5 : FD P w (upd H4 t (.tup [.ref dg, .ref U, .ref D])) D mf := fd4.tx (by obtain ⟨φ, h⟩ := fd4.some; rw [e5 _ _ h, h]) e5.tx
          exact k _ _ (e3.trans (e4.trans e5)) ⟨t, dg, U, D, mf, _, rfl, upd_same, gd.same e5, (sd3.same e4).same e5, fd5, mg1⟩
end
end Wi
set_option maxHeartbeats 4000000
set_option maxRecDepth 100000
namespace Wi
open PySem L2 PySem.Spec PyProof.Rows
theorem plain_false {n : Net} {args : List S} {i : Nat} {x : S} (hx : args[i]? = some x) (h : n.isCon x = true ∨ x ∈ args.take i) : n.plain args = false := by
  unfold Net.plain
  rcases h with h | h
  · have : (args.all fun a => !n.isCon a) = false := List.all_eq_false.mpr ⟨x, List.mem_of_getElem? hx, by rw [h]; exact Bool.false_ne_true⟩
    rw [this, Bool.and_false]
  · rw [decide_eq_false (fun nd => nd_at nd hx h), Bool.false_and]
section
variable {P : Program} {w : World} {K : PySem.W.Frag} {mg : Str → Option Value} {base : Heap}
theorem sc_is_plain : FnScope ["args", "gates", "at", "arg"] ["args", "gates"] (defScope (top 70)) :=
  ⟨rfl, rfl, rfl, by decide +kernel, rfl, by decide +kernel, by decide +kernel⟩
def spPlain : Sp := fun vs H Q _ => ∃ (va : V) (args : List S) (d : Addr) (n : Net), vs = [va, .ref d] ∧ Rep H (strsD args) va ∧ GDl H d n.gates ∧ ∀ H', Same H H' → Q (.bl (n.plain args)) H'
theorem cal_is_plain (F : Df K mg "is_plain" "is_plain" 70) (B : Bl mg) (C_is_constant : Cal P w K mg base CX0 1 "is_constant" ["wire", "gates"] spCon) : Cal P w K mg base CX0 2 "is_plain" ["args", "gates"] spPlain := by
  refine F.cal sc_is_plain (fun vs H Q E h => ?_) (fun _ _ _ _ _ _ us hl => match us, hl with | [_, _], _ => rfl) (fun f cdv A outer s H vs Q E hr h => ?_)
  · obtain ⟨_, _, _, _, rfl, _⟩ := h
    rfl
  · obtain ⟨va, args, d, n, rfl, rv, gd, k⟩ := h
    refine ⟨_, (pss_cons (ps_for PassesOwn.never rfl (pi_enumT rfl B.enumerate (pa_cons (pv 0) pa_nil)) (pg_tup rfl (pgs_cons (pg_name (i := 2) sc_is_plain.nd rfl (Or.inl rfl)) (pgs_cons (pg_name (i := 3) sc_is_plain.nd rfl (Or.inl rfl)) pgs_nil)))
        (pss_one (ps_if (PW.pt (pw_or (pt_val (pe_callC C_is_constant (hr.mono (by decide)) rfl pass0 (pa_cons (pv 3) (pa_cons (pv 1) pa_nil)))) (pw_or1 (pt_cmpR op_in_seq (pv 3) (pe_slice sl_tupA (pv 0) po_none (po_some (pv 2))) (by rfl)))))
          (pss_one (ps_ret pe_bl))
          pss_nil)))
      (pss_one (ps_ret pe_bl))), ?_⟩
    obtain ⟨p, rfl, hp⟩ := rv.strs
    refine ⟨_, rfl, p, _, rfl, SqT.of hp, for_it walk_enumT (fun i σ H' => Same H H' ∧ (args.take i).Nodup ∧ (∀ a ∈ args.take i, n.isCon a = false) ∧ ∃ o2 o3, σ = [some (.ref p), some (.ref d), o2, o3]) ⟨Same.refl H, by simp, fun a ha => by simp at ha, _, _, rfl⟩ (fun i σ H' _ h => SqT.of (h.1 _ _ hp)) ?_ ?_⟩
    · rintro i x σ H1 H2 hi ⟨e1, nd, nc, o2, o3, rfl⟩ ⟨T, a, b, rfl, hT, rfl, ha, hb⟩
      obtain ⟨x, hx, rfl⟩ := strs_get hb
      cases ha
      rw [List.length_map] at hi
      have e2 := e1.trans (Same.new hT (o := .tup [.int (i : Nat), .str x]))
      refine ⟨T, _, rfl, SqT.of upd_same, rfl, _, _, rfl, _, _, rfl, rfl, ?_⟩
      refine ⟨_, rfl, _, rfl, x, d, n, rfl, gd.same e2, _, rfl, if2 (fun hc => iteT ?_) fun hc => ?_⟩
      · have := k _ e2
        rw [plain_false hx (.inl hc)] at this
        exact this
      refine ⟨_, rfl, _, rfl, _, rfl, _, rfl, rd_slT (e2 _ _ hp) (by rw [List.length_map]; omega) fun p2 H3 e3 h3 => ⟨p2, _, rfl, .inr (SqT.of h3), rfl, ?_, _, rfl, ?_⟩⟩
      · rw [← List.map_take]; exact flat_strs _
      · show if inV (V.str x) ((args.map V.str).take i) = true then _ else _
        rw [← List.map_take, inV_str]
        refine if2 (fun hm => ?_) fun hm => ?_
        · have := k _ (e2.trans e3)
          rw [plain_false hx (.inr (of_decide_eq_true hm))] at this
          exact this
        · have hm' := of_decide_eq_false hm
          refine ⟨e2.trans e3, ?_, ?_, _, _, rfl⟩
          · rw [take_succ hx]
            exact List.nodup_append.mpr ⟨nd, List.nodup_cons.mpr ⟨List.not_mem_nil, List.nodup_nil⟩, fun a ha b hb q => hm' (by rw [List.mem_singleton.mp hb] at q; rw [← q]; exact ha)⟩
          · intro a ha
            rcases (mem_take_succ hx).mp ha with q | q
            · exact nc a q
            · rw [q]; exact hc
    · rintro σ H1 ⟨e1, nd, nc, o2, o3, rfl⟩
      rw [List.length_map, List.take_length] at nd nc
      have : n.plain args = true := by
        unfold Net.plain
        rw [decide_eq_true nd, Bool.true_and, List.all_eq_true]
        intro a ha
        rw [nc a ha]; rfl
      rw [this] at k
      exact k _ e1
theorem sc_skipped : FnScope ["wire", "gates"] ["wire", "gates"] (defScope (top 71)) :=
  ⟨rfl, rfl, rfl, by decide +kernel, rfl, by decide +kernel, by decide +kernel⟩
def spSkip : Sp := fun vs H Q _ => ∃ (x : S) (d : Addr) (n : Net), vs = [.str x, .ref d] ∧ GDl H d n.gates ∧ (∀ g ∈ n.gates, g.args.length = g.op.ar) ∧ Q (.str (n.skipped x)) H
theorem cal_skipped (F : Df K mg "skipped" "skipped" 71) (C_has_op : Cal P w K mg base CX0 1 "has_op" ["wire", "op", "gates"] spHas) : Cal P w K mg base CX0 2 "skipped" ["wire", "gates"] spSkip := by
  refine F.cal sc_skipped (fun vs H Q E h => ?_) (fun _ _ _ _ _ _ us hl => match us, hl with | [_, _], _ => rfl) (fun f cdv A outer s H vs Q E hr h => ?_)
  · obtain ⟨_, _, _, rfl, _⟩ := h
    rfl
  · obtain ⟨x, d, n, rfl, gd, har, k⟩ := h
    refine ⟨_, (pss_one (ps_ret (pe_ifExp (pt_val (pe_callC C_has_op (hr.mono (by decide)) rfl pass0 (pa_cons (pv 0) (pa_cons pe_str (pa_cons (pv 1) pa_nil))))) (pe_ix (r := rIxT K) ix_tup (pe_ix (r := rIxT K) ix_tup (pe_dget (hu_of hr) (pv 1) (pv 0) (fun _ _ => rfl)) pe_int (fun _ _ => rfl)) pe_int (fun _ _ => rfl)) (pv 0)))), ?_⟩
    refine ⟨_, rfl, _, rfl, x, .buf, d, n, rfl, gd, _, rfl, ?_⟩
    unfold Net.skipped at k
    unfold Net.hasOp
    cases e : n.gate? x with
    | none =>
      rw [e] at k
      exact iteF ⟨_, rfl, k⟩
    | some g =>
      rw [e] at k
      refine if2 (fun hb => ?_) fun hb => ?_
      · have hb' := of_decide_eq_true hb
        have k : Q (.str (if g.op = .buf then g.args.headD x else x)) H := k
        rw [if_pos hb'] at k
        obtain ⟨v, hg, rg⟩ := gd.some e
        have hl := har g (gate?_mem e)
        rw [hb'] at hl
        obtain ⟨q, x1, x2, x3, rfl, hq, q1, q2, q3⟩ := rg.t3
        obtain ⟨p3, rfl, hp3⟩ := q3.strs
        cases ha : g.args with
        | nil => rw [ha] at hl; cases hl
        | cons a r =>
          rw [ha] at hp3 k
          exact ⟨_, rfl, _, rfl, d, _, rfl, hg, q, _, _, _, rfl, rfl, SqT.of hq, rfl, p3, _, _, _, rfl, rfl, SqT.of hp3, atI_nat (j := 0) rfl, k⟩
      · have hb' := of_decide_eq_false hb
        have k : Q (.str (if g.op = .buf then g.args.headD x else x)) H := k
        rw [if_neg hb'] at k
        exact ⟨_, rfl, k⟩
theorem sc_copied : FnScope ["wire", "op", "value", "free", "full", "at", "source"] ["wire", "op", "value", "free", "full"] (defScope (top 72)) :=
  ⟨rfl, rfl, rfl, by decide +kernel, rfl, by decide +kernel, by decide +kernel⟩
/-- what an optional gate looks like -/
def OG (H : Hp) : Option Gate → V → Prop
  | none, v => v = .non
  | some g, v => Rep H g.d v
def spCopied : Sp := fun vs H Q _ => ∃ (x : S) (o : Op) (val : Int) (l : Addr) (f : List S) (m : Nat), vs = [.str x, .str o.s, .int val, .ref l, .int (fullT m)] ∧ H l = some (.lst (f.map V.str)) ∧ f.length ≤ 3 ∧ m < 4 ∧ ∀ v H', Same H H' → OG H' (copiedF x o val (fullT m) 0 f) v → Q v H'
theorem copiedF_none {x : S} {o : Op} {v full : Int} : ∀ {f : List S} {i : Nat}, (∀ j, j < f.length → v ≠ inPat (i + j) full) → copiedF x o v full i f = none
  | [], _, _ => rfl
  | y :: r, i, h => by
    unfold copiedF
    rw [if_neg (show ¬ v = inPat i full by simpa using h 0 (by simp))]
    exact copiedF_none fun j hj => by
      have := h (j + 1) (by simp; omega)
      rwa [show i + (j + 1) = i + 1 + j by omega] at this
theorem copiedF_first {x : S} {o : Op} {v full : Int} : ∀ {f : List S} {i j : Nat} {y : S}, f[j]? = some y → v = inPat (i + j) full → (∀ k, k < j → v ≠ inPat (i + k) full) → copiedF x o v full i f = some ⟨x, o, [y]⟩
  | [], _, _, _, h, _, _ => by simp at h
  | z :: r, i, 0, y, h, e, _ => by
    unfold copiedF
    rw [if_pos (by simpa using e)]
    simp at h
    rw [h]
  | z :: r, i, j + 1, y, h, e, hk => by
    unfold copiedF
    rw [if_neg (show ¬ v = inPat i full by simpa using hk 0 (by omega))]
    refine copiedF_first (j := j) (by simpa using h) (by rw [e]; congr 1; omega) fun k hk' => ?_
    have := hk (k + 1) (by omega)
    rwa [show i + (k + 1) = i + 1 + k by omega] at this
theorem cal_copied (F : Df K mg "copied" "copied" 72) (B : Bl mg) (C_input_pattern : Cal P w K mg base CX0 1 "input_pattern" ["index", "full"] spPat) : Cal P w K mg base CX0 2 "copied" ["wire", "op", "value", "free", "full"] spCopied := by
  refine F.cal sc_copied (fun vs H Q E h => ?_) (fun _ _ _ _ _ _ us hl => match us, hl with | [_, _, _, _, _], _ => rfl) (fun f cdv A outer s H vs Q E hr h => ?_)
  · obtain ⟨_, _, _, _, _, _, rfl, _⟩ := h
    rfl
  · obtain ⟨x, o, val, l, f, m, rfl, hl, hf, hm, k⟩ := h
    refine ⟨_, (pss_cons (ps_for PassesOwn.never rfl (pi_enum rfl B.enumerate (pa_cons (pv 3) pa_nil)) (pg_tup rfl (pgs_cons (pg_name (i := 5) sc_copied.nd rfl (Or.inl rfl)) (pgs_cons (pg_name (i := 6) sc_copied.nd rfl (Or.inl rfl)) pgs_nil)))
        (pss_one (ps_if (pt_cmpR op_eq (pv 2) (pe_callC C_input_pattern (hr.mono (by decide)) rfl pass0 (pa_cons (pv 5) (pa_cons (pv 4) pa_nil))) (nomark _))
          (pss_one (ps_ret (pe_tup (pa_cons (pv 0) (pa_cons (pv 1) (pa_cons (pe_tup (pa_cons (pv 6) pa_nil)) pa_nil))))))
          pss_nil)))
      (pss_one (ps_ret pe_non))), ?_⟩
    refine ⟨_, rfl, l, _, rfl, SqL.of hl, for_it walk_enum (fun i σ H' => Same H H' ∧ (∀ j, j < i → val ≠ inPat j (fullT m)) ∧ ∃ o5 o6, σ = [some (.str x), some (.str o.s), some (.int val), some (.ref l), some (.int (fullT m)), o5, o6]) ⟨Same.refl H, (fun j hj => absurd hj (Nat.not_lt_zero _)), _, _, rfl⟩ (fun i σ H' _ h => SqL.of (h.1 _ _ hl)) ?_ ?_⟩
    · rintro i y σ H1 H2 hi ⟨e1, hn, o5, o6, rfl⟩ ⟨T, a, b, rfl, hT, rfl, ha, hb⟩
      obtain ⟨z, hz, rfl⟩ := strs_get hb
      cases ha
      rw [List.length_map] at hi
      have e2 := e1.trans (Same.new hT (o := .tup [.int (i : Nat), .str z]))
      refine ⟨T, _, rfl, SqT.of upd_same, rfl, _, _, rfl, _, _, rfl, rfl, ?_⟩
      refine ⟨_, rfl, _, rfl, _, rfl, i, m, rfl, by omega, hm, rfl, _, rfl, ?_⟩
      rw [eq_int]
      refine if2 (fun hb => ?_) fun hb => ?_
      · have hb' := of_decide_eq_true hb
        refine ⟨_, rfl, _, rfl, ⟨_, rfl, sz5 (by simp), fun t ht => ⟨sz5 (by simp), fun t2 ht2 => k _ _ ((e2.trans (Same.new ht)).trans (Same.new ht2)) ?_⟩⟩⟩
        rw [copiedF_first (i := 0) hz (by rw [Nat.zero_add]; exact hb') (fun j hj => by rw [Nat.zero_add]; exact hn j hj)]
        exact .tup upd_same (.cons (.str _) (.cons (.str _) (.cons (Rep.ofStrs (l := [z]) (Same.new ht2 _ _ upd_same)) .nil)))
      · have hb' := of_decide_eq_false hb
        refine ⟨e2, fun j hj => ?_, _, _, rfl⟩
        by_cases q : j = i
        · rw [q]; exact hb'
        · exact hn j (by omega)
    · rintro σ H1 ⟨e1, hn, o5, o6, rfl⟩
      rw [List.length_map] at hn
      refine k _ _ e1 ?_
      rw [copiedF_none fun j hj => by rw [Nat.zero_add]; exact hn j hj]
      rfl
end
end Wi
set_option maxHeartbeats 4000000
set_option maxRecDepth 100000
namespace Wi
open PySem L2 PySem.Spec PyProof.Rows
theorem idx_nd {f : List S} (nd : f.Nodup) {i : Nat} {x : S} (h : f[i]? = some x) : f.idxOf x = i := by
  have hm := List.mem_of_getElem? h
  have h1 := idx_at hm
  obtain ⟨a1, b1⟩ := List.getElem?_eq_some_iff.mp h
  obtain ⟨a2, b2⟩ := List.getElem?_eq_some_iff.mp h1
  exact (List.getElem_inj nd).mp (b2.trans b1.symm)
theorem freeF_pos {n : Net} {acc : List S} {a : S} (h : a ∈ acc ∨ n.isCon a = true) : n.freeF acc a = acc := if_pos h
theorem freeF_neg {n : Net} {acc : List S} {a : S} (h : ¬ (a ∈ acc ∨ n.isCon a = true)) : n.freeF acc a = acc ++ [a] := if_neg h
/-- the free wires' tables -/
def patD (f : List S) (full : Int) (fs : List S) : Str → Option V := fun x => if x ∈ fs then some (.int (inPat (f.idxOf x) full)) else none
theorem patD_some {f : List S} {full : Int} {fs : List S} {x : S} (h : x ∈ fs) : patD f full fs x = some (.int (inPat (f.idxOf x) full)) := if_pos h
theorem patD_none {f : List S} {full : Int} {fs : List S} {x : S} (h : x ∉ fs) : patD f full fs x = none := if_neg h
section
variable {P : Program} {w : World} {K : PySem.W.Frag} {mg : Str → Option Value} {base : Heap}
theorem sc_local_value : FnScope ["gate", "gates", "free", "arg", "full", "patterns", "at", "wire", "args"] ["gate", "gates"] (defScope (top 69)) :=
  ⟨rfl, rfl, rfl, by decide +kernel, rfl, by decide +kernel, by decide +kernel⟩
def spLoc : Sp := fun vs H Q _ => ∃ (vg : V) (g : Gate) (d : Addr) (n : Net), vs = [vg, .ref d] ∧ Rep H g.d vg ∧ g ∈ n.gates ∧ GDl H d n.gates ∧ Sound n ∧
  ∀ p lf H', Same H H' → H' p = some (.tup [.ref lf, .int (n.locV g), .int (fullT (n.free g.args).length)]) → H' lf = some (.lst ((n.free g.args).map V.str)) → Q (.ref p) H'
theorem cal_local_value (F : Df K mg "local_value" "local_value" 69) (B : Bl mg) (C_is_constant : Cal P w K mg base CX0 1 "is_constant" ["wire", "gates"] spCon) (C_full_table : Cal P w K mg base CX0 1 "full_table" ["count"] spFull)
    (C_input_pattern : Cal P w K mg base CX0 1 "input_pattern" ["index", "full"] spPat) (C_op_value_logic : Cal P w K mg base CX0 1 "op_value_logic" ["op", "args", "full"] spOpV) : Cal P w K mg base CX0 2 "local_value" ["gate", "gates"] spLoc := by
  refine F.cal sc_local_value (fun vs H Q E h => ?_) (fun _ _ _ _ _ _ us hl => match us, hl with | [_, _], _ => rfl) (fun f cdv A outer s H vs Q E hr h => ?_)
  · obtain ⟨_, _, _, _, rfl, _⟩ := h
    rfl
  · obtain ⟨vg, g, d, n, rfl, rg, hg, gd, hs, k⟩ := h
    refine ⟨_, (pss_cons (ps_set (i := 2) sc_local_value.nd rfl (Or.inl rfl) (pe_lst pa_nil))
      (pss_cons (ps_for PassesOwn.never rfl (pi_tup (pe_ix (r := rIxT K) ix_tup (pv 0) pe_int (fun _ _ => rfl))) (pg_name (i := 3) sc_local_value.nd rfl (Or.inl rfl))
        (pss_one (ps_if (PW.pt (pw_and (pt_cmpR op_notIn_seq (pv 3) (pv 2) (by rfl)) (pw_and1 (pt_not (pt_val (pe_callC C_is_constant (hr.mono (by decide)) rfl pass0 (pa_cons (pv 3) (pa_cons (pv 1) pa_nil))))))))
          (pss_one (ps_expr (pe_bm PySem.F.plainAttrs_list PySem.F.slot_list_append PySem.F.type_list_append mt_append (pv 2) (pa_cons (pv 3) pa_nil))))
          pss_nil)))
      (pss_cons (ps_set (i := 4) sc_local_value.nd rfl (Or.inr rfl) (pe_callC C_full_table (hr.mono (by decide)) rfl pass0 (pa_cons (pe_callB call_len_seq rfl B.len PySem.boot_len (pa_cons (pv 2) pa_nil)) pa_nil)))
      (pss_cons (ps_setDc (i := 5) (own := [("at", 6), ("wire", 7)]) rfl sc_local_value.nd rfl rfl (sw_trueD rfl rfl rfl (by decide +kernel)) (pi_enum rfl B.enumerate (pa_cons (pv 2) pa_nil)) (blkOk_by (N := ["gate", "gates", "free", "arg", "full", "patterns", "at", "wire", "args"]) (sc := defScope (top 69)) (own := [("at", 6), ("wire", 7)]) (by decide +kernel)) (fun _ _ _ _ _ => (pg_tupK (n := 2) (K := K) rfl rfl (pgs_cons (pg_name (i := 6) sc_local_value.nd rfl (Or.inl rfl)) (pgs_cons (pg_name (i := 7) sc_local_value.nd rfl (Or.inl rfl)) pgs_nil)))) (fun _ _ _ _ _ => pts_nil) (fun _ _ _ _ _ => (pv 7)) (fun _ _ _ _ _ => (pe_callC C_input_pattern (hr.mono (by decide)) rfl pass0 (pa_cons (pv 6) (pa_cons (pv 4) pa_nil)))))
      (pss_cons (ps_set (i := 8) sc_local_value.nd rfl (Or.inl rfl) (pe_lst pa_nil))
      (pss_cons (ps_for PassesOwn.never rfl (pi_tup (pe_ix (r := rIxT K) ix_tup (pv 0) pe_int (fun _ _ => rfl))) (pg_name (i := 3) sc_local_value.nd rfl (Or.inl rfl))
        (pss_one (ps_if (pt_cmp (pc_din (hu_of hr) (pv 3) (pv 5)))
          (pss_one (ps_expr (pe_bm PySem.F.plainAttrs_list PySem.F.slot_list_append PySem.F.type_list_append mt_append (pv 8) (pa_cons (pe_dget (hu_of hr) (pv 5) (pv 3) (fun _ _ => rfl)) pa_nil))))
          (pss_one (ps_if (pt_cmpR op_eq (pe_ix (r := rIxT K) ix_tup (pe_dget (hu_of hr) (pv 1) (pv 3) (fun _ _ => rfl)) pe_int (fun _ _ => rfl)) pe_str (nomark _))
            (pss_one (ps_expr (pe_bm PySem.F.plainAttrs_list PySem.F.slot_list_append PySem.F.type_list_append mt_append (pv 8) (pa_cons (pv 4) pa_nil))))
            (pss_one (ps_expr (pe_bm PySem.F.plainAttrs_list PySem.F.slot_list_append PySem.F.type_list_append mt_append (pv 8) (pa_cons pe_int pa_nil)))))))))
      (pss_one (ps_ret (pe_tup (pa_cons (pv 2) (pa_cons (pe_callC C_op_value_logic (hr.mono (by decide)) rfl pass0 (pa_cons (pe_ix (r := rIxT K) ix_tup (pv 0) pe_int (fun _ _ => rfl)) (pa_cons (pv 8) (pa_cons (pv 4) pa_nil)))) (pa_cons (pv 4) pa_nil)))))))))))), ?_⟩
    obtain ⟨q, x1, x2, x3, rfl, hq, q1, q2, q3⟩ := rg.t3
    rw [q1.eStr, q2.eStr] at hq
    obtain ⟨p3, rfl, hp3⟩ := q3.strs
    have har := args_of (hs := hs) hg
    have ok := free_ok (n := n) g.args
    have hfl := free_lt hs hg
    refine ⟨by decide, fun L hL => ?_⟩
    have e0 := Same.new (H := H) hL (o := .lst [])
    refine ⟨_, rfl, q, _, _, _, rfl, rfl, SqT.of (e0 _ _ hq), rfl, p3, rfl, ⟨_, SqT.of (e0 _ _ hp3)⟩, ?_⟩
    refine for_it (walk_tup (xs := g.args.map V.str)) (fun i σ H' => Same H H' ∧ H' L = some (.lst (((g.args.take i).foldl n.freeF []).map V.str)) ∧ ∃ o3, σ = [some (.ref q), some (.ref d), some (.ref L), o3, none, none, none, none, none]) ⟨e0, upd_same, _, rfl⟩ (fun i σ H' _ h => SqT.of (h.1 _ _ hp3)) ?_ ?_
    · rintro i y σ _ H1 hi ⟨e1, h1, o3, rfl⟩ ⟨rfl, hy⟩
      obtain ⟨a, ha, rfl⟩ := strs_get hy
      refine ⟨_, rfl, _, rfl, L, _, rfl, .inl (SqL.of h1), rfl, flat_strs _, _, rfl, ?_⟩
      show if (!inV (V.str a) (((g.args.take i).foldl n.freeF []).map V.str)) = true then _ else _
      rw [inV_str]
      have st : (g.args.take (i + 1)).foldl n.freeF [] = n.freeF ((g.args.take i).foldl n.freeF []) a := by rw [take_succ ha, List.foldl_append]; rfl
      have stay : (a ∈ (g.args.take i).foldl n.freeF [] ∨ n.isCon a = true) → Same H H1 ∧ H1 L = some (.lst (((g.args.take (i + 1)).foldl n.freeF []).map V.str)) ∧ ∃ o3', ([some (V.ref q), some (V.ref d), some (V.ref L), some (V.str a), none, none, none, none, none] : L2.St) = [some (.ref q), some (.ref d), some (.ref L), o3', none, none, none, none, none] := fun c => by
        refine ⟨e1, ?_, _, rfl⟩
        rw [st, freeF_pos c]
        exact h1
      refine if2 (fun hm => ⟨_, rfl, _, rfl, a, d, n, rfl, gd.same e1, _, rfl, ?_⟩) fun hm => iteF (stay (.inl (by simpa using hm)))
      refine if2 (fun hc => ?_) fun hc => stay (.inr (by simpa using hc))
      have hm' : a ∉ (g.args.take i).foldl n.freeF [] := by simpa using hm
      have hc' : n.isCon a = false := by simpa using hc
      refine ⟨_, rfl, .inl ⟨rfl, _, SqL.of h1⟩, _, rfl, L, _, _, rfl, rfl, h1, ?_, e1.mut hL, ?_, _, rfl⟩
      · have := (foldl_free (n := n) (g.args.take i) [] [] ⟨List.nodup_nil, (fun _ h => nomatch h), (fun _ h => nomatch h), Nat.le_refl _⟩).len
        rw [List.nil_append, List.length_take] at this
        rw [List.length_map]
        exact sz5' (by omega)
      · rw [upd_same, st, freeF_neg (fun z => z.elim hm' (by rw [hc']; exact Bool.false_ne_true)), List.map_append]
        rfl
    · rintro σ H1 ⟨e1, h1, o3, rfl⟩
      rw [List.length_map, List.take_length] at h1
      have h1 : H1 L = some (.lst ((n.free g.args).map V.str)) := h1
      refine ⟨_, rfl, _, _, rfl, .inl (SqL.of h1), (n.free g.args).length, by rw [List.length_map]; rfl, hfl, ?_⟩
      refine ⟨_, rfl, L, _, rfl, SqL.of h1, fun D hD => ?_⟩
      refine dc_it (walk_enum (a := L) (xs := (n.free g.args).map V.str)) (tt := tYes) (fun i H' => Same H1 H' ∧ SD H' D i (patD (n.free g.args) (fullT (n.free g.args).length) ((n.free g.args).take i))) ⟨(Same.refl H1).mut hD, SD.new.imp fun x => (patD_none (by simp)).symm⟩ (fun i H' _ h => SqL.of (h.1 _ _ h1)) ?_ ?_
      · rintro i y H2 H3 hi ⟨e2, sd⟩ ⟨T, a, b, rfl, hT, rfl, ha, hb⟩
        obtain ⟨z, hz, rfl⟩ := strs_get hb
        cases ha
        rw [List.length_map] at hi
        have e3 := Same.new hT (o := .tup [.int (i : Nat), .str z])
        obtain ⟨kvs, a1, a2, a3⟩ := (sd.same e3).put (by omega) z (.int (inPat i (fullT (n.free g.args).length)))
        have hlen : kvs.length < sizeLine := by
          obtain ⟨kvs', z1, z2, _⟩ := (sd.same e3).ex
          rw [a1] at z1
          cases z1
          exact sz5' (by omega)
        refine ⟨T, _, rfl, SqT.of upd_same, rfl, _, _, rfl, _, _, rfl, rfl, rfl, _, rfl, _, rfl, _, rfl, i, _, rfl, by omega, hfl, kvs, Sum.inr z, rfl, a1, hlen, (e2.trans e3).mut hD, a3.imp fun x => ?_⟩
        rw [take_succ hz]
        unfold patD
        by_cases c : x = z
        · rw [if_pos c, if_pos (List.mem_append_right _ (List.mem_singleton.mpr c)), c, idx_nd ok.nd hz]
        · rw [if_neg c]
          simp only [List.mem_append, List.mem_singleton, c, or_false]
      · rintro H2 ⟨e2, sd⟩
        rw [List.length_map, List.take_length] at sd
        have e02 := e1.trans e2
        refine ⟨by decide, fun M hM => ?_⟩
        have e3 := Same.new hM (o := .lst [])
        have e03 := e02.trans e3
        refine ⟨_, rfl, q, _, _, _, rfl, rfl, SqT.of (e03 _ _ hq), rfl, p3, rfl, ⟨_, SqT.of (e03 _ _ hp3)⟩, ?_⟩
        refine for_it (walk_tup (xs := g.args.map V.str)) (fun i σ H' => Same H2 H' ∧ H' M = some (.lst (((g.args.take i).map (n.argV (n.free g.args) (fullT (n.free g.args).length))).map V.int)) ∧ ∃ o3 o6 o7, σ = [some (.ref q), some (.ref d), some (.ref L), o3, some (.int (fullT (n.free g.args).length)), some (.ref D), o6, o7, some (.ref M)]) ⟨e3, upd_same, _, _, _, rfl⟩ (fun i σ H' _ h => SqT.of ((e02.trans h.1) _ _ hp3)) ?_ ?_
        · rintro i y σ _ H3 hi ⟨e4, h4, o3, o6, o7, rfl⟩ ⟨rfl, hy⟩
          obtain ⟨a, ha, rfl⟩ := strs_get hy
          have ham := List.mem_of_getElem? ha
          have gget := (sd.same e4).get a
          have fin : ∀ z, n.argV (n.free g.args) (fullT (n.free g.args).length) a = z → (((g.args.take i).map (n.argV (n.free g.args) (fullT (n.free g.args).length))).map V.int).length < sizeLine ∧ (Same H2 (upd H3 M (.lst (((g.args.take i).map (n.argV (n.free g.args) (fullT (n.free g.args).length))).map V.int ++ [V.int z]))) ∧ upd H3 M (.lst (((g.args.take i).map (n.argV (n.free g.args) (fullT (n.free g.args).length))).map V.int ++ [V.int z])) M = some (.lst (((g.args.take (i + 1)).map (n.argV (n.free g.args) (fullT (n.free g.args).length))).map V.int)) ∧ ∃ o3' o6' o7', ([some (V.ref q), some (V.ref d), some (V.ref L), some (V.str a), some (.int (fullT (n.free g.args).length)), some (.ref D), o6, o7, some (.ref M)] : L2.St) = [some (.ref q), some (.ref d), some (.ref L), o3', some (.int (fullT (n.free g.args).length)), some (.ref D), o6', o7', some (.ref M)]) := fun z hz => by
            refine ⟨?_, e4.mut hM, ?_, _, _, _, rfl⟩
            · rw [List.length_map, List.length_map, List.length_take]
              exact sz5' (by omega)
            · rw [upd_same, take_succ ha, List.map_append, List.map_append, ← hz]; rfl
          refine ⟨_, rfl, _, rfl, D, _, rfl, gget, _, rfl, ?_⟩
          by_cases hf : a ∈ n.free g.args
          · rw [patD_some hf] at gget ⊢
            refine ifT rfl ⟨_, rfl, .inl ⟨rfl, _, SqL.of h4⟩, _, rfl, _, rfl, D, _, rfl, gget, M, _, _, rfl, rfl, h4, ?_⟩
            have := fin _ (by unfold Net.argV; rw [if_pos hf])
            exact this
          · rw [patD_none hf]
            have hcon : n.isCon a = true := by
              cases h : n.isCon a with
              | true => rfl
              | false => exact absurd (ok.has a ham h) hf
            refine ifF rfl ?_
            have hcon' := hcon
            unfold Net.isCon at hcon
            cases e : n.gate? a with
            | none => rw [e] at hcon; cases hcon
            | some gg =>
              obtain ⟨v, hv, rgg⟩ := (gd.same (e02.trans e4)).some e
              obtain ⟨q', y1, y2, y3, rfl, hq', z1, z2, z3⟩ := rgg.t3
              rw [z2.eStr] at hq'
              refine ⟨_, rfl, _, rfl, d, _, rfl, hv, q', _, _, _, rfl, rfl, SqT.of hq', rfl, rfl, _, rfl, ?_⟩
              have hop : n.hasOp a .one = decide (gg.op = .one) := by unfold Net.hasOp; rw [e]
              refine if2 (fun hb => ?_) fun hb => ?_
              all_goals replace hb := (opS_eq gg.op .one).symm.trans hb
              · refine ⟨_, rfl, .inl ⟨rfl, _, SqL.of h4⟩, _, rfl, M, _, _, rfl, rfl, h4, ?_⟩
                exact fin _ (by unfold Net.argV; rw [if_neg hf, hop, if_pos hb])
              · refine ⟨_, rfl, .inl ⟨rfl, _, SqL.of h4⟩, M, _, _, rfl, rfl, h4, ?_⟩
                exact fin _ (by unfold Net.argV; rw [if_neg hf, hop, hb]; rfl)
        · rintro σ H3 ⟨e4, h4, o3, o6, o7, rfl⟩
          rw [List.length_map, List.take_length] at h4
          have e04 := e02.trans e4
          refine ⟨_, rfl, _, rfl, q, _, _, _, rfl, rfl, SqT.of (e04 _ _ hq), rfl, _, rfl, _, rfl, g.op, M, _, _, rfl, h4, by rw [List.length_map]; exact hs.ar g hg, _, rfl, sz5 (by simp), fun p hp => ?_⟩
          exact k p L _ (e04.trans (Same.new hp)) upd_same ((Same.new hp) _ _ ((e2.trans e4) _ _ h1))
end
end Wi
set_option maxHeartbeats 4000000
set_option maxRecDepth 100000
namespace Wi
open PySem L2 PySem.Spec PyProof.Rows
theorem ruleS_eq (o o' : Rule) : decide (V.str o.s = V.str o'.s) = decide (o = o') := by
  rw [eq_str]
  cases o <;> cases o' <;> decide +kernel
/-- rules of the tables -/
def Rule.tab (r : Rule) : Bool := match r with
  | .fold => true
  | .pass => true
  | .turn => true
  | .thin => true
  | _ => false
def Rule.lnk (r : Rule) : Bool := match r with
  | .skip => true
  | .double => true
  | .share => true
  | .swap => true
  | _ => false
theorem rep_gate {H : Hp} {x : S} {o : Op} {args : List S} {t : Addr} {v : V} (h : H t = some (.tup [.str x, .str o.s, v])) (r : Rep H (strsD args) v) : Rep H (Gate.d ⟨x, o, args⟩) (.ref t) :=
  .tup h (.cons (.str _) (.cons (.str _) (.cons r .nil)))
/-! ### texts as data -/
theorem ok_wire {x : S} (h : Wire x) : SeqAt.shaped (.str x) = true ∧ PyData.strOk x = true := by
  obtain ⟨l, hne, hl, hn, rfl⟩ := h
  have : PyData.strOk (dotted l) = true := by
    unfold PyData.strOk
    rw [Array.all_eq_true']
    intro c hc
    have key : ∀ (l : List S), (∀ y ∈ l, isName y = true) → ∀ c ∈ ls (dotted l), c < 0x110000 := by
      intro l
      induction l with
      | nil => intro _ c hc; exact absurd hc List.not_mem_nil
      | cons x l ih =>
        intro hn c hc
        have hx : ∀ c ∈ ls x, c < 0x110000 := fun c hc => by
          obtain ⟨_, _, _, _, h3, _⟩ := name_head (hn x (List.mem_cons_self ..))
          rcases h3 c hc with h | h
          · unfold az at h; simp at h; omega
          · unfold dg at h; simp at h; omega
        by_cases e : l = []
        · subst e; exact hx c hc
        · rw [dotted_cons x e, ls_app, ls_app] at hc
          rcases List.mem_append.mp hc with q | q
          · rcases List.mem_append.mp q with q | q
            · exact hx c q
            · rw [ls_dot] at q
              rw [List.mem_singleton.mp q]; decide
          · exact ih (fun y hy => hn y (List.mem_cons_of_mem _ hy)) c q
    exact decide_eq_true (key l hn c (Array.mem_def.mp hc))
  refine ⟨?_, this⟩
  unfold SeqAt.shaped PyData.canLay0
  rw [this]; rfl
theorem dpAll_strs {K : PySem.W.Frag} {H : Hp} : ∀ l : List S, DpAll K H (l.map V.str) (l.map PyData.str)
  | [] => .nil
  | x :: l => .cons (.str x) (dpAll_strs l)
theorem dp_strs {K : PySem.W.Frag} {H : Hp} {p : Addr} {l : List S} (h : H p = some (.tup (l.map V.str))) : Dp K H (.ref p) (.tuple (l.map PyData.str)) := .tup (SqT.of h) (dpAll_strs l)
theorem lay_strs : ∀ {l : List S}, (∀ x ∈ l, Wire x) → PyData.canLayAll0 (l.map PyData.str) = true ∧ PyData.depthAll (l.map PyData.str) = 0
  | [], _ => ⟨rfl, rfl⟩
  | x :: l, h => by
    obtain ⟨h1, h2⟩ := lay_strs fun y hy => h y (List.mem_cons_of_mem _ hy)
    simp only [List.map_cons, PyData.canLayAll0, PyData.depthAll, PyData.canLay0, PyData.depth, h1, h2, (ok_wire (h x (List.mem_cons_self ..))).2]
    exact ⟨rfl, rfl⟩
theorem shaped_strs {l : List S} (h : ∀ x ∈ l, Wire x) : SeqAt.shaped (.tuple (l.map PyData.str)) = true := by
  obtain ⟨h1, h2⟩ := lay_strs h
  unfold SeqAt.shaped
  simp only [PyData.canLay0, PyData.depth, h1, h2]
  rfl
theorem eqv_strs : ∀ l m : List S, PyData.eqv (.tuple (l.map PyData.str)) (.tuple (m.map PyData.str)) = decide (l = m)
  | [], [] => rfl
  | [], _ :: _ => rfl
  | _ :: _, [] => rfl
  | x :: l, y :: m => by
    have ih := eqv_strs l m
    simp only [PyData.eqv] at ih
    simp only [List.map_cons, PyData.eqv, PyData.eqvAll, ih]
    by_cases e : x = y
    · subst e; simp
    · simp [e]
section
variable {P : Program} {w : World} {K : PySem.W.Frag} {mg : Str → Option Value} {base : Heap}
theorem sc_table_step : FnScope ["rule", "gate", "gates", "wire", "op", "args", "free", "value", "full"] ["rule", "gate", "gates"] (defScope (top 73)) :=
  ⟨rfl, rfl, rfl, by decide +kernel, rfl, by decide +kernel, by decide +kernel⟩
def spTable : Sp := fun vs H Q _ => ∃ (r : Rule) (vg : V) (g : Gate) (d : Addr) (n : Net), vs = [.str r.s, vg, .ref d] ∧ r.tab = true ∧ Rep H g.d vg ∧ g ∈ n.gates ∧ GDl H d n.gates ∧ Sound n ∧ ∀ v H', Same H H' → OG H' (n.tableStep r g) v → Q v H'
theorem cal_table_step (F : Df K mg "table_step" "table_step" 73) (B : Bl mg) (G : GC K w mg) (C_is_plain : Cal P w K mg base CX0 2 "is_plain" ["args", "gates"] spPlain) (C_local_value : Cal P w K mg base CX0 2 "local_value" ["gate", "gates"] spLoc)
    (C_copied : Cal P w K mg base CX0 2 "copied" ["wire", "op", "value", "free", "full"] spCopied) : Cal P w K mg base CX0 3 "table_step" ["rule", "gate", "gates"] spTable := by
  refine F.cal sc_table_step (fun vs H Q E h => ?_) (fun _ _ _ _ _ _ us hl => match us, hl with | [_, _, _], _ => rfl) (fun f cdv A outer s H vs Q E hr h => ?_)
  · obtain ⟨_, _, _, _, _, rfl, _⟩ := h
    rfl
  · obtain ⟨r, vg, g, d, n, rfl, htab, rg, hg, gd, hs, k⟩ := h
    obtain ⟨aC, g_CONSTANT, hC⟩ := G.CONSTANT
    refine ⟨_, (pss_cons (ps_asg (pv 1) (pg_tup rfl (pgs_cons (pg_name (i := 3) sc_table_step.nd rfl (Or.inl rfl)) (pgs_cons (pg_name (i := 4) sc_table_step.nd rfl (Or.inl rfl)) (pgs_cons (pg_name (i := 5) sc_table_step.nd rfl (Or.inl rfl)) pgs_nil)))))
      (pss_cons (ps_if (PW.pt (pw_or (pt_cmpR op_in_seq (pv 4) (pe_globR rfl g_CONSTANT) (by rfl)) (pw_or1 (pt_val (pe_callC C_is_plain (hr.mono (by decide)) rfl pass0 (pa_cons (pv 5) (pa_cons (pv 2) pa_nil)))))))
        (pss_one (ps_ret pe_non))
        pss_nil)
      (pss_cons (ps_asg (pe_callC C_local_value (hr.mono (by decide)) rfl pass0 (pa_cons (pv 1) (pa_cons (pv 2) pa_nil))) (pg_tup rfl (pgs_cons (pg_name (i := 6) sc_table_step.nd rfl (Or.inl rfl)) (pgs_cons (pg_name (i := 7) sc_table_step.nd rfl (Or.inl rfl)) (pgs_cons (pg_name (i := 8) sc_table_step.nd rfl (Or.inl rfl)) pgs_nil)))))
      (pss_cons (ps_if (pt_cmpR op_eq (pv 0) pe_str (nomark _))
        (pss_cons (ps_if (pt_cmpR op_eq (pv 7) pe_int (nomark _))
          (pss_one (ps_ret (pe_tup (pa_cons (pv 3) (pa_cons pe_str (pa_cons (pe_tup pa_nil) pa_nil))))))
          pss_nil)
        (pss_one (ps_ret (pe_ifExp (pt_cmpR op_eq (pv 7) (pv 8) (nomark _)) (pe_tup (pa_cons (pv 3) (pa_cons pe_str (pa_cons (pe_tup pa_nil) pa_nil)))) pe_non))))
        pss_nil)
      (pss_cons (ps_if (pt_cmpR op_eq (pv 0) pe_str (nomark _))
        (pss_one (ps_ret (pe_ifExp (pt_cmpR op_eq (pv 4) pe_str (nomark _)) pe_non (pe_callC C_copied (hr.mono (by decide)) rfl pass0 (pa_cons (pv 3) (pa_cons pe_str (pa_cons (pv 7) (pa_cons (pv 6) (pa_cons (pv 8) pa_nil)))))))))
        pss_nil)
      (pss_cons (ps_if (pt_cmpR op_eq (pv 0) pe_str (nomark _))
        (pss_one (ps_ret (pe_ifExp (pt_cmpR op_eq (pv 4) pe_str (nomark _)) pe_non (pe_callC C_copied (hr.mono (by decide)) rfl pass0 (pa_cons (pv 3) (pa_cons pe_str (pa_cons (pe_op op_xor (pv 8) (pv 7)) (pa_cons (pv 6) (pa_cons (pv 8) pa_nil)))))))))
        pss_nil)
      (pss_cons (ps_if (PW.pt (pw_or (pt_cmpR op_ne (pv 4) pe_str (nomark _)) (pw_or1 (pt_cmpR op_ne (pe_callB call_len_seq rfl B.len PySem.boot_len (pa_cons (pv 6) pa_nil)) pe_int (nomark _)))))
        (pss_one (ps_ret pe_non))
        pss_nil)
      (pss_cons (ps_if (pt_cmpR op_eq (pv 7) (pe_globI rfl G.AND_TABLE) (nomark _))
        (pss_one (ps_ret (pe_tup (pa_cons (pv 3) (pa_cons pe_str (pa_cons (pe_callTy call_tuple_of rfl B.tuple (by decide +kernel) (pa_cons (pv 6) pa_nil)) pa_nil))))))
        pss_nil)
      (pss_one (ps_ret (pe_ifExp (pt_cmpR op_eq (pv 7) (pe_globI rfl G.OR_TABLE) (nomark _)) (pe_tup (pa_cons (pv 3) (pa_cons pe_str (pa_cons (pe_callTy call_tuple_of rfl B.tuple (by decide +kernel) (pa_cons (pv 6) pa_nil)) pa_nil)))) pe_non))))))))))), ?_⟩
    obtain ⟨q, x1, x2, x3, rfl, hq, q1, q2, q3⟩ := rg.t3
    rw [q1.eStr, q2.eStr] at hq
    obtain ⟨p3, rfl, hp3⟩ := q3.strs
    have hfl := free_lt hs hg
    refine ⟨_, rfl, q, _, rfl, SqT.of hq, rfl, _, _, rfl, _, _, rfl, _, _, rfl, rfl, ?_⟩
    refine ⟨_, rfl, aC, _, rfl, .inr (hC H), rfl, rfl, _, rfl, ?_⟩
    show if inV (V.str g.op.s) [V.str Op.zero.s, V.str Op.one.s] = true then _ else _
    rw [con_in]
    unfold Net.tableStep at k
    refine if2 (fun hc => iteT ?_) fun hc => ⟨_, rfl, _, rfl, _, g.args, d, n, rfl, q3, gd, fun H1 e1 => ⟨_, rfl, if2 (fun hpl => ?_) fun hpl => ?_⟩⟩
    · rw [if_pos (.inl hc)] at k
      exact k _ _ (Same.refl H) rfl
    · rw [if_pos (.inr hpl)] at k
      exact k _ _ e1 rfl
    rw [if_neg (fun z => z.elim (by rw [hc]; exact Bool.false_ne_true) (by rw [hpl]; exact Bool.false_ne_true))] at k
    refine ⟨_, rfl, _, rfl, _, g, d, n, rfl, rg.ex e1, hg, gd.same e1, hs, fun p lf H2 e2 hp hlf => ?_⟩
    refine ⟨p, _, rfl, SqT.of hp, rfl, _, _, rfl, _, _, rfl, _, _, rfl, rfl, ?_⟩
    have e02 := e1.trans e2
    have nil2 : ∀ (o : Op) (t t2 : Addr), H2 t = none → upd H2 t (.tup []) t2 = none → Rep (upd (upd H2 t (.tup [])) t2 (.tup [.str g.w, .str o.s, .ref t])) (Gate.d ⟨g.w, o, []⟩) (.ref t2) := fun o t t2 ht ht2 => rep_gate upd_same (Rep.ofStrs (l := []) (Same.new ht2 _ _ upd_same))
    cases r with
    | skip => cases htab
    | double => cases htab
    | share => cases htab
    | swap => cases htab
    | drop => cases htab
    | fold =>
      dsimp only at k
      refine ⟨_, rfl, rfl, _, rfl, ifT (ruleS_eq .fold .fold) ⟨_, rfl, rfl, _, rfl, ?_⟩⟩
      rw [eq_int]
      refine if2 (fun hz => ?_) fun hz => ?_
      · rw [if_pos (of_decide_eq_true hz)] at k
        exact ⟨_, rfl, sz5 (by simp), fun t ht => ⟨sz5 (by simp), fun t2 ht2 => k _ _ (e02.trans ((Same.new ht).trans (Same.new ht2))) (nil2 .zero t t2 ht ht2)⟩⟩
      · rw [if_neg (of_decide_eq_false hz)] at k
        refine ⟨_, rfl, _, rfl, rfl, _, rfl, ?_⟩
        rw [eq_int]
        refine if2 (fun hz => ?_) fun hz => ?_
        · rw [if_pos (of_decide_eq_true hz)] at k
          exact ⟨_, rfl, sz5 (by simp), fun t ht => ⟨sz5 (by simp), fun t2 ht2 => k _ _ (e02.trans ((Same.new ht).trans (Same.new ht2))) (nil2 .one t t2 ht ht2)⟩⟩
        · rw [if_neg (of_decide_eq_false hz)] at k
          exact k _ _ e02 rfl
    | pass =>
      dsimp only at k
      refine ⟨_, rfl, rfl, _, rfl, ifF (ruleS_eq .pass .fold) ⟨_, rfl, rfl, _, rfl, ifT (ruleS_eq .pass .pass) ⟨_, rfl, rfl, _, rfl, ?_⟩⟩⟩
      refine if2 (fun hz => ?_) fun hz => ?_
      all_goals replace hz := (opS_eq g.op .buf).symm.trans hz
      · rw [if_pos (of_decide_eq_true hz)] at k
        exact k _ _ e02 rfl
      · rw [if_neg (of_decide_eq_false hz)] at k
        exact ⟨_, rfl, _, rfl, _, rfl, _, rfl, g.w, .buf, _, lf, _, _, rfl, hlf, by omega, hfl, fun v H3 e3 og => k _ _ (e02.trans e3) og⟩
    | turn =>
      dsimp only at k
      refine ⟨_, rfl, rfl, _, rfl, ifF (ruleS_eq .turn .fold) ⟨_, rfl, rfl, _, rfl, ifF (ruleS_eq .turn .pass) ⟨_, rfl, rfl, _, rfl, ifT (ruleS_eq .turn .turn) ⟨_, rfl, rfl, _, rfl, ?_⟩⟩⟩⟩
      refine if2 (fun hz => ?_) fun hz => ?_
      all_goals replace hz := (opS_eq g.op .not).symm.trans hz
      · rw [if_pos (of_decide_eq_true hz)] at k
        exact k _ _ e02 rfl
      · rw [if_neg (of_decide_eq_false hz)] at k
        exact ⟨_, rfl, _, rfl, _, rfl, _, _, rfl, rfl, _, rfl, _, rfl, g.w, .not, _, lf, _, _, rfl, hlf, by omega, hfl, fun v H3 e3 og => k _ _ (e02.trans e3) og⟩
    | thin =>
      dsimp only at k
      refine ⟨_, rfl, rfl, _, rfl, ifF (ruleS_eq .thin .fold) ⟨_, rfl, rfl, _, rfl, ifF (ruleS_eq .thin .pass) ⟨_, rfl, rfl, _, rfl, ifF (ruleS_eq .thin .turn) ⟨_, rfl, rfl, _, rfl, ?_⟩⟩⟩⟩
      show if (!decide (V.str g.op.s = V.str Op.mux.s)) = true then _ else _
      rw [opS_eq]
      refine if2 (fun hz => iteT ?_) fun hz => ⟨_, rfl, _, _, rfl, .inl (SqL.of hlf), rfl, _, rfl, ?_⟩
      · rw [if_pos (.inl (by simpa using hz))] at k
        exact k _ _ e02 rfl
      have hmux : g.op = .mux := by simpa using hz
      show if (!decide (V.int (((n.free g.args).map V.str).length : Nat) = V.int 2)) = true then _ else _
      rw [eq_int, List.length_map]
      refine if2 (fun hz2 => ?_) fun hz2 => ?_
      · rw [if_pos (.inr (fun z => by rw [z] at hz2; exact absurd hz2 (by decide)))] at k
        exact k _ _ e02 rfl
      have h2 : (n.free g.args).length = 2 := by
        have : (((n.free g.args).length : Nat) : Int) = 2 := by simpa using hz2
        omega
      rw [if_neg (fun z => z.elim (fun y => y hmux) (fun y => y h2))] at k
      have tup : ∀ (o : Op) (t t2 : Addr), H2 t = none → upd H2 t (.tup ((n.free g.args).map V.str)) t2 = none → Rep (upd (upd H2 t (.tup ((n.free g.args).map V.str))) t2 (.tup [.str g.w, .str o.s, .ref t])) (Gate.d ⟨g.w, o, n.free g.args⟩) (.ref t2) := fun o t t2 ht ht2 => rep_gate upd_same (Rep.ofStrs (Same.new ht2 _ _ upd_same))
      refine ⟨_, rfl, rfl, _, rfl, ?_⟩
      rw [eq_int]
      refine if2 (fun hz => ?_) fun hz => ?_
      · rw [if_pos (of_decide_eq_true hz)] at k
        exact ⟨_, rfl, _, rfl, lf, _, rfl, .inl ⟨SqL.of hlf, fun t ht => ⟨sz5 (by simp), fun t2 ht2 => k _ _ (e02.trans ((Same.new ht).trans (Same.new ht2))) (tup .and t t2 ht ht2)⟩⟩⟩
      · rw [if_neg (of_decide_eq_false hz)] at k
        refine ⟨_, rfl, rfl, _, rfl, ?_⟩
        rw [eq_int]
        refine if2 (fun hz => ?_) fun hz => ?_
        · rw [if_pos (of_decide_eq_true hz)] at k
          exact ⟨_, rfl, _, rfl, lf, _, rfl, .inl ⟨SqL.of hlf, fun t ht => ⟨sz5 (by simp), fun t2 ht2 => k _ _ (e02.trans ((Same.new ht).trans (Same.new ht2))) (tup .or t t2 ht ht2)⟩⟩⟩
        · rw [if_neg (of_decide_eq_false hz)] at k
          exact k _ _ e02 rfl
end
end Wi
set_option maxHeartbeats 4000000
set_option maxRecDepth 100000
namespace Wi
open PySem L2 PySem.Spec PyProof.Rows
theorem sym_in (o : Op) : inV (.str o.s) [V.str Op.and.s, V.str Op.or.s, V.str Op.xor.s] = o.sym := by cases o <;> decide +kernel
theorem sym_ar {o : Op} (h : o.sym = true) : o.ar = 2 := by cases o <;> first | rfl | cases h
theorem firstOf_self {n : Net} {g : Gate} (hg : g ∈ n.gates) : ∃ f, n.firstOf g.op g.args = some f := by
  unfold Net.firstOf
  cases h : n.gates.find? (fun d => decide (d.op = g.op ∧ d.args = g.args)) with
  | some d => exact ⟨d.w, rfl⟩
  | none =>
    have := List.find?_eq_none.mp h g hg
    simp at this
section
variable {P : Program} {w : World} {K : PySem.W.Frag} {mg : Str → Option Value} {base : Heap}
theorem sc_link_step : FnScope ["rule", "gate", "known", "wire", "op", "args", "gates", "after", "arg", "first"] ["rule", "gate", "known"] (defScope (top 74)) :=
  ⟨rfl, rfl, rfl, by decide +kernel, rfl, by decide +kernel, by decide +kernel⟩
def spLink (P : Program) (w : World) : Sp := fun vs H Q _ => ∃ (r : Rule) (vg vk : V) (g : Gate) (n : Net), vs = [.str r.s, vg, vk] ∧ r.lnk = true ∧ Rep H g.d vg ∧ g ∈ n.gates ∧ KN P w H vk n ∧ Sound n ∧ ∀ v H', Same H H' → OG H' (n.linkStep r g) v → Q v H'
theorem cal_link_step (F : Df K mg "link_step" "link_step" 74) (B : Bl mg) (G : GC K w mg) (C_skipped : Cal P w K mg base CX0 2 "skipped" ["wire", "gates"] spSkip) (C_has_op : Cal P w K mg base CX0 1 "has_op" ["wire", "op", "gates"] spHas) : Cal P w K mg base CX0 3 "link_step" ["rule", "gate", "known"] (spLink P w) := by
  refine F.cal sc_link_step (fun vs H Q E h => ?_) (fun _ _ _ _ _ _ us hl => match us, hl with | [_, _, _], _ => rfl) (fun f cdv A outer s H vs Q E hr h => ?_)
  · obtain ⟨_, _, _, _, _, rfl, _⟩ := h
    rfl
  · obtain ⟨r, vg, vk, g, n, rfl, hlnk, rg, hg, kn, hs, k⟩ := h
    obtain ⟨aC, g_CONSTANT, hC⟩ := G.CONSTANT
    refine ⟨_, (pss_cons (ps_asg (pv 1) (pg_tup rfl (pgs_cons (pg_name (i := 3) sc_link_step.nd rfl (Or.inl rfl)) (pgs_cons (pg_name (i := 4) sc_link_step.nd rfl (Or.inl rfl)) (pgs_cons (pg_name (i := 5) sc_link_step.nd rfl (Or.inl rfl)) pgs_nil)))))
      (pss_cons (ps_set (i := 6) sc_link_step.nd rfl (Or.inr rfl) (pe_ix (r := rIxT K) ix_tup (pv 2) pe_int (fun _ _ => rfl)))
      (pss_cons (ps_if (pt_cmpR op_eq (pv 0) pe_str (nomark _))
        (pss_cons (ps_set (i := 7) sc_link_step.nd rfl (Or.inl rfl) (pe_callTy call_tuple_of rfl B.tuple (by decide +kernel) (pa_cons (pe_lc (own := [("arg", 8)]) rfl sc_link_step.nd (pi_tup (pv 5)) (blkOk_by (N := ["rule", "gate", "known", "wire", "op", "args", "gates", "after", "arg", "first"]) (sc := defScope (top 74)) (own := [("arg", 8)]) (by decide +kernel)) (fun _ _ _ _ _ => (pg_name (i := 8) sc_link_step.nd rfl (Or.inl rfl))) (fun _ _ _ _ _ => pts_nil) (fun _ _ _ _ _ => (pe_callC C_skipped (hr.mono (by decide)) rfl pass0 (pa_cons (pv 8) (pa_cons (pv 6) pa_nil))))) pa_nil)))
        (pss_one (ps_ret (pe_ifExp (pt_cmpR (op_neD hr.units) (pv 7) (pv 5) (nomark _)) (pe_tup (pa_cons (pv 3) (pa_cons (pv 4) (pa_cons (pv 7) pa_nil)))) pe_non))))
        pss_nil)
      (pss_cons (ps_if (pt_cmpR op_eq (pv 0) pe_str (nomark _))
        (pss_cons (ps_if (PW.pt (pw_and (pt_cmpR op_eq (pv 4) pe_str (nomark _)) (pw_and1 (pt_val (pe_callC C_has_op (hr.mono (by decide)) rfl pass0 (pa_cons (pe_ix (r := rIxT K) ix_tup (pv 5) pe_int (fun _ _ => rfl)) (pa_cons pe_str (pa_cons (pv 6) pa_nil))))))))
          (pss_one (ps_ret (pe_tup (pa_cons (pv 3) (pa_cons pe_str (pa_cons (pe_ix (r := rIxT K) ix_tup (pe_dget (hu_of hr) (pv 6) (pe_ix (r := rIxT K) ix_tup (pv 5) pe_int (fun _ _ => rfl)) (fun _ _ => rfl)) pe_int (fun _ _ => rfl)) pa_nil))))))
          pss_nil)
        (pss_one (ps_ret pe_non)))
        pss_nil)
      (pss_cons (ps_if (pt_cmpR op_eq (pv 0) pe_str (nomark _))
        (pss_cons (ps_set (i := 9) sc_link_step.nd rfl (Or.inl rfl) (pe_ix (ix_fd (nroom hr)) (pe_ix (r := rIxT K) ix_tup (pv 2) pe_int (fun _ _ => rfl)) (pe_tup (pa_cons (pv 4) (pa_cons (pv 5) pa_nil))) (fun _ _ => rfl)))
        (pss_cons (ps_if (PW.pt (pw_or (pt_cmpR op_eq (pv 4) pe_str (nomark _)) (pw_or (pt_cmpR op_in_seq (pv 4) (pe_globR rfl g_CONSTANT) (by rfl)) (pw_or1 (pt_cmpR op_eq (pv 9) (pv 3) (nomark _))))))
          (pss_one (ps_ret pe_non))
          pss_nil)
        (pss_one (ps_ret (pe_tup (pa_cons (pv 3) (pa_cons pe_str (pa_cons (pe_tup (pa_cons (pv 9) pa_nil)) pa_nil))))))))
        pss_nil)
      (pss_cons (ps_if (PW.pt (pw_and (pt_cmpR op_in_seq (pv 4) (pe_tup (pa_cons pe_str (pa_cons pe_str (pa_cons pe_str pa_nil)))) (by rfl)) (pw_and1 (pt_cmpR op_lt_str (pe_ix (r := rIxT K) ix_tup (pv 5) pe_int (fun _ _ => rfl)) (pe_ix (r := rIxT K) ix_tup (pv 5) pe_int (fun _ _ => rfl)) (nomark _)))))
        (pss_one (ps_ret (pe_tup (pa_cons (pv 3) (pa_cons (pv 4) (pa_cons (pe_tup (pa_cons (pe_ix (r := rIxT K) ix_tup (pv 5) pe_int (fun _ _ => rfl)) (pa_cons (pe_ix (r := rIxT K) ix_tup (pv 5) pe_int (fun _ _ => rfl)) pa_nil))) pa_nil))))))
        pss_nil)
      (pss_one (ps_ret pe_non)))))))), ?_⟩
    obtain ⟨q, x1, x2, x3, rfl, hq, q1, q2, q3⟩ := rg.t3
    rw [q1.eStr, q2.eStr] at hq
    obtain ⟨p3, rfl, hp3⟩ := q3.strs
    obtain ⟨pk, dg, du, df, mf, m, rfl, hpk, gd, sdu, fd, hfd⟩ := kn.ex
    have har := args_of (hs := hs) hg
    have hal := hs.ar g hg
    have hin := hs.args g hg
    refine ⟨_, rfl, q, _, rfl, SqT.of hq, rfl, _, _, rfl, _, _, rfl, _, _, rfl, rfl, ?_⟩
    refine ⟨_, rfl, pk, _, _, _, rfl, rfl, SqT.of hpk, rfl, ?_⟩
    cases r with
    | fold => cases hlnk
    | pass => cases hlnk
    | turn => cases hlnk
    | thin => cases hlnk
    | drop => cases hlnk
    | skip =>
      unfold Net.linkStep at k
      dsimp only at k
      refine ⟨_, rfl, rfl, _, rfl, ifT (ruleS_eq .skip .skip) ⟨_, rfl, p3, rfl, ⟨_, SqT.of hp3⟩, fun L hL => ?_⟩⟩
      refine lc_data (walk_tup (xs := g.args.map V.str)) ((g.args.map n.skipped).map D.str) (by rw [List.length_map, List.length_map, List.length_map]) (by rw [List.length_map]; omega) hL (fun H1 e => SqT.of (e _ _ hp3)) ?_ ?_
      · rintro i x dd _ H1 Q' hi e ⟨rfl, hx⟩ hd q
        obtain ⟨a, ha, rfl⟩ := strs_get hx
        rw [List.getElem?_map, List.getElem?_map, ha] at hd
        cases hd
        exact ⟨rfl, _, rfl, _, rfl, a, dg, n, rfl, gd.same e, hs.ar, q _ _ (Same.refl _) (.str _)⟩
      · intro H1 us e1 hL1 ru
        refine ⟨L, us, rfl, .inl ⟨SqL.of hL1, fun t ht => ?_⟩⟩
        rw [ru.strs] at *
        have e2 := e1.trans (Same.new ht (o := .tup ((g.args.map n.skipped).map V.str)))
        have hsk : ∀ x ∈ g.args.map n.skipped, Wire x := fun x hx => by
          obtain ⟨a, ha, rfl⟩ := List.mem_map.mp hx
          exact hs.wire _ (skipped_ok hs (hin a ha)).1
        refine ⟨_, rfl, _, rfl, _, _, dp_strs upd_same, dp_strs (e2 _ _ hp3), shaped_strs hsk, shaped_strs fun x hx => hs.wire _ (hin x hx), _, rfl, ?_⟩
        rw [eqv_strs]
        refine if2 (fun hne => ?_) fun hne => ?_
        · rw [if_pos (show g.args.map n.skipped ≠ g.args by simpa using hne)] at k
          refine ⟨_, rfl, _, rfl, _, rfl, sz5 (by simp), fun t2 ht2 => k _ _ (e2.trans (Same.new ht2)) (rep_gate upd_same (Rep.ofStrs (Same.new ht2 _ _ upd_same)))⟩
        · rw [if_neg (show ¬ (g.args.map n.skipped ≠ g.args) by simpa using hne)] at k
          exact k _ _ e2 rfl
    | double =>
      have k0 := k
      unfold Net.linkStep at k
      dsimp only at k
      refine ⟨_, rfl, rfl, _, rfl, ifF (ruleS_eq .double .skip) ⟨_, rfl, rfl, _, rfl, ifT (ruleS_eq .double .double) ⟨_, rfl, rfl, _, rfl, ?_⟩⟩⟩
      refine if2 (fun hz => ?_) fun hz => iteF ?_
      all_goals replace hz := (opS_eq g.op .not).symm.trans hz
      · have hnot := of_decide_eq_true hz
        rw [hnot] at k hal
        cases hga : g.args with
        | nil => rw [hga] at hal; cases hal
        | cons a r =>
          cases r with
          | cons b r => rw [hga] at hal; cases hal
          | nil =>
            rw [hga] at k hp3
            dsimp only at k
            refine ⟨_, rfl, p3, _, _, _, rfl, rfl, SqT.of hp3, rfl, _, rfl, a, .not, dg, n, rfl, gd, _, rfl, ?_⟩
            unfold Net.hasOp
            cases e : n.gate? a with
            | none =>
              rw [e] at k
              exact iteF (k _ _ (Same.refl H) rfl)
            | some h =>
              rw [e] at k
              dsimp only at k ⊢
              refine if2 (fun hb => ?_) fun hb => ?_
              · rw [if_pos (of_decide_eq_true hb)] at k
                obtain ⟨v, hv, rgh⟩ := gd.some e
                obtain ⟨qh, y1, y2, y3, rfl, hqh, z1, z2, z3⟩ := rgh.t3
                obtain ⟨ph, rfl, hph⟩ := z3.strs
                refine ⟨_, rfl, _, rfl, _, rfl, p3, _, _, _, rfl, rfl, SqT.of hp3, rfl, dg, _, rfl, hv, qh, _, _, _, rfl, rfl, SqT.of hqh, rfl, sz5 (by simp), fun t ht => k _ _ (Same.new ht) (rep_gate (o := .buf) upd_same (Rep.ofStrs (Same.new ht _ _ hph)))⟩
              · rw [if_neg (of_decide_eq_false hb)] at k
                exact k _ _ (Same.refl H) rfl
      · have hnot := of_decide_eq_false hz
        have hn : n.linkStep .double g = none := by
          unfold Net.linkStep
          cases e : g.op with
          | not => exact absurd e hnot
          | _ => rfl
        rw [hn] at k0
        exact k0 _ _ (Same.refl H) rfl
    | share =>
      unfold Net.linkStep at k
      dsimp only at k
      obtain ⟨fw, hfw⟩ := firstOf_self hg
      rw [hfw] at k
      dsimp only at k
      refine ⟨_, rfl, rfl, _, rfl, ifF (ruleS_eq .share .skip) ⟨_, rfl, rfl, _, rfl, ifF (ruleS_eq .share .double) ⟨_, rfl, rfl, _, rfl, ifT (ruleS_eq .share .share) ?_⟩⟩⟩
      refine ⟨_, rfl, pk, _, _, _, rfl, rfl, SqT.of hpk, rfl, _, rfl, _, rfl, sz5 (by simp), fun t ht => ?_⟩
      have e1 := Same.new (H := H) ht (o := .tup [.str g.op.s, .ref p3])
      obtain ⟨φ, hφ⟩ := fd.some
      refine ⟨df, (g.op.s, g.args), mf, fw, rfl, fd.tx (by rw [e1 _ _ hφ, hφ]) e1.tx, .tup upd_same (.cons (.str _) (.cons (Rep.ofStrs (e1 _ _ hp3)) .nil)), by rw [hfd]; exact hfw, ?_⟩
      have no : (g.op = .buf ∨ g.op.con = true ∨ fw = g.w) → ∀ H', Same H H' → Q .non H' := fun c H' e => by
        rw [if_pos c] at k
        exact k _ _ e rfl
      refine ⟨_, rfl, rfl, _, rfl, if2 (fun hz => iteT ?_) fun hz => ⟨_, rfl, aC, _, rfl, .inr (hC _), rfl, rfl, _, rfl, ?_⟩⟩
      · exact no (.inl (of_decide_eq_true ((opS_eq g.op .buf).symm.trans hz))) _ e1
      have hb := of_decide_eq_false ((opS_eq g.op .buf).symm.trans hz)
      show if inV (V.str g.op.s) [V.str Op.zero.s, V.str Op.one.s] = true then _ else _
      rw [con_in]
      refine if2 (fun hc => iteT (no (.inr (.inl hc)) _ e1)) fun hc => ⟨_, rfl, _, rfl, rfl, _, rfl, ?_⟩
      rw [eq_str]
      refine if2 (fun hw => no (.inr (.inr (of_decide_eq_true hw))) _ e1) fun hw => ?_
      rw [if_neg (fun z => z.elim hb (fun z => z.elim (by rw [hc]; exact Bool.false_ne_true) (of_decide_eq_false hw)))] at k
      exact ⟨_, rfl, _, rfl, sz5 (by simp), fun t2 ht2 => ⟨sz5 (by simp), fun t3 ht3 => k _ _ ((e1.trans (Same.new ht2)).trans (Same.new ht3)) (rep_gate (o := .buf) upd_same (Rep.ofStrs (l := [fw]) (Same.new ht3 _ _ upd_same)))⟩⟩
    | swap =>
      have k0 := k
      unfold Net.linkStep at k
      dsimp only at k
      refine ⟨_, rfl, rfl, _, rfl, ifF (ruleS_eq .swap .skip) ⟨_, rfl, rfl, _, rfl, ifF (ruleS_eq .swap .double) ⟨_, rfl, rfl, _, rfl, ifF (ruleS_eq .swap .share) ?_⟩⟩⟩
      refine ⟨_, rfl, sz5 (by simp), fun t ht => ⟨t, _, rfl, .inr (SqT.of upd_same), rfl, rfl, _, rfl, ?_⟩⟩
      have e1 := Same.new (H := H) ht (o := .tup [V.str Op.and.s, V.str Op.or.s, V.str Op.xor.s])
      show if inV (V.str g.op.s) [V.str Op.and.s, V.str Op.or.s, V.str Op.xor.s] = true then _ else _
      rw [sym_in]
      refine if2 (fun hy => ?_) fun hy => iteF ?_
      · rw [sym_ar hy] at hal
        match ha : g.args, hal with
        | [a, b], _ =>
          rw [ha] at k hp3
          dsimp only at k
          refine ⟨_, rfl, p3, _, _, _, rfl, rfl, SqT.of (e1 _ _ hp3), atI_nat (j := 1) rfl, _, rfl, p3, _, _, _, rfl, rfl, SqT.of (e1 _ _ hp3), atI_nat (j := 0) rfl, b, a, rfl, rfl, _, rfl, ?_⟩
          refine if2 (fun hlt => ?_) fun hlt => ?_
          · rw [if_pos ⟨hy, hlt⟩] at k
            exact ⟨_, rfl, _, rfl, _, rfl, p3, _, _, _, rfl, rfl, SqT.of (e1 _ _ hp3), atI_nat (j := 1) rfl, _, rfl, p3, _, _, _, rfl, rfl, SqT.of (e1 _ _ hp3), atI_nat (j := 0) rfl, sz5 (by simp), fun t2 ht2 => ⟨sz5 (by simp), fun t3 ht3 => k _ _ ((e1.trans (Same.new ht2)).trans (Same.new ht3)) (rep_gate upd_same (Rep.ofStrs (l := [b, a]) (Same.new ht3 _ _ upd_same)))⟩⟩
          · rw [if_neg (fun z => by have := z.2; unfold ltS at this; rw [hlt] at this; cases this)] at k
            exact k _ _ e1 rfl
      · have hn : n.linkStep .swap g = none := by
          unfold Net.linkStep
          dsimp only
          split
          · rw [if_neg (fun z => by rw [hy] at z; cases z.1)]
          · rfl
        rw [hn] at k0
        exact k0 _ _ e1 rfl
end
end Wi
set_option maxHeartbeats 4000000
set_option maxRecDepth 100000
namespace Wi
open PySem L2 PySem.Spec PyProof.Rows
theorem tab_in (r : Rule) : inV (.str r.s) [V.str Rule.fold.s, V.str Rule.pass.s, V.str Rule.turn.s, V.str Rule.thin.s] = r.tab := by cases r <;> decide +kernel
theorem rule_in (r : Rule) : inV (.str r.s) (rules.map fun r => V.str r.s) = true := by cases r <;> decide +kernel
theorem OG.isN {H : Hp} {o : Option Gate} {v : V} (h : OG H o v) : decide (v = .non) = o.isNone := by
  cases o with
  | none => rw [show v = .non from h]; rfl
  | some g =>
    obtain ⟨a, _, rfl, _⟩ := Rep.eTup (show Rep H g.d v from h)
    rfl
def OGs (H : Hp) : Option (List Gate) → V → Prop
  | none, v => v = .non
  | some l, v => Rep H (gatesD l) v
theorem OGs.isN {H : Hp} {o : Option (List Gate)} {v : V} (h : OGs H o v) : decide (v = .non) = o.isNone := by
  cases o with
  | none => rw [show v = .non from h]; rfl
  | some g =>
    obtain ⟨a, _, rfl, _⟩ := Rep.eTup (show Rep H (gatesD g) v from h)
    rfl
def OR (H : Hp) : Option Reg → V → Prop
  | none, v => v = .non
  | some q, v => Rep H q.d v
theorem OR.isN {H : Hp} {o : Option Reg} {v : V} (h : OR H o v) : decide (v = .non) = o.isNone := by
  cases o with
  | none => rw [show v = .non from h]; rfl
  | some g =>
    obtain ⟨a, _, rfl, _⟩ := Rep.eTup (show Rep H g.d v from h)
    rfl
def stepD (s : Rule × S) : D := .tup [.str s.1.s, .str s.2]
def OSt (H : Hp) : Option (Rule × S) → V → Prop
  | none, v => v = .non
  | some s, v => Rep H (stepD s) v
theorem OSt.isN {H : Hp} {o : Option (Rule × S)} {v : V} (h : OSt H o v) : decide (v = .non) = o.isNone := by
  cases o with
  | none => rw [show v = .non from h]; rfl
  | some g =>
    obtain ⟨a, _, rfl, _⟩ := Rep.eTup (show Rep H (stepD g) v from h)
    rfl
def ON (H : Hp) : Option Net → V → Prop
  | none, v => v = .non
  | some s, v => Rep H s.d v
theorem ON.isN {H : Hp} {o : Option Net} {v : V} (h : ON H o v) : decide (v = .non) = o.isNone := by
  cases o with
  | none => rw [show v = .non from h]; rfl
  | some g =>
    obtain ⟨a, _, rfl, _⟩ := Rep.eTup (show Rep H g.d v from h)
    rfl
section
variable {P : Program} {w : World} {K : PySem.W.Frag} {mg : Str → Option Value} {base : Heap}
theorem sc_gate_after : FnScope ["rule", "gate", "known", "after"] ["rule", "gate", "known"] (defScope (top 75)) :=
  ⟨rfl, rfl, rfl, by decide +kernel, rfl, by decide +kernel, by decide +kernel⟩
def spGAft (P : Program) (w : World) : Sp := fun vs H Q _ => ∃ (r : Rule) (vg vk : V) (g : Gate) (n : Net), vs = [.str r.s, vg, vk] ∧ Rep H g.d vg ∧ g ∈ n.gates ∧ KN P w H vk n ∧ Sound n ∧ ∀ v H', Same H H' → OGs H' (n.gateAfter r g) v → Q v H'
theorem cal_gate_after (F : Df K mg "gate_after" "gate_after" 75) (B : Bl mg) (G : GC K w mg) (C_table_step : Cal P w K mg base CX0 3 "table_step" ["rule", "gate", "gates"] spTable) (C_link_step : Cal P w K mg base CX0 3 "link_step" ["rule", "gate", "known"] (spLink P w)) : Cal P w K mg base CX0 4 "gate_after" ["rule", "gate", "known"] (spGAft P w) := by
  refine F.cal sc_gate_after (fun vs H Q E h => ?_) (fun _ _ _ _ _ _ us hl => match us, hl with | [_, _, _], _ => rfl) (fun f cdv A outer s H vs Q E hr h => ?_)
  · obtain ⟨_, _, _, _, _, rfl, _⟩ := h
    rfl
  · obtain ⟨r, vg, vk, g, n, rfl, rg, hg, kn, hs, k⟩ := h
    obtain ⟨aR, g_RULES, hR⟩ := G.RULES
    refine ⟨_, (pss_cons (ps_if (pt_cmpR op_eq (pv 0) pe_str (nomark _))
        (pss_one (ps_ret (pe_ifExp (pt_cmp (pc_din (hu_of hr) (pe_ix (r := rIxT K) ix_tup (pv 1) pe_int (fun _ _ => rfl)) (pe_ix (r := rIxT K) ix_tup (pv 2) pe_int (fun _ _ => rfl)))) pe_non (pe_tup pa_nil))))
        pss_nil)
      (pss_cons (ps_if (pt_cmpR op_in_seq (pv 0) (pe_tup (pa_cons pe_str (pa_cons pe_str (pa_cons pe_str (pa_cons pe_str pa_nil))))) (by rfl))
        (pss_one (ps_set (i := 3) sc_gate_after.nd rfl (Or.inl rfl) (pe_callC C_table_step (hr.mono (by decide)) rfl pass0 (pa_cons (pv 0) (pa_cons (pv 1) (pa_cons (pe_ix (r := rIxT K) ix_tup (pv 2) pe_int (fun _ _ => rfl)) pa_nil))))))
        (pss_one (ps_if (pt_cmpR op_in_seq (pv 0) (pe_globR rfl g_RULES) (by rfl))
          (pss_one (ps_set (i := 3) sc_gate_after.nd rfl (Or.inl rfl) (pe_callC C_link_step (hr.mono (by decide)) rfl pass0 (pa_cons (pv 0) (pa_cons (pv 1) (pa_cons (pv 2) pa_nil))))))
          (pss_one (ps_set (i := 3) sc_gate_after.nd rfl (Or.inl rfl) pe_non)))))
      (pss_one (ps_ret (pe_ifExp (pt_cmpR op_isN (pv 3) pe_non (nomark _)) pe_non (pe_tup (pa_cons (pv 3) pa_nil))))))), ?_⟩
    obtain ⟨q, x1, x2, x3, rfl, hq, q1, q2, q3⟩ := rg.t3
    rw [q1.eStr] at hq
    obtain ⟨pk, dg, du, df, mf, m, rfl, hpk, gd, sdu, fd, hfd⟩ := kn.ex
    -- what stands behind a step that was asked
    have fin : ∀ (o : Option Gate) (v : V) (H1 : Hp), n.gateAfter r g = o.map (fun h => [h]) → Same H H1 → OG H1 o v → tIf (tTest (tOp (fun x y H Q => y = V.non ∧ Q (V.bl (decide (x = V.non))) H) (tVar 3) (tC .non))) (tC .non) (tTup (tCons (tVar 3) tNil)) [some (.str r.s), some (.ref q), some (.ref pk), some v] H1 Q := by
      intro o v H1 ho e1 og
      refine ⟨_, rfl, rfl, _, rfl, ?_⟩
      rw [og.isN]
      rw [ho] at k
      cases o with
      | none => exact iteT (k _ _ e1 rfl)
      | some h => exact iteF ⟨_, rfl, sz5 (by simp), fun t ht => k _ _ (e1.trans (Same.new ht)) (.tup upd_same (.cons (Rep.ex (Same.new ht) og) .nil))⟩
    refine ⟨_, rfl, rfl, _, rfl, ?_⟩
    refine if2 (fun hz => ?_) fun hz => ?_
    all_goals replace hz := (ruleS_eq r .drop).symm.trans hz
    · have hr' := of_decide_eq_true hz
      subst hr'
      unfold Net.gateAfter at k
      dsimp only at k
      have gu := sdu.get g.w
      refine ⟨_, rfl, q, _, _, _, rfl, rfl, SqT.of hq, rfl, _, rfl, pk, _, _, _, rfl, rfl, SqT.of hpk, rfl, du, _, rfl, gu, _, rfl, ?_⟩
      by_cases hu : g.w ∈ n.usedL
      · rw [inD_some hu]
        rw [if_pos hu] at k
        exact ifT rfl (k _ _ (Same.refl H) rfl)
      · rw [inD_none hu]
        rw [if_neg hu] at k
        exact ifF rfl ⟨sz5 (by simp), fun t ht => k _ _ (Same.new ht) (.tup upd_same .nil)⟩
    refine ⟨_, rfl, sz5 (by simp), fun t ht => ⟨t, _, rfl, .inr (SqT.of upd_same), rfl, rfl, _, rfl, ?_⟩⟩
    have e1 := Same.new (H := H) ht (o := .tup [V.str Rule.fold.s, V.str Rule.pass.s, V.str Rule.turn.s, V.str Rule.thin.s])
    show if inV (V.str r.s) [V.str Rule.fold.s, V.str Rule.pass.s, V.str Rule.turn.s, V.str Rule.thin.s] = true then _ else _
    rw [tab_in]
    refine if2 (fun ht => ?_) fun ht => ?_
    · refine ⟨_, rfl, _, rfl, _, rfl, pk, _, _, _, rfl, rfl, SqT.of (e1 _ _ hpk), rfl, r, _, g, dg, n, rfl, ht, rg.ex e1, hg, gd.same e1, hs, fun v H2 e2 og => ?_⟩
      refine fin (n.tableStep r g) v H2 ?_ (e1.trans e2) og
      cases r <;> first | rfl | cases ht
    · refine ⟨_, rfl, aR, _, rfl, .inr (hR _), rfl, rfl, _, rfl, ?_⟩
      show if inV (V.str r.s) (rules.map fun r => V.str r.s) = true then _ else _
      rw [rule_in]
      have hl : r.lnk = true := by cases r <;> first | rfl | exact absurd hz (by decide) | cases ht
      refine iteT ⟨_, rfl, _, rfl, _, rfl, r, _, _, g, n, rfl, hl, rg.ex e1, hg, KN.same ⟨pk, dg, du, df, mf, m, rfl, hpk, gd, sdu, fd, hfd⟩ e1, hs, fun v H2 e2 og => ?_⟩
      refine fin (n.linkStep r g) v H2 ?_ (e1.trans e2) og
      cases r <;> first | rfl | cases hl
theorem sc_reg_after : FnScope ["rule", "reg", "known"] ["rule", "reg", "known"] (defScope (top 76)) :=
  ⟨rfl, rfl, rfl, by decide +kernel, rfl, by decide +kernel, by decide +kernel⟩
def spRAft (P : Program) (w : World) : Sp := fun vs H Q _ => ∃ (r : Rule) (vr vk : V) (q : Reg) (n : Net), vs = [.str r.s, vr, vk] ∧ Rep H q.d vr ∧ KN P w H vk n ∧ Sound n ∧ ∀ v H', Same H H' → OR H' (if r = .skip then n.regAfter q else none) v → Q v H'
theorem cal_reg_after (F : Df K mg "reg_after" "reg_after" 76) (C_skipped : Cal P w K mg base CX0 2 "skipped" ["wire", "gates"] spSkip) (C_has_op : Cal P w K mg base CX0 1 "has_op" ["wire", "op", "gates"] spHas) : Cal P w K mg base CX0 3 "reg_after" ["rule", "reg", "known"] (spRAft P w) := by
  refine F.cal sc_reg_after (fun vs H Q E h => ?_) (fun _ _ _ _ _ _ us hl => match us, hl with | [_, _, _], _ => rfl) (fun f cdv A outer s H vs Q E hr h => ?_)
  · obtain ⟨_, _, _, _, _, rfl, _⟩ := h
    rfl
  · obtain ⟨r, vr, vk, q, n, rfl, rq, kn, hs, k⟩ := h
    refine ⟨_, (pss_cons (ps_if (PW.pt (pw_or (pt_cmpR op_ne (pv 0) pe_str (nomark _)) (pw_or1 (pt_not (pt_val (pe_callC C_has_op (hr.mono (by decide)) rfl pass0 (pa_cons (pe_ix (r := rIxT K) ix_tup (pv 1) pe_int (fun _ _ => rfl)) (pa_cons pe_str (pa_cons (pe_ix (r := rIxT K) ix_tup (pv 2) pe_int (fun _ _ => rfl)) pa_nil)))))))))
        (pss_one (ps_ret pe_non))
        pss_nil)
      (pss_one (ps_ret (pe_tup (pa_cons (pe_ix (r := rIxT K) ix_tup (pv 1) pe_int (fun _ _ => rfl)) (pa_cons (pe_ix (r := rIxT K) ix_tup (pv 1) pe_int (fun _ _ => rfl)) (pa_cons (pe_callC C_skipped (hr.mono (by decide)) rfl pass0 (pa_cons (pe_ix (r := rIxT K) ix_tup (pv 1) pe_int (fun _ _ => rfl)) (pa_cons (pe_ix (r := rIxT K) ix_tup (pv 2) pe_int (fun _ _ => rfl)) pa_nil))) pa_nil))))))), ?_⟩
    obtain ⟨p, x1, x2, x3, rfl, hp, q1, q2, q3⟩ := rq.t3
    rw [q1.eStr, q2.eInt, q3.eStr] at hp
    obtain ⟨pk, dg, du, df, mf, m, rfl, hpk, gd, sdu, fd, hfd⟩ := kn.ex
    refine ⟨_, rfl, rfl, _, rfl, ?_⟩
    refine if2 (fun hz => iteT ?_) fun hz => ?_
    all_goals replace hz := (congrArg (!·) (ruleS_eq r .skip)).symm.trans hz
    · have hne : ¬ r = .skip := by simpa using hz
      rw [if_neg hne] at k
      exact k _ _ (Same.refl H) rfl
    · have he : r = .skip := by simpa using hz
      rw [if_pos he] at k
      unfold Net.regAfter at k
      refine ⟨_, rfl, p, _, _, _, rfl, rfl, SqT.of hp, rfl, _, rfl, pk, _, _, _, rfl, rfl, SqT.of hpk, rfl, q.src, .buf, dg, n, rfl, gd, _, rfl, ?_⟩
      cases hb : n.hasOp q.src .buf with
      | false =>
        rw [hb] at k
        exact iteT (k _ _ (Same.refl H) rfl)
      | true =>
        rw [hb] at k
        refine iteF ⟨_, rfl, p, _, _, _, rfl, rfl, SqT.of hp, rfl, _, rfl, p, _, _, _, rfl, rfl, SqT.of hp, rfl, _, rfl, p, _, _, _, rfl, rfl, SqT.of hp, rfl, _, rfl, pk, _, _, _, rfl, rfl, SqT.of hpk, rfl, q.src, dg, n, rfl, gd, hs.ar, sz5 (by simp), fun t ht => k _ _ (Same.new ht) (.tup upd_same (.cons (.str _) (.cons (.int _) (.cons (.str _) .nil))))⟩
end
end Wi
set_option maxHeartbeats 4000000
set_option maxRecDepth 100000
namespace Wi
open PySem L2 PySem.Spec PyProof.Rows
theorem find_at {α : Type} {p : α → Bool} : ∀ {l : List α} {j : Nat} {x : α}, l[j]? = some x → p x = true → (∀ y ∈ l.take j, p y = false) → l.find? p = some x
  | [], _, _, h, _, _ => by simp at h
  | y :: l, 0, x, h, hp, _ => by
    simp at h
    subst h
    rw [List.find?_cons, hp]
  | y :: l, j + 1, x, h, hp, hn => by
    rw [List.find?_cons, hn y (by simp)]
    exact find_at (j := j) (by simpa using h) hp fun z hz => hn z (by simp [hz])
theorem firstG_none {n : Net} : ∀ {gs : List Gate}, (∀ g ∈ gs, n.stepsAt g = none) → firstG n gs = none
  | [], _ => rfl
  | g :: gs, h => by
    unfold firstG
    rw [h g (List.mem_cons_self ..)]
    exact firstG_none fun d hd => h d (List.mem_cons_of_mem _ hd)
theorem firstG_at {n : Net} : ∀ {gs : List Gate} {i : Nat} {g : Gate} {r : Rule}, gs[i]? = some g → n.stepsAt g = some r → (∀ d ∈ gs.take i, n.stepsAt d = none) → firstG n gs = some (r, g.w)
  | [], _, _, _, h, _, _ => by simp at h
  | d :: gs, 0, g, r, h, hr, _ => by
    simp at h
    subst h
    unfold firstG
    rw [hr]
  | d :: gs, i + 1, g, r, h, hr, hn => by
    unfold firstG
    rw [hn d (by simp)]
    exact firstG_at (i := i) (by simpa using h) hr fun z hz => hn z (by simp [hz])
theorem firstR_none {n : Net} : ∀ {gs : List Reg}, (∀ g ∈ gs, n.regAfter g = none) → firstR n gs = none
  | [], _ => rfl
  | g :: gs, h => by
    unfold firstR
    rw [h g (List.mem_cons_self ..)]
    exact firstR_none fun d hd => h d (List.mem_cons_of_mem _ hd)
theorem firstR_at {n : Net} : ∀ {gs : List Reg} {i : Nat} {g q : Reg}, gs[i]? = some g → n.regAfter g = some q → (∀ d ∈ gs.take i, n.regAfter d = none) → firstR n gs = some (.skip, g.w)
  | [], _, _, _, h, _, _ => by simp at h
  | d :: gs, 0, g, r, h, hr, _ => by
    simp at h
    subst h
    unfold firstR
    rw [hr]
  | d :: gs, i + 1, g, r, h, hr, hn => by
    unfold firstR
    rw [hn d (by simp)]
    exact firstR_at (i := i) (by simpa using h) hr fun z hz => hn z (by simp [hz])
section
variable {P : Program} {w : World} {K : PySem.W.Frag} {mg : Str → Option Value} {base : Heap}
theorem sc_first_step : FnScope ["net", "known", "gate", "rule", "reg"] ["net", "known"] (defScope (top 77)) :=
  ⟨rfl, rfl, rfl, by decide +kernel, rfl, by decide +kernel, by decide +kernel⟩
def spFirst (P : Program) (w : World) : Sp := fun vs H Q _ => ∃ (vn vk : V) (n : Net), vs = [vn, vk] ∧ Rep H n.d vn ∧ NOk n ∧ KN P w H vk n ∧ ∀ v H', Same H H' → OSt H' n.firstStep v → Q v H'
theorem cal_first_step (F : Df K mg "first_step" "first_step" 77) (G : GC K w mg) (C_gate_after : Cal P w K mg base CX0 4 "gate_after" ["rule", "gate", "known"] (spGAft P w)) (C_reg_after : Cal P w K mg base CX0 3 "reg_after" ["rule", "reg", "known"] (spRAft P w)) : Cal P w K mg base CX0 5 "first_step" ["net", "known"] (spFirst P w) := by
  refine F.cal sc_first_step (fun vs H Q E h => ?_) (fun _ _ _ _ _ _ us hl => match us, hl with | [_, _], _ => rfl) (fun f cdv A outer s H vs Q E hr h => ?_)
  · obtain ⟨_, _, _, rfl, _⟩ := h
    rfl
  · obtain ⟨vn, vk, n, rfl, rv, hn, kn, k⟩ := h
    obtain ⟨aR, g_RULES, hR⟩ := G.RULES
    refine ⟨_, (pss_cons (ps_for PassesOwn.never rfl (pi_tup (pe_ix (r := rIxT K) ix_tup (pv 0) pe_int (fun _ _ => rfl))) (pg_name (i := 2) sc_first_step.nd rfl (Or.inl rfl))
        (pss_one (ps_for PassesOwn.never rfl (pi_tup (pe_globR rfl g_RULES)) (pg_name (i := 3) sc_first_step.nd rfl (Or.inl rfl))
          (pss_one (ps_if (pt_cmpR op_notN (pe_callC C_gate_after (hr.mono (by decide)) rfl pass0 (pa_cons (pv 3) (pa_cons (pv 2) (pa_cons (pv 1) pa_nil)))) pe_non (nomark _))
            (pss_one (ps_ret (pe_tup (pa_cons (pv 3) (pa_cons (pe_ix (r := rIxT K) ix_tup (pv 2) pe_int (fun _ _ => rfl)) pa_nil)))))
            pss_nil)))))
      (pss_cons (ps_for PassesOwn.never rfl (pi_tup (pe_ix (r := rIxT K) ix_tup (pv 0) pe_int (fun _ _ => rfl))) (pg_name (i := 4) sc_first_step.nd rfl (Or.inl rfl))
        (pss_one (ps_if (pt_cmpR op_notN (pe_callC C_reg_after (hr.mono (by decide)) rfl pass0 (pa_cons pe_str (pa_cons (pv 4) (pa_cons (pv 1) pa_nil)))) pe_non (nomark _))
          (pss_one (ps_ret (pe_tup (pa_cons pe_str (pa_cons (pe_ix (r := rIxT K) ix_tup (pv 4) pe_int (fun _ _ => rfl)) pa_nil)))))
          pss_nil)))
      (pss_one (ps_ret pe_non)))), ?_⟩
    obtain ⟨p, v1, v2, v3, v4, rfl, hp, r1, r2, r3, r4⟩ := rv.t4
    obtain ⟨p2, us, rfl, h2, ru⟩ := r2.eTup
    obtain ⟨p3, rs, rfl, h3, rr⟩ := r3.eTup
    have lu := ru.len
    have lr := rr.len
    rw [List.length_map] at lu lr
    refine ⟨_, rfl, p, _, _, _, rfl, rfl, SqT.of hp, rfl, p2, rfl, ⟨_, SqT.of h2⟩, ?_⟩
    refine for_it (walk_tup (xs := us)) (fun i σ H' => Same H H' ∧ (∀ d ∈ n.gates.take i, n.stepsAt d = none) ∧ ∃ o2 o3, σ = [some (.ref p), some vk, o2, o3, none]) ⟨Same.refl H, (fun d hd => by simp at hd), _, _, rfl⟩ (fun i σ H' _ h => SqT.of (h.1 _ _ h2)) ?_ ?_
    · rintro i y σ _ H1 hi ⟨e1, hno, o2, o3, rfl⟩ ⟨rfl, hy⟩
      obtain ⟨g, hg, rg⟩ := ru.at hy
      have hgm := List.mem_of_getElem? hg
      obtain ⟨q, x1, x2, x3, rfl, hq, q1, q2, q3⟩ := rg.t3
      rw [q1.eStr] at hq
      refine ⟨aR, rfl, ⟨_, hR _⟩, for_it (walk_tup (xs := rules.map fun (r : Rule) => V.str (Rule.s r))) (fun j σ H' => Same H H' ∧ (∀ r ∈ rules.take j, (n.gateAfter r g).isSome = false) ∧ ∃ o3, σ = [some (.ref p), some vk, some (.ref q), o3, none]) ⟨e1, (fun d hd => by simp at hd), _, rfl⟩ (fun j σ H' _ _ => hR H') ?_ ?_⟩
      · rintro j y σ _ H2 hj ⟨e2, hnr, o3, rfl⟩ ⟨rfl, hy⟩
        rw [List.getElem?_map] at hy
        obtain ⟨r, hr', rfl⟩ := Option.map_eq_some_iff.mp hy
        refine ⟨_, rfl, _, rfl, _, rfl, r, _, _, g, n, rfl, rg.ex e2, hgm, kn.same e2, hn.sd, fun v H3 e3 og => ⟨rfl, _, rfl, ?_⟩⟩
        have e13 := e2.trans e3
        rw [og.isN]
        cases hga : n.gateAfter r g with
        | none =>
          refine iteF ⟨e13, fun z hz => ?_, _, rfl⟩
          rcases (mem_take_succ hr').mp hz with c | c
          · exact hnr z c
          · rw [c, hga]; rfl
        | some l =>
          refine iteT ⟨_, rfl, _, rfl, q, _, _, _, rfl, rfl, SqT.of (e13 _ _ hq), rfl, sz5 (by simp), fun t ht => k _ _ (e13.trans (Same.new ht)) ?_⟩
          have hst : n.stepsAt g = some r := find_at hr' (by rw [hga]; rfl) hnr
          unfold Net.firstStep
          rw [firstG_at hg hst hno]
          exact .tup upd_same (.cons (.str _) (.cons (.str _) .nil))
      · rintro σ H2 ⟨e2, hnr, o3, rfl⟩
        rw [List.length_map, List.take_length] at hnr
        refine ⟨e2, fun d hd => ?_, _, _, rfl⟩
        rcases (mem_take_succ hg).mp hd with c | c
        · exact hno d c
        · rw [c]
          exact List.find?_eq_none.mpr fun r hr => by rw [hnr r hr]; exact Bool.false_ne_true
    · rintro σ H1 ⟨e1, hno, o2, o3, rfl⟩
      rw [← lu, List.take_length] at hno
      have hG : n.firstStep = firstR n n.regs := by
        unfold Net.firstStep
        rw [firstG_none hno]
      rw [hG] at k
      refine ⟨_, rfl, p, _, _, _, rfl, rfl, SqT.of (e1 _ _ hp), rfl, p3, rfl, ⟨_, SqT.of (e1 _ _ h3)⟩, ?_⟩
      refine for_it (walk_tup (xs := rs)) (fun i σ H' => Same H H' ∧ (∀ d ∈ n.regs.take i, n.regAfter d = none) ∧ ∃ o4, σ = [some (.ref p), some vk, o2, o3, o4]) ⟨e1, (fun d hd => by simp at hd), _, rfl⟩ (fun i σ H' _ h => SqT.of (h.1 _ _ h3)) ?_ ?_
      · rintro i y σ _ H2 hi ⟨e2, hnr, o4, rfl⟩ ⟨rfl, hy⟩
        obtain ⟨r, hr', rrg⟩ := rr.at hy
        obtain ⟨q, x1, x2, x3, rfl, hq, q1, q2, q3⟩ := rrg.t3
        rw [q1.eStr] at hq
        refine ⟨_, rfl, _, rfl, .skip, _, _, r, n, rfl, rrg.ex e2, kn.same e2, hn.sd, fun v H3 e3 og => ⟨rfl, _, rfl, ?_⟩⟩
        have e13 := e2.trans e3
        rw [og.isN, if_pos rfl]
        cases hra : n.regAfter r with
        | none =>
          refine iteF ⟨e13, fun z hz => ?_, _, rfl⟩
          rcases (mem_take_succ hr').mp hz with c | c
          · exact hnr z c
          · rw [c, hra]
        | some l =>
          refine iteT ⟨_, rfl, q, _, _, _, rfl, rfl, SqT.of (e13 _ _ hq), rfl, sz5 (by simp), fun t ht => k _ _ (e13.trans (Same.new ht)) ?_⟩
          rw [firstR_at hr' hra hnr]
          exact .tup upd_same (.cons (.str _) (.cons (.str _) .nil))
      · rintro σ H2 ⟨e2, hnr, o4, rfl⟩
        rw [← lr, List.take_length] at hnr
        refine k _ _ e2 ?_
        rw [firstR_none hnr]
        rfl
theorem sc_put_at : FnScope ["items", "wire", "after", "out", "item"] ["items", "wire", "after"] (defScope (top 78)) :=
  ⟨rfl, rfl, rfl, by decide +kernel, rfl, by decide +kernel, by decide +kernel⟩
def itD (a : S × List D) : D := .tup (.str a.1 :: a.2)
def spPut : Sp := fun vs H Q _ => ∃ (vi va : V) (x : S) (l : List (S × List D)) (af : List D), vs = [vi, .str x, va] ∧ Rep H (.tup (l.map itD)) vi ∧ Rep H (.tup af) va ∧ l.length ≤ 300 ∧ af.length ≤ 1 ∧ ∀ v H', Same H H' → Rep H' (.tup (l.flatMap fun a => if a.1 = x then af else [itD a])) v → Q v H'
theorem flat_le {α β : Type} {f : α → List β} (h : ∀ a, (f a).length ≤ 1) : ∀ l : List α, (l.flatMap f).length ≤ l.length
  | [] => Nat.le_refl _
  | a :: l => by
    have := flat_le h l
    have := h a
    rw [List.flatMap_cons, List.length_append, List.length_cons]
    omega
theorem cal_put_at (F : Df K mg "put_at" "put_at" 78) (B : Bl mg) : Cal P w K mg base CX0 1 "put_at" ["items", "wire", "after"] spPut := by
  refine F.cal sc_put_at (fun vs H Q E h => ?_) (fun _ _ _ _ _ _ us hl => match us, hl with | [_, _, _], _ => rfl) (fun f cdv A outer s H vs Q E hr h => ?_)
  · obtain ⟨_, _, _, _, _, rfl, _⟩ := h
    rfl
  · obtain ⟨vi, va, x, l, af, rfl, ri, ra, hz, haf, k⟩ := h
    refine ⟨_, (pss_cons (ps_set (i := 3) sc_put_at.nd rfl (Or.inl rfl) (pe_lst pa_nil))
      (pss_cons (ps_for PassesOwn.never rfl (pi_tup (pv 0)) (pg_name (i := 4) sc_put_at.nd rfl (Or.inl rfl))
        (pss_one (ps_if (pt_cmpR op_eq (pe_ix (r := rIxT K) ix_tup (pv 4) pe_int (fun _ _ => rfl)) (pv 1) (nomark _))
          (pss_one (ps_expr (pe_bm PySem.F.plainAttrs_list PySem.F.slot_list_extend PySem.F.type_list_extend mt_extendT (pv 3) (pa_cons (pv 2) pa_nil))))
          (pss_one (ps_expr (pe_bm PySem.F.plainAttrs_list PySem.F.slot_list_append PySem.F.type_list_append mt_append (pv 3) (pa_cons (pv 4) pa_nil)))))))
      (pss_one (ps_ret (pe_callTy call_tuple_of rfl B.tuple (by decide +kernel) (pa_cons (pv 3) pa_nil)))))), ?_⟩
    obtain ⟨p, us, rfl, hp, ru⟩ := ri.eTup
    obtain ⟨pa, ws, rfl, hpa, rw_⟩ := ra.eTup
    have lu := ru.len
    have lw := rw_.len
    rw [List.length_map] at lu
    have fl : ∀ a : S × List D, (if a.1 = x then af else [itD a]).length ≤ 1 := fun a => by
      by_cases h : a.1 = x
      · rw [if_pos h]; exact haf
      · rw [if_neg h]; exact Nat.le_refl _
    refine ⟨by decide, fun L hL => ?_⟩
    have e0 := Same.new (H := H) hL (o := .lst [])
    refine ⟨_, rfl, p, rfl, ⟨_, SqT.of (e0 _ _ hp)⟩, ?_⟩
    refine for_it (walk_tup (xs := us)) (fun i σ H' => Same H H' ∧ (∃ vs, H' L = some (.lst vs) ∧ RepL H' ((l.take i).flatMap fun a => if a.1 = x then af else [itD a]) vs) ∧ ∃ o4, σ = [some (.ref p), some (.str x), some (.ref pa), some (.ref L), o4]) ⟨e0, ⟨[], upd_same, by simpa using RepL.nil⟩, _, rfl⟩ (fun i σ H' _ h => SqT.of (h.1 _ _ hp)) ?_ ?_
    · rintro i y σ _ H1 hi ⟨e1, ⟨vs, hv, rvs⟩, o4, rfl⟩ ⟨rfl, hy⟩
      obtain ⟨a, ha, rga⟩ := ru.at hy
      obtain ⟨q, xs, rfl, hq, rxs⟩ := rga.eTup
      cases rxs with
      | cons r1 rest =>
        rw [r1.eStr] at hq
        have hlen := rvs.len
        have hlf := flat_le fl (l.take i)
        rw [List.length_take] at hlf
        refine ⟨_, rfl, q, _, _, _, rfl, rfl, SqT.of (e1 _ _ hq), atI_nat (j := 0) rfl, _, rfl, rfl, _, rfl, ?_⟩
        rw [eq_str]
        have step : ∀ (ds : List D) (zs : List V), RepL H1 ds zs → (if a.1 = x then af else [itD a]) = ds → ∃ vs', upd H1 L (.lst (vs ++ zs)) L = some (.lst vs') ∧ RepL (upd H1 L (.lst (vs ++ zs))) ((l.take (i + 1)).flatMap fun a => if a.1 = x then af else [itD a]) vs' := fun ds zs rz hds => by
          refine ⟨_, upd_same, ?_⟩
          rw [take_succ ha, List.flatMap_append]
          simp only [List.flatMap_cons, List.flatMap_nil, List.append_nil]
          rw [hds]
          have tx : Tx H1 (upd H1 L (.lst (vs ++ zs))) := (Tx.refl H1).mut hv fun _ z => nomatch z
          exact (rvs.app rz).tx tx
        refine if2 (fun hb => ?_) fun hb => ?_
        · refine ⟨_, rfl, .inl ⟨rfl, _, SqL.of hv⟩, _, rfl, L, pa, _, _, rfl, rfl, hv, SqT.of (e1 _ _ hpa), ?_, e1.mut hL, step af ws (rw_.ex e1) (if_pos (of_decide_eq_true hb)), _, rfl⟩
          exact sz5 (by omega)
        · refine ⟨_, rfl, .inl ⟨rfl, _, SqL.of hv⟩, _, rfl, L, _, _, rfl, rfl, hv, ?_, e1.mut hL, step [itD a] [.ref q] (.one (rga.ex e1)) (if_neg (of_decide_eq_false hb)), _, rfl⟩
          exact sz5' (by omega)
    · rintro σ H1 ⟨e1, ⟨vs, hv, rvs⟩, o4, rfl⟩
      rw [← lu, List.take_length] at rvs
      refine ⟨_, rfl, L, _, rfl, .inl ⟨SqL.of hv, fun t ht => k _ _ (e1.trans (Same.new ht)) (.tup upd_same (rvs.ex (Same.new ht)))⟩⟩
end
end Wi
set_option maxHeartbeats 4000000
set_option maxRecDepth 100000
namespace Wi
open PySem L2 PySem.Spec PyProof.Rows
def Gate.kv (g : Gate) : S × List D := (g.w, [.str g.op.s, strsD g.args])
def Reg.kv (r : Reg) : S × List D := (r.w, [.int (b2i r.fi), .str r.src])
theorem gates_kv (gs : List Gate) : (gs.map Gate.kv).map itD = gs.map Gate.d := by rw [List.map_map]; rfl
theorem regs_kv (rs : List Reg) : (rs.map Reg.kv).map itD = rs.map Reg.d := by rw [List.map_map]; rfl
theorem putG_kv (gs : List Gate) (x : S) (l : List Gate) : ((gs.map Gate.kv).flatMap fun a => if a.1 = x then l.map Gate.d else [itD a]) = (putG gs x l).map Gate.d := by
  induction gs with
  | nil => rfl
  | cons g gs ih =>
    rw [List.map_cons, List.flatMap_cons, ih]
    unfold putG
    rw [List.flatMap_cons, List.map_append]
    congr 1
    by_cases h : g.w = x
    · rw [if_pos (show g.kv.1 = x from h), if_pos h]
    · rw [if_neg (show ¬ g.kv.1 = x from h), if_neg h]; rfl
theorem putR_kv (rs : List Reg) (x : S) (q : Reg) : ((rs.map Reg.kv).flatMap fun a => if a.1 = x then [q.d] else [itD a]) = (putR rs x q).map Reg.d := by
  induction rs with
  | nil => rfl
  | cons g gs ih =>
    rw [List.map_cons, List.flatMap_cons, ih]
    unfold putR
    rw [List.map_cons, List.map_cons]
    by_cases h : g.w = x
    · rw [if_pos (show g.kv.1 = x from h), if_pos h]; rfl
    · rw [if_neg (show ¬ g.kv.1 = x from h), if_neg h]; rfl
theorem gateAfter_len {n : Net} {r : Rule} {g : Gate} {l : List Gate} (h : n.gateAfter r g = some l) : l.length ≤ 1 := by
  unfold Net.gateAfter at h
  cases r <;> dsimp only at h
  case drop =>
    split at h
    · cases h
    · cases h; exact Nat.zero_le _
  all_goals
    obtain ⟨d, _, rfl⟩ := Option.map_eq_some_iff.mp h
    exact Nat.le_refl _
theorem putG_len {gs : List Gate} {x : S} {l : List Gate} (h : l.length ≤ 1) : (putG gs x l).length ≤ gs.length := by
  unfold putG
  refine flat_le (fun a => ?_) gs
  by_cases e : a.w = x
  · rw [if_pos e]; exact h
  · rw [if_neg e]; exact Nat.le_refl _
theorem NOk.after {n m : Net} (h : NOk n) {s : Rule × S} (e : n.after s = some m) : NOk m := by
  have hs := (after_ok h.sd e).1
  have hz := h.sz
  have ho := h.osz
  unfold Net.after at e
  cases hg : n.gate? s.2 with
  | some g =>
    rw [hg] at e
    obtain ⟨l, hl, rfl⟩ := Option.map_eq_some_iff.mp e
    refine ⟨hs, ?_, ho⟩
    have := putG_len (gs := n.gates) (x := s.2) (gateAfter_len hl)
    unfold Net.decl Net.gw Net.rw at hz ⊢
    simp only [List.length_append, List.length_map] at hz ⊢
    omega
  | none =>
    rw [hg] at e
    dsimp only at e
    cases hr : n.regs.find? (fun r => decide (r.w = s.2)) with
    | none => rw [hr] at e; cases e
    | some r =>
      rw [hr] at e
      dsimp only at e
      split at e
      · obtain ⟨q, hq, rfl⟩ := Option.map_eq_some_iff.mp e
        refine ⟨hs, ?_, ho⟩
        unfold Net.decl Net.gw Net.rw putR at *
        simp only [List.length_append, List.length_map] at hz ⊢
        omega
      · cases e
theorem Goes.nok {n m : Net} {c : List (Rule × S)} (h : Goes n c m) : NOk n → NOk m := by
  induction h with
  | nil => exact id
  | snoc _ e ih => exact fun k => (ih k).after e
section
variable {P : Program} {w : World} {K : PySem.W.Frag} {mg : Str → Option Value} {base : Heap}
theorem sc_net_after : FnScope ["net", "step", "known", "rule", "wire", "after", "reg", "changed"] ["net", "step", "known"] (defScope (top 79)) :=
  ⟨rfl, rfl, rfl, by decide +kernel, rfl, by decide +kernel, by decide +kernel⟩
def spNAft (P : Program) (w : World) : Sp := fun vs H Q _ => ∃ (vn vs_ vk : V) (n : Net) (s : Rule × S), vs = [vn, vs_, vk] ∧ Rep H n.d vn ∧ NOk n ∧ Rep H (stepD s) vs_ ∧ KN P w H vk n ∧ ∀ v H', Same H H' → ON H' (n.after s) v → Q v H'
theorem cal_net_after (F : Df K mg "net_after" "net_after" 79) (C_gate_after : Cal P w K mg base CX0 4 "gate_after" ["rule", "gate", "known"] (spGAft P w)) (C_reg_after : Cal P w K mg base CX0 3 "reg_after" ["rule", "reg", "known"] (spRAft P w)) (C_put_at : Cal P w K mg base CX0 1 "put_at" ["items", "wire", "after"] spPut) : Cal P w K mg base CX0 5 "net_after" ["net", "step", "known"] (spNAft P w) := by
  refine F.cal sc_net_after (fun vs H Q E h => ?_) (fun _ _ _ _ _ _ us hl => match us, hl with | [_, _, _], _ => rfl) (fun f cdv A outer s H vs Q E hr h => ?_)
  · obtain ⟨_, _, _, _, _, rfl, _⟩ := h
    rfl
  · obtain ⟨vn, vs_, vk, n, st, rfl, rv, hn, rs_, kn, k⟩ := h
    refine ⟨_, (pss_cons (ps_asg (pv 1) (pg_tup rfl (pgs_cons (pg_name (i := 3) sc_net_after.nd rfl (Or.inl rfl)) (pgs_cons (pg_name (i := 4) sc_net_after.nd rfl (Or.inl rfl)) pgs_nil))))
      (pss_cons (ps_if (pt_cmp (pc_din (hu_of hr) (pv 4) (pe_ix (r := rIxT K) ix_tup (pv 2) pe_int (fun _ _ => rfl))))
        (pss_cons (ps_set (i := 5) sc_net_after.nd rfl (Or.inl rfl) (pe_callC C_gate_after (hr.mono (by decide)) rfl pass0 (pa_cons (pv 3) (pa_cons (pe_dget (hu_of hr) (pe_ix (r := rIxT K) ix_tup (pv 2) pe_int (fun _ _ => rfl)) (pv 4) (fun _ _ => rfl)) (pa_cons (pv 2) pa_nil)))))
        (pss_cons (ps_if (pt_cmpR op_isN (pv 5) pe_non (nomark _))
          (pss_one (ps_ret pe_non))
          pss_nil)
        (pss_one (ps_ret (pe_tup (pa_cons (pe_ix (r := rIxT K) ix_tup (pv 0) pe_int (fun _ _ => rfl)) (pa_cons (pe_callC C_put_at (hr.mono (by decide)) rfl pass0 (pa_cons (pe_ix (r := rIxT K) ix_tup (pv 0) pe_int (fun _ _ => rfl)) (pa_cons (pv 4) (pa_cons (pv 5) pa_nil)))) (pa_cons (pe_ix (r := rIxT K) ix_tup (pv 0) pe_int (fun _ _ => rfl)) (pa_cons (pe_ix (r := rIxT K) ix_tup (pv 0) pe_int (fun _ _ => rfl)) pa_nil)))))))))
        pss_nil)
      (pss_cons (ps_for PassesOwn.never rfl (pi_tup (pe_ix (r := rIxT K) ix_tup (pv 0) pe_int (fun _ _ => rfl))) (pg_name (i := 6) sc_net_after.nd rfl (Or.inl rfl))
        (pss_one (ps_if (pt_cmpR op_eq (pe_ix (r := rIxT K) ix_tup (pv 6) pe_int (fun _ _ => rfl)) (pv 4) (nomark _))
          (pss_cons (ps_set (i := 7) sc_net_after.nd rfl (Or.inl rfl) (pe_callC C_reg_after (hr.mono (by decide)) rfl pass0 (pa_cons (pv 3) (pa_cons (pv 6) (pa_cons (pv 2) pa_nil)))))
          (pss_cons (ps_if (pt_cmpR op_isN (pv 7) pe_non (nomark _))
            (pss_one (ps_ret pe_non))
            pss_nil)
          (pss_one (ps_ret (pe_tup (pa_cons (pe_ix (r := rIxT K) ix_tup (pv 0) pe_int (fun _ _ => rfl)) (pa_cons (pe_ix (r := rIxT K) ix_tup (pv 0) pe_int (fun _ _ => rfl)) (pa_cons (pe_callC C_put_at (hr.mono (by decide)) rfl pass0 (pa_cons (pe_ix (r := rIxT K) ix_tup (pv 0) pe_int (fun _ _ => rfl)) (pa_cons (pv 4) (pa_cons (pe_tup (pa_cons (pv 7) pa_nil)) pa_nil)))) (pa_cons (pe_ix (r := rIxT K) ix_tup (pv 0) pe_int (fun _ _ => rfl)) pa_nil)))))))))
          pss_nil)))
      (pss_one (ps_ret pe_non))))), ?_⟩
    obtain ⟨p, v1, v2, v3, v4, rfl, hp, r1, r2, r3, r4⟩ := rv.t4
    obtain ⟨ps, y1, y2, rfl, hps, z1, z2⟩ := rs_.t2
    rw [z1.eStr, z2.eStr] at hps
    have kn0 := kn
    obtain ⟨pk, dg, du, df, mf, m, rfl, hpk, gd, sdu, fd, hfd⟩ := kn.ex
    have hgz := hn.gsz
    have hrz := hn.rsz
    refine ⟨_, rfl, ps, _, rfl, SqT.of hps, rfl, _, _, rfl, _, _, rfl, rfl, ?_⟩
    unfold Net.after at k
    cases hg : n.gate? st.2 with
    | some g =>
      rw [hg] at k
      dsimp only at k
      obtain ⟨v, hv, rg⟩ := gd.some hg
      refine ⟨_, rfl, _, rfl, pk, _, _, _, rfl, rfl, SqT.of hpk, rfl, dg, _, rfl, hv, _, rfl, ifT rfl ?_⟩
      refine ⟨_, rfl, _, rfl, pk, _, _, _, rfl, rfl, SqT.of hpk, rfl, _, rfl, dg, _, rfl, hv, _, rfl, st.1, _, _, g, n, rfl, rg, gate?_mem hg, kn0, hn.sd, fun va H1 e1 og => ⟨_, rfl, rfl, _, rfl, ?_⟩⟩
      rw [og.isN]
      cases hga : n.gateAfter st.1 g with
      | none =>
        rw [hga] at k
        exact iteT (k _ _ e1 rfl)
      | some l =>
        rw [hga] at k og
        refine iteF ⟨_, rfl, p, _, _, _, rfl, rfl, SqT.of (e1 _ _ hp), rfl, _, rfl, p, _, _, _, rfl, rfl, SqT.of (e1 _ _ hp), rfl, _, rfl, _, rfl, v2, va, st.2, n.gates.map Gate.kv, l.map Gate.d, rfl, ?_, og, ?_, ?_, fun vp H2 e2 rp => ?_⟩
        · rw [gates_kv]; exact r2.ex e1
        · rw [List.length_map]; exact hgz
        · rw [List.length_map]; exact gateAfter_len hga
        · rw [putG_kv] at rp
          have e12 := e1.trans e2
          refine ⟨_, rfl, p, _, _, _, rfl, rfl, SqT.of (e12 _ _ hp), rfl, _, rfl, p, _, _, _, rfl, rfl, SqT.of (e12 _ _ hp), rfl, sz5 (by simp), fun t ht => k _ _ (e12.trans (Same.new ht)) (.tup upd_same (.cons ((r1.ex e12).ex (Same.new ht)) (.cons (rp.ex (Same.new ht)) (.cons ((r3.ex e12).ex (Same.new ht)) (.cons ((r4.ex e12).ex (Same.new ht)) .nil)))))⟩
    | none =>
      rw [hg] at k
      dsimp only at k
      refine ⟨_, rfl, _, rfl, pk, _, _, _, rfl, rfl, SqT.of hpk, rfl, dg, _, rfl, gd.none hg, _, rfl, ifF rfl ?_⟩
      obtain ⟨p3, rs, rfl, h3, rr⟩ := r3.eTup
      have lr := rr.len
      rw [List.length_map] at lr
      refine ⟨_, rfl, p, _, _, _, rfl, rfl, SqT.of hp, rfl, p3, rfl, ⟨_, SqT.of h3⟩, ?_⟩
      refine for_it (walk_tup (xs := rs)) (fun i σ H' => Same H H' ∧ (∀ d ∈ n.regs.take i, decide (d.w = st.2) = false) ∧ ∃ o6, σ = [some (.ref p), some (.ref ps), some (.ref pk), some (.str st.1.s), some (.str st.2), none, o6, none]) ⟨Same.refl H, (fun d hd => by simp at hd), _, rfl⟩ (fun i σ H' _ h => SqT.of (h.1 _ _ h3)) ?_ ?_
      · rintro i y σ _ H1 hi ⟨e1, hno, o6, rfl⟩ ⟨rfl, hy⟩
        obtain ⟨r, hr', rrg⟩ := rr.at hy
        obtain ⟨q, x1, x2, x3, rfl, hq, q1, q2, q3⟩ := rrg.t3
        rw [q1.eStr] at hq
        refine ⟨_, rfl, q, _, _, _, rfl, rfl, SqT.of (e1 _ _ hq), rfl, _, rfl, rfl, _, rfl, ?_⟩
        rw [eq_str]
        refine if2 (fun hb => ?_) fun hb => ?_
        · rw [find_at hr' hb hno] at k
          dsimp only at k
          refine ⟨_, rfl, _, rfl, _, rfl, st.1, _, _, r, n, rfl, rrg.ex e1, kn0.same e1, hn.sd, fun va H2 e2 og => ⟨_, rfl, rfl, _, rfl, ?_⟩⟩
          have e12 := e1.trans e2
          rw [og.isN]
          cases hra : (if st.1 = .skip then n.regAfter r else none) with
          | none =>
            have : (if st.1 = .skip then (n.regAfter r).map (fun q => (⟨n.ins, n.gates, putR n.regs st.2 q, n.outs⟩ : Net)) else none) = none := by
              by_cases hc : st.1 = .skip
              · rw [if_pos hc] at hra ⊢
                rw [hra]; rfl
              · rw [if_neg hc]
            rw [this] at k
            exact iteT (k _ _ e12 rfl)
          | some q' =>
            have : (if st.1 = .skip then (n.regAfter r).map (fun q => (⟨n.ins, n.gates, putR n.regs st.2 q, n.outs⟩ : Net)) else none) = some ⟨n.ins, n.gates, putR n.regs st.2 q', n.outs⟩ := by
              by_cases hc : st.1 = .skip
              · rw [if_pos hc] at hra ⊢
                rw [hra]; rfl
              · rw [if_neg hc] at hra
                cases hra
            rw [this] at k
            rw [hra] at og
            refine iteF ⟨_, rfl, p, _, _, _, rfl, rfl, SqT.of (e12 _ _ hp), rfl, _, rfl, p, _, _, _, rfl, rfl, SqT.of (e12 _ _ hp), rfl, _, rfl, p, _, _, _, rfl, rfl, SqT.of (e12 _ _ hp), rfl, _, rfl, _, rfl, sz5 (by simp), fun t ht => ?_⟩
            have e3 := e12.trans (Same.new ht (o := .tup [va]))
            refine ⟨.ref p3, .ref t, st.2, n.regs.map Reg.kv, [q'.d], rfl, ?_, .tup upd_same (.one (Rep.ex (Same.new ht) og)), ?_, Nat.le_refl _, fun vp H3 e4 rp => ?_⟩
            · rw [regs_kv]; exact r3.ex e3
            · rw [List.length_map]; exact hrz
            · rw [putR_kv] at rp
              have e5 := e3.trans e4
              refine ⟨_, rfl, p, _, _, _, rfl, rfl, SqT.of (e5 _ _ hp), rfl, sz5 (by simp), fun t2 ht2 => k _ _ (e5.trans (Same.new ht2)) (.tup upd_same (.cons ((r1.ex e5).ex (Same.new ht2)) (.cons ((r2.ex e5).ex (Same.new ht2)) (.cons (rp.ex (Same.new ht2)) (.cons ((r4.ex e5).ex (Same.new ht2)) .nil)))))⟩
        · refine ⟨e1, fun d hd => ?_, _, rfl⟩
          rcases (mem_take_succ hr').mp hd with c | c
          · exact hno d c
          · rw [c]; exact hb
      · rintro σ H1 ⟨e1, hno, o6, rfl⟩
        rw [← lr, List.take_length] at hno
        rw [List.find?_eq_none.mpr fun r hr => by rw [hno r hr]; exact Bool.false_ne_true] at k
        exact k _ _ e1 rfl
end
end Wi
set_option maxHeartbeats 4000000
set_option maxRecDepth 100000
namespace Wi
open PySem L2 PySem.Spec PyProof.Rows
theorem rep_notN {H : Hp} {l : List D} {v : V} (h : Rep H (.tup l) v) : decide (v = V.non) = false := by
  obtain ⟨a, _, rfl, _⟩ := h.eTup
  rfl
section
variable {P : Program} {w : World} {K : PySem.W.Frag} {mg : Str → Option Value} {base : Heap}
theorem sc_net_behind : FnScope ["net", "chain", "here", "step", "after"] ["net", "chain"] (defScope (top 82)) :=
  ⟨rfl, rfl, rfl, by decide +kernel, rfl, by decide +kernel, by decide +kernel⟩
def spBehind : Sp := fun vs H Q _ => ∃ (vn vc : V) (n m : Net) (c : List (Rule × S)), vs = [vn, vc] ∧ Rep H n.d vn ∧ NOk n ∧ Rep H (.tup (c.map stepD)) vc ∧ Goes n c m ∧ ∀ v H', Same H H' → Rep H' m.d v → Q v H'
theorem cal_net_behind (F : Df K mg "net_behind" "net_behind" 82) (C_net_after : Cal P w K mg base CX0 5 "net_after" ["net", "step", "known"] (spNAft P w)) (C_known_of : Cal P w K mg base CX0 2 "known_of" ["net"] (spNetR (rKnown P w))) : Cal P w K mg base CX0 6 "net_behind" ["net", "chain"] spBehind := by
  refine F.cal sc_net_behind (fun vs H Q E h => ?_) (fun _ _ _ _ _ _ us hl => match us, hl with | [_, _], _ => rfl) (fun f cdv A outer s H vs Q E hr h => ?_)
  · obtain ⟨_, _, _, _, _, rfl, _⟩ := h
    rfl
  · obtain ⟨vn, vc, n, m, c, rfl, rv, hn, rc, hgo, k⟩ := h
    refine ⟨_, (pss_cons (ps_set (i := 2) sc_net_behind.nd rfl (Or.inl rfl) (pv 0))
      (pss_cons (ps_for PassesOwn.never rfl (pi_tup (pv 1)) (pg_name (i := 3) sc_net_behind.nd rfl (Or.inl rfl))
        (pss_cons (ps_set (i := 4) sc_net_behind.nd rfl (Or.inl rfl) (pe_callC C_net_after (hr.mono (by decide)) rfl pass0 (pa_cons (pv 2) (pa_cons (pv 3) (pa_cons (pe_callC C_known_of (hr.mono (by decide)) rfl pass0 (pa_cons (pv 2) pa_nil)) pa_nil)))))
        (pss_cons (ps_if (pt_cmpR op_isN (pv 4) pe_non (nomark _))
          pss_never
          pss_nil)
        (pss_one (ps_set (i := 2) sc_net_behind.nd rfl (Or.inl rfl) (pv 4))))))
      (pss_one (ps_ret (pv 2))))), ?_⟩
    obtain ⟨p, us, rfl, hp, ru⟩ := rc.eTup
    have lu := ru.len
    rw [List.length_map] at lu
    refine ⟨_, rfl, _, rfl, p, rfl, ⟨_, SqT.of hp⟩, ?_⟩
    refine for_it (walk_tup (xs := us)) (fun i σ H' => Same H H' ∧ ∃ v a o3 o4, Goes n (c.take i) a ∧ Rep H' a.d v ∧ σ = [some vn, some (.ref p), some v, o3, o4]) ⟨Same.refl H, vn, n, _, _, .nil n, rv, rfl⟩ (fun i σ H' _ h => SqT.of (h.1 _ _ hp)) ?_ ?_
    · rintro i y σ _ H1 hi ⟨e1, v, a, o3, o4, ga, ra, rfl⟩ ⟨rfl, hy⟩
      obtain ⟨st, hst, rst⟩ := ru.at hy
      obtain ⟨a', b, s', g1, g2, g3, g4⟩ := hgo.take i (by omega)
      have := ga.det g1
      subst this
      rw [hst] at g2
      cases g2
      refine ⟨_, rfl, _, rfl, _, rfl, a, v, rfl, ra, ga.nok hn, fun vk H2 e2 kn => ?_⟩
      refine ⟨v, _, vk, a, st, rfl, ra.ex e2, ga.nok hn, (rst.ex e1).ex e2, kn, fun vm H3 e3 on => ?_⟩
      rw [g3] at on
      refine ⟨_, rfl, rfl, _, rfl, ?_⟩
      rw [rep_notN on]
      exact iteF ⟨_, rfl, e1.trans (e2.trans e3), vm, b, _, _, g4, on, rfl⟩
    · rintro σ H1 ⟨e1, v, a, o3, o4, ga, ra, rfl⟩
      rw [← lu, List.take_length] at ga
      have := ga.det hgo
      subst this
      exact ⟨_, rfl, k _ _ e1 ra⟩
theorem sc_trail : FnScope ["net", "chain", "out", "step"] ["net", "chain"] (defScope (top 83)) :=
  ⟨rfl, rfl, rfl, by decide +kernel, rfl, by decide +kernel, by decide +kernel⟩
def spTrail : Sp := fun vs H Q _ => ∃ (vn vc : V) (n m : Net) (c : List (Rule × S)), vs = [vn, vc] ∧ Rep H n.d vn ∧ NOk n ∧ Rep H (.tup (c.map stepD)) vc ∧ c.length ≤ 1000 ∧ Goes n c m ∧ ∀ v H' (ms : List Net), Same H H' → ms.length = c.length + 1 → ms[0]? = some n → ms[c.length]? = some m → Rep H' (.tup (ms.map Net.d)) v → Q v H'
theorem cal_trail (F : Df K mg "trail" "trail" 83) (B : Bl mg) (C_check_sound : Cal P w K mg base CX0 7 "check_sound" ["net"] (spNet rNon)) (C_net_behind : Cal P w K mg base CX0 6 "net_behind" ["net", "chain"] spBehind) : Cal P w K mg base CX0 8 "trail" ["net", "chain"] spTrail := by
  refine F.cal sc_trail (fun vs H Q E h => ?_) (fun _ _ _ _ _ _ us hl => match us, hl with | [_, _], _ => rfl) (fun f cdv A outer s H vs Q E hr h => ?_)
  · obtain ⟨_, _, _, _, _, rfl, _⟩ := h
    rfl
  · obtain ⟨vn, vc, n, m, c, rfl, rv, hn, rc, hcz, hgo, k⟩ := h
    refine ⟨_, (pss_cons (ps_expr (pe_callC C_check_sound (hr.mono (by decide)) rfl pass0 (pa_cons (pv 0) pa_nil)))
      (pss_cons (ps_set (i := 2) sc_trail.nd rfl (Or.inl rfl) (pe_lst (pa_cons (pv 0) pa_nil)))
      (pss_cons (ps_for PassesOwn.never rfl (pi_tup (pv 1)) (pg_name (i := 3) sc_trail.nd rfl (Or.inl rfl))
        (pss_one (ps_expr (pe_bm PySem.F.plainAttrs_list PySem.F.slot_list_append PySem.F.type_list_append mt_append (pv 2) (pa_cons (pe_callC C_net_behind (hr.mono (by decide)) rfl pass0 (pa_cons (pe_ix (r := rIxL K) ix_list (pv 2) (pe_un un_neg pe_int) (fun _ _ => rfl)) (pa_cons (pe_tup (pa_cons (pv 3) pa_nil)) pa_nil))) pa_nil)))))
      (pss_one (ps_ret (pe_callTy call_tuple_of rfl B.tuple (by decide +kernel) (pa_cons (pv 2) pa_nil))))))), ?_⟩
    obtain ⟨p, us, rfl, hp, ru⟩ := rc.eTup
    have lu := ru.len
    rw [List.length_map] at lu
    refine ⟨_, rfl, n, vn, rfl, rv, hn, fun H1 e1 => ?_⟩
    refine ⟨_, rfl, sz5 (by simp), fun L hL => ?_⟩
    have e0 := e1.trans (Same.new hL (o := .lst [vn]))
    have hL0 : H L = none := by
      cases h : H L with
      | none => rfl
      | some o => rw [e1 _ _ h] at hL; cases hL
    refine ⟨_, rfl, p, rfl, ⟨_, SqT.of (e0 _ _ hp)⟩, ?_⟩
    refine for_it (walk_tup (xs := us)) (fun i σ H' => Same H H' ∧ (∃ (ms : List Net) (vs : List V) (v : V) (a : Net), H' L = some (.lst (vs ++ [v])) ∧ RepL H' (ms.map Net.d) (vs ++ [v]) ∧ ms.length = i + 1 ∧ ms[0]? = some n ∧ ms[i]? = some a ∧ Goes n (c.take i) a) ∧ ∃ o3, σ = [some vn, some (.ref p), some (.ref L), o3]) ⟨e0, ⟨[n], [], vn, n, upd_same, .one (rv.ex e0), rfl, rfl, rfl, .nil n⟩, _, rfl⟩ (fun i σ H' _ h => SqT.of (h.1 _ _ hp)) ?_ ?_
    · rintro i y σ _ H2 hi ⟨e2, ⟨ms, vs, v, a, hv, rvs, ml, m0, mi, ga⟩, o3, rfl⟩ ⟨rfl, hy⟩
      obtain ⟨st, hst, rst⟩ := ru.at hy
      obtain ⟨a', b, s', g1, g2, g3, g4⟩ := hgo.take i (by omega)
      have := ga.det g1
      subst this
      rw [hst] at g2
      cases g2
      have ra : Rep H2 a.d v := by
        obtain ⟨u, hu, ru'⟩ := rvs.get (i := i) (d := a.d) (by rw [List.getElem?_map, mi]; rfl)
        have hl := rvs.len
        rw [List.length_map, ml, List.length_append, List.length_singleton] at hl
        have : i = vs.length := by omega
        rw [this, List.getElem?_append_right (Nat.le_refl _)] at hu
        simp at hu
        rw [hu]
        exact ru'
      have hlen := rvs.len
      rw [List.length_map, ml] at hlen
      refine ⟨_, rfl, .inl ⟨rfl, _, SqL.of hv⟩, _, rfl, _, rfl, L, _, -1, v, rfl, rfl, SqL.of hv, atI_last _ _, _, rfl, sz5 (by simp), fun t ht => ?_⟩
      have e3 := e2.trans (Same.new ht (o := .tup [y]))
      refine ⟨v, .ref t, a, b, [st], rfl, ra.ex (Same.new ht), ga.nok hn, .tup upd_same (.one ((rst.ex e2).ex (Same.new ht))), ?_, fun vm H3 e4 rm => ?_⟩
      · exact .snoc (.nil a) g3
      have e5 := e3.trans e4
      have hv3 : H3 L = some (.lst (vs ++ [v])) := ((Same.new ht).trans e4) _ _ hv
      refine ⟨L, _, vm, rfl, rfl, hv3, ?_, e5.mut hL0, ⟨ms ++ [b], vs ++ [v], vm, b, upd_same, ?_, by simp [ml], ?_, ?_, g4⟩, _, rfl⟩
      · rw [← hlen]
        exact sz5' (by omega)
      · have tx : Tx H3 (upd H3 L (.lst (vs ++ [v] ++ [vm]))) := (Tx.refl H3).mut hv3 fun _ z => nomatch z
        rw [List.map_append]
        exact (((rvs.ex ((Same.new ht).trans e4)).snoc rm)).tx tx
      · rw [List.getElem?_append_left (by omega)]; exact m0
      · rw [List.getElem?_append_right (by omega), ml]; simp
    · rintro σ H2 ⟨e2, ⟨ms, vs, v, a, hv, rvs, ml, m0, mi, ga⟩, o3, rfl⟩
      rw [← lu] at ml mi
      rw [← lu, List.take_length] at ga
      have := ga.det hgo
      subst this
      refine ⟨_, rfl, L, _, rfl, .inl ⟨SqL.of hv, fun t ht => k _ _ ms (e2.trans (Same.new ht)) ml m0 mi (.tup upd_same (rvs.ex (Same.new ht)))⟩⟩
theorem sc_is_settled : FnScope ["net"] ["net"] (defScope (top 84)) :=
  ⟨rfl, rfl, rfl, by decide +kernel, rfl, by decide +kernel, by decide +kernel⟩
def rSettled (n : Net) : Hp → VK → Prop := fun H Q => ∀ H', Same H H' → Q (.bl n.firstStep.isNone) H'
theorem cal_is_settled (F : Df K mg "is_settled" "is_settled" 84) (C_check_sound : Cal P w K mg base CX0 7 "check_sound" ["net"] (spNet rNon)) (C_known_of : Cal P w K mg base CX0 2 "known_of" ["net"] (spNetR (rKnown P w))) (C_first_step : Cal P w K mg base CX0 5 "first_step" ["net", "known"] (spFirst P w)) : Cal P w K mg base CX0 8 "is_settled" ["net"] (spNetR rSettled) := by
  refine F.cal sc_is_settled (fun vs H Q E h => ?_) (fun _ _ _ _ _ _ us hl => match us, hl with | [_], _ => rfl) (fun f cdv A outer s H vs Q E hr h => ?_)
  · obtain ⟨_, _, rfl, _⟩ := h
    rfl
  · obtain ⟨n, v, rfl, rv, hn, k⟩ := h
    refine ⟨_, (pss_cons (ps_expr (pe_callC C_check_sound (hr.mono (by decide)) rfl pass0 (pa_cons (pv 0) pa_nil)))
      (pss_one (ps_ret (pe_cmpR op_isN (pe_callC C_first_step (hr.mono (by decide)) rfl pass0 (pa_cons (pv 0) (pa_cons (pe_callC C_known_of (hr.mono (by decide)) rfl pass0 (pa_cons (pv 0) pa_nil)) pa_nil))) pe_non (nomark _))))), ?_⟩
    refine ⟨_, rfl, n, _, rfl, rv, hn, fun H1 e1 => ?_⟩
    refine ⟨_, rfl, _, rfl, n, _, rfl, rv.ex e1, hn, fun vk H2 e2 kn => ?_⟩
    refine ⟨_, _, n, rfl, (rv.ex e1).ex e2, hn, kn, fun vo H3 e3 og => ⟨rfl, ?_⟩⟩
    rw [og.isN]
    exact k _ (e1.trans (e2.trans e3))
theorem sc_rewrite : FnScope ["net", "limit", "here", "chain", "known", "step"] ["net", "limit"] (defScope (top 85)) :=
  ⟨rfl, rfl, rfl, by decide +kernel, rfl, by decide +kernel, by decide +kernel⟩
def spRewrite : Sp := fun vs H Q _ => ∃ (vn : V) (n : Net) (lim : Nat), vs = [vn, .int (lim : Int)] ∧ Rep H n.d vn ∧ NOk n ∧ lim ≤ 1000 ∧ ∀ v H' (m : Net) (c : List (Rule × S)), Same H H' → Goes n c m → c.length ≤ lim → (c.length = lim ∨ m.firstStep = none) → Rep H' (.tup [m.d, .tup (c.map stepD)]) v → Q v H'
theorem cal_rewrite (F : DfK K mg "rewrite" "rewrite" 85 [("limit", .int 400)]) (B : Bl mg) (G : GC K w mg) (C_check_sound : Cal P w K mg base CX0 7 "check_sound" ["net"] (spNet rNon)) (C_known_of : Cal P w K mg base CX0 2 "known_of" ["net"] (spNetR (rKnown P w))) (C_first_step : Cal P w K mg base CX0 5 "first_step" ["net", "known"] (spFirst P w))
    (C_net_after : Cal P w K mg base CX0 5 "net_after" ["net", "step", "known"] (spNAft P w)) : CalF P w K mg base CX0 8 "rewrite" "rewrite" 85 [("limit", .int 400)] ["net", "limit"] spRewrite := by
  refine F.cal sc_rewrite (fun vs H Q E h => ?_) (fun f cdv A outer s H vs Q E hr h => ?_)
  · obtain ⟨_, _, _, rfl, _⟩ := h
    rfl
  · obtain ⟨vn, n, lim, rfl, rv, hn, hlim, k⟩ := h
    refine ⟨_, (pss_cons (ps_expr (pe_callC C_check_sound (hr.mono (by decide)) rfl pass0 (pa_cons (pv 0) pa_nil)))
      (pss_cons (ps_if (PW.pt (pw_or (pt_cmpR op_lt (pv 1) pe_int (nomark _)) (pw_or1 (pt_cmpR op_gt (pv 1) (pe_globI rfl G.MOST_STEPS) (nomark _)))))
        pss_never
        pss_nil)
      (pss_cons (ps_set (i := 2) sc_rewrite.nd rfl (Or.inl rfl) (pv 0))
      (pss_cons (ps_set (i := 3) sc_rewrite.nd rfl (Or.inl rfl) (pe_lst pa_nil))
      (pss_cons (ps_while PassesOwn.never (pt_cmpR op_lt (pe_callB call_len_seq rfl B.len PySem.boot_len (pa_cons (pv 3) pa_nil)) (pv 1) (nomark _))
        (pss_cons (ps_set (i := 4) sc_rewrite.nd rfl (Or.inl rfl) (pe_callC C_known_of (hr.mono (by decide)) rfl pass0 (pa_cons (pv 2) pa_nil)))
        (pss_cons (ps_set (i := 5) sc_rewrite.nd rfl (Or.inl rfl) (pe_callC C_first_step (hr.mono (by decide)) rfl pass0 (pa_cons (pv 2) (pa_cons (pv 4) pa_nil))))
        (pss_cons (ps_if (pt_cmpR op_isN (pv 5) pe_non (nomark _))
          (pss_one ps_break)
          pss_nil)
        (pss_cons (ps_expr (pe_bm PySem.F.plainAttrs_list PySem.F.slot_list_append PySem.F.type_list_append mt_append (pv 3) (pa_cons (pv 5) pa_nil)))
        (pss_one (ps_set (i := 2) sc_rewrite.nd rfl (Or.inl rfl) (pe_callC C_net_after (hr.mono (by decide)) rfl pass0 (pa_cons (pv 2) (pa_cons (pv 5) (pa_cons (pv 4) pa_nil)))))))))))
      (pss_one (ps_ret (pe_tup (pa_cons (pv 2) (pa_cons (pe_callTy call_tuple_of rfl B.tuple (by decide +kernel) (pa_cons (pv 3) pa_nil)) pa_nil)))))))))), ?_⟩
    refine ⟨_, rfl, n, vn, rfl, rv, hn, fun H1 e1 => ?_⟩
    refine ⟨_, rfl, _, _, rfl, rfl, _, rfl, ifF (decide_eq_false (by omega)) ⟨_, rfl, _, _, rfl, rfl, _, rfl, ifF (decide_eq_false (by omega)) ?_⟩⟩
    refine ⟨_, rfl, by decide, fun L hL => ?_⟩
    have hL0 : H L = none := by
      cases h : H L with
      | none => rfl
      | some o => rw [e1 _ _ h] at hL; cases hL
    have e0 := e1.trans (Same.new hL (o := .lst []))
    -- what stands behind the loop
    have fin : ∀ (σ : L2.St) (H2 : Hp) (a : Net) (c : List (Rule × S)) (us : List V) (v : V), Same H H2 → Goes n c a → c.length ≤ lim → (c.length = lim ∨ a.firstStep = none) → H2 L = some (.lst us) → RepL H2 (c.map stepD) us → Rep H2 a.d v → σ[2]? = some (some v) → σ[3]? = some (some (.ref L)) →
        tRet (tTup (tCons (tVar 2) (tCons (tCB (fun xs H Q => ∃ p ys, xs = [V.ref p] ∧ ((SqL K H p ys ∧ ∀ l, H l = none → Q (V.ref l) (upd H l (.tup ys))) ∨ (SqT K H p ys ∧ Q (.ref p) H))) (tCons (tVar 3) tNil)) tNil))) { nx := fun _ H' => Q .non H', rt := Q } σ H2 := by
      intro σ H2 a c us v e2 ga hc1 hc2 hl rl ra s2 s3
      refine ⟨_, s2, _, s3, L, us, rfl, .inl ⟨SqL.of hl, fun t ht => ⟨sz5 (by simp), fun t2 ht2 => k _ _ a c (e2.trans ((Same.new ht).trans (Same.new ht2))) ga hc1 hc2 ?_⟩⟩⟩
      exact .tup upd_same (.cons (ra.ex ((Same.new ht).trans (Same.new ht2))) (.cons (.tup (Same.new ht2 _ _ upd_same) (rl.ex ((Same.new ht).trans (Same.new ht2)))) .nil))
    refine ⟨fun mm σ H' => ∃ (a : Net) (c : List (Rule × S)) (us : List V) (v : V) (o4 o5 : Option V), mm = lim - c.length ∧ σ = [some vn, some (.int (lim : Int)), some v, some (.ref L), o4, o5] ∧ Same H H' ∧ Goes n c a ∧ c.length ≤ lim ∧ H' L = some (.lst us) ∧ RepL H' (c.map stepD) us ∧ Rep H' a.d v, ⟨_, n, [], [], vn, _, _, rfl, rfl, e0, .nil n, Nat.zero_le _, upd_same, .nil, rv.ex e0⟩, ?_⟩
    rintro mm σ H2 ⟨a, c, us, v, o4, o5, rfl, rfl, e2, ga, hc, hl, rl, ra⟩
    have lus := rl.len
    rw [List.length_map] at lus
    refine ⟨_, rfl, _, _, rfl, .inl (SqL.of hl), _, rfl, _, _, rfl, rfl, _, rfl, if2 (fun hb => ?_) fun hb => ?_⟩
    · have hlt : us.length < lim := by
        have := of_decide_eq_true hb
        omega
      have hna := ga.nok hn
      refine ⟨fun σ' H' => ∃ (b : Net) (st : Rule × S) (us' : List V) (v' : V) (o4 o5 : Option V), σ' = [some vn, some (.int (lim : Int)), some v', some (.ref L), o4, o5] ∧ Same H H' ∧ Goes n (c ++ [st]) b ∧ H' L = some (.lst us') ∧ RepL H' ((c ++ [st]).map stepD) us' ∧ Rep H' b.d v', ?_, ?_⟩
      · rintro σ' H' ⟨b, st, us', v', q4, q5, rfl, w1, w2, w3, w4, w5⟩
        refine ⟨lim - (c ++ [st]).length, by rw [List.length_append, List.length_singleton]; omega, b, c ++ [st], us', v', q4, q5, rfl, rfl, w1, w2, by rw [List.length_append, List.length_singleton]; omega, w3, w4, w5⟩
      refine ⟨_, rfl, a, v, rfl, ra, hna, fun vk H3 e3 kn => ?_⟩
      refine ⟨_, rfl, _, rfl, v, vk, a, rfl, ra.ex e3, hna, kn, fun vo H4 e4 og => ?_⟩
      have e24 := e3.trans e4
      refine ⟨_, rfl, rfl, _, rfl, ?_⟩
      rw [og.isN]
      cases hst : a.firstStep with
      | none =>
        rw [hst] at og
        exact iteT (fin _ H4 a c us v (e2.trans e24) ga hc (.inr hst) (e24 _ _ hl) (rl.ex e24) (ra.ex e24) rfl rfl)
      | some st =>
        rw [hst] at og
        have og : Rep H4 (stepD st) vo := og
        refine iteF ⟨_, rfl, .inl ⟨rfl, _, SqL.of (e24 _ _ hl)⟩, _, rfl, L, _, _, rfl, rfl, e24 _ _ hl, sz5' (by omega), ?_⟩
        obtain ⟨b, hb2⟩ := first_after hna.sd hst
        have tx : Tx H4 (upd H4 L (.lst (us ++ [vo]))) := (Tx.refl H4).mut (e24 _ _ hl) fun _ z => nomatch z
        have hvkL : KN P w (upd H4 L (.lst (us ++ [vo]))) vk a := by
          obtain ⟨pk, dg, du, df, mf, m', rfl, hpk, ⟨f0, gs1, gs2, gs3⟩, sdu, fd, hfd⟩ := (kn.same e4).ex
          have nL : ∀ {x : Addr} {o : HO}, H4 x = some o → (∀ ys, o ≠ .lst ys) → x ≠ L := fun hx ho z => by
            rw [z, e24 _ _ hl] at hx
            exact ho _ (Option.some.inj hx).symm
          obtain ⟨kv1, hkv1⟩ := gs1.dict
          obtain ⟨kv2, hkv2⟩ := sdu.dict
          obtain ⟨φ, hφ⟩ := fd.some
          refine ⟨pk, dg, du, df, mf, m', rfl, tx _ _ hpk, ⟨f0, gs1.at (upd_ne (nL hkv1 fun _ z => nomatch z)), gs2, fun g hg => let ⟨v, x1, x2⟩ := gs3 g hg; ⟨v, x1, x2.tx tx⟩⟩, sdu.at (upd_ne (nL hkv2 fun _ z => nomatch z)), fd.tx (upd_ne (nL hφ fun _ z => nomatch z)) tx, hfd⟩
        refine ⟨_, rfl, _, rfl, _, rfl, v, vo, vk, a, st, rfl, (ra.ex e24).tx tx, hna, og.tx tx, hvkL, fun vm H5 e5 on => ?_⟩
        rw [hb2] at on
        refine ⟨b, st, us ++ [vo], vm, _, _, rfl, ((e2.trans e24).mut hL0).trans e5, .snoc ga hb2, e5 _ _ upd_same, ?_, on⟩
        rw [List.map_append]
        exact (((rl.ex e24).snoc og).tx tx).ex e5
    · have hge : ¬ us.length < lim := by
        have := of_decide_eq_false hb
        omega
      exact fin _ H2 a c us v e2 ga hc (.inl (by omega)) hl rl ra rfl rfl
end
end Wi
set_option maxHeartbeats 4000000
set_option maxRecDepth 100000
namespace Wi
open PySem L2 PySem.Spec PyProof.Rows
def bitD (b : Bool) : D := .int (b2i b)
def bitsD (bs : List Bool) : D := .tup (bs.map bitD)
def rowsD (rs : List (List Bool)) : D := .tup (rs.map bitsD)
def bitV (b : Bool) : V := .int (b2i b)
theorem RepL.bits {H : Hp} : ∀ {bs : List Bool} {vs : List V}, RepL H (bs.map bitD) vs → vs = bs.map bitV
  | [], _, .nil => rfl
  | b :: bs, _, .cons h r => by rw [h.eInt, RepL.bits r]; rfl
theorem repL_bits {H : Hp} : ∀ bs : List Bool, RepL H (bs.map bitD) (bs.map bitV)
  | [] => .nil
  | b :: bs => .cons (.int _) (repL_bits bs)
theorem Rep.bits {H : Hp} {bs : List Bool} {v : V} (h : Rep H (bitsD bs) v) : ∃ p, v = .ref p ∧ H p = some (.tup (bs.map bitV)) := by
  obtain ⟨p, vs, e, h1, r⟩ := h.eTup
  rw [RepL.bits r] at h1
  exact ⟨p, e, h1⟩
theorem Rep.ofBits {H : Hp} {bs : List Bool} {p : Addr} (h : H p = some (.tup (bs.map bitV))) : Rep H (bitsD bs) (.ref p) := .tup h (repL_bits bs)
theorem bit_in (b : Bool) : inV (bitV b) [V.int 0, V.int 1] = true := by cases b <;> decide +kernel
def plD (l : List S) : Str → Option V := fun x => if x ∈ l then some (.int (l.idxOf x : Nat)) else none
theorem plD_some {l : List S} {x : S} (h : x ∈ l) : plD l x = some (.int (l.idxOf x : Nat)) := if_pos h
/-- the gate that bears the name -/
def Net.gof (n : Net) (x : S) : Gate := (n.gate? x).getD ⟨x, .zero, []⟩
theorem gof_of {n : Net} (h : Sound n) {x : S} (hx : x ∈ n.gw) : n.gof x ∈ n.gates ∧ (n.gof x).w = x := by
  obtain ⟨g, hg, rfl⟩ := List.mem_map.mp hx
  unfold Net.gof
  rw [gate?_of h.gnd hg]
  exact ⟨hg, rfl⟩
def ixD (n : Net) (x : S) : D := .int (n.decl.idxOf x : Nat)
def moveD (n : Net) (x : S) : D := .tup [ixD n x, .str (n.gof x).op.s, .tup ((n.gof x).args.map (ixD n))]
def planD (n : Net) (o : List S) : D := .tup [.int (n.gates.length : Nat), .tup (o.map (moveD n)), .tup (n.regs.map fun r => ixD n r.src), .tup (n.outs.map (ixD n))]
section
variable {P : Program} {w : World} {K : PySem.W.Frag} {mg : Str → Option Value} {base : Heap}
theorem sc_check_row : FnScope ["row", "count", "bit"] ["row", "count"] (defScope (top 87)) :=
  ⟨rfl, rfl, rfl, by decide +kernel, rfl, by decide +kernel, by decide +kernel⟩
def spRow : Sp := fun vs H Q _ => ∃ (v : V) (bs : List Bool), vs = [v, .int (bs.length : Nat)] ∧ Rep H (bitsD bs) v ∧ ∀ H', Same H H' → Q .non H'
theorem cal_check_row (F : Df K mg "check_row" "check_row" 87) (B : Bl mg) : Cal P w K mg base CX0 1 "check_row" ["row", "count"] spRow := by
  refine F.cal sc_check_row (fun vs H Q E h => ?_) (fun _ _ _ _ _ _ us hl => match us, hl with | [_, _], _ => rfl) (fun f cdv A outer s H vs Q E hr h => ?_)
  · obtain ⟨_, _, rfl, _⟩ := h
    rfl
  · obtain ⟨v, bs, rfl, rv, k⟩ := h
    refine ⟨_, (pss_cons (ps_if (pt_cmpR op_ne (pe_callB call_len_seq rfl B.len PySem.boot_len (pa_cons (pv 0) pa_nil)) (pv 1) (nomark _))
        pss_never
        pss_nil)
      (pss_one (ps_for PassesOwn.never rfl (pi_tup (pv 0)) (pg_name (i := 2) sc_check_row.nd rfl (Or.inl rfl))
        (pss_one (ps_if (pt_cmpR op_notIn_seq (pv 2) (pe_tup (pa_cons pe_int (pa_cons pe_int pa_nil))) (by rfl))
          pss_never
          pss_nil))))), ?_⟩
    obtain ⟨p, rfl, hp⟩ := rv.bits
    refine ⟨_, rfl, p, _, rfl, .inr (SqT.of hp), _, rfl, rfl, _, rfl, ifF (by rw [List.length_map]; simp) ?_⟩
    refine ⟨_, rfl, p, rfl, ⟨_, SqT.of hp⟩, for_it (walk_tup (xs := bs.map bitV)) (fun i σ H' => Same H H' ∧ ∃ o, σ = [some (.ref p), some (.int (bs.length : Nat)), o]) ⟨Same.refl H, _, rfl⟩ (fun i σ H' _ h => SqT.of (h.1 _ _ hp)) ?_ ?_⟩
    · rintro i y σ _ H1 hi ⟨e1, o, rfl⟩ ⟨rfl, hy⟩
      rw [List.getElem?_map] at hy
      obtain ⟨b, hb, rfl⟩ := Option.map_eq_some_iff.mp hy
      refine ⟨_, rfl, sz5 (by simp), fun t ht => ⟨t, _, rfl, .inr (SqT.of upd_same), rfl, rfl, _, rfl, ?_⟩⟩
      show if (!inV (bitV b) [V.int 0, V.int 1]) = true then _ else _
      rw [bit_in]
      exact iteF ⟨e1.trans (Same.new ht), _, rfl⟩
    · rintro σ H1 ⟨e1, o, rfl⟩
      exact k _ e1
theorem sc_check_ticks : FnScope ["rows", "count", "most", "row"] ["rows", "count", "most"] (defScope (top 88)) :=
  ⟨rfl, rfl, rfl, by decide +kernel, rfl, by decide +kernel, by decide +kernel⟩
def spTicks : Sp := fun vs H Q _ => ∃ (v : V) (rows : List (List Bool)) (c m : Nat), vs = [v, .int (c : Int), .int (m : Int)] ∧ Rep H (rowsD rows) v ∧ (∀ r ∈ rows, r.length = c) ∧ rows.length ≤ m ∧ ∀ H', Same H H' → Q .non H'
theorem cal_check_ticks (F : Df K mg "check_ticks" "check_ticks" 88) (B : Bl mg) (C_check_row : Cal P w K mg base CX0 1 "check_row" ["row", "count"] spRow) : Cal P w K mg base CX0 2 "check_ticks" ["rows", "count", "most"] spTicks := by
  refine F.cal sc_check_ticks (fun vs H Q E h => ?_) (fun _ _ _ _ _ _ us hl => match us, hl with | [_, _, _], _ => rfl) (fun f cdv A outer s H vs Q E hr h => ?_)
  · obtain ⟨_, _, _, _, rfl, _⟩ := h
    rfl
  · obtain ⟨v, rows, c, m, rfl, rv, hc, hm, k⟩ := h
    refine ⟨_, (pss_cons (ps_for PassesOwn.never rfl (pi_tup (pv 0)) (pg_name (i := 3) sc_check_ticks.nd rfl (Or.inl rfl))
        (pss_one (ps_expr (pe_callC C_check_row (hr.mono (by decide)) rfl pass0 (pa_cons (pv 3) (pa_cons (pv 1) pa_nil))))))
      (pss_one (ps_if (pt_cmpR op_gt (pe_callB call_len_seq rfl B.len PySem.boot_len (pa_cons (pv 0) pa_nil)) (pv 2) (nomark _))
        pss_never
        pss_nil))), ?_⟩
    obtain ⟨p, us, rfl, hp, ru⟩ := rv.eTup
    have lu := ru.len
    rw [List.length_map] at lu
    refine ⟨_, rfl, p, rfl, ⟨_, SqT.of hp⟩, for_it (walk_tup (xs := us)) (fun i σ H' => Same H H' ∧ ∃ o, σ = [some (.ref p), some (.int (c : Int)), some (.int (m : Int)), o]) ⟨Same.refl H, _, rfl⟩ (fun i σ H' _ h => SqT.of (h.1 _ _ hp)) ?_ ?_⟩
    · rintro i y σ _ H1 hi ⟨e1, o, rfl⟩ ⟨rfl, hy⟩
      obtain ⟨bs, hb, rb⟩ := ru.at hy
      refine ⟨_, rfl, _, rfl, y, bs, ?_, rb.ex e1, fun H2 e2 => ⟨e1.trans e2, _, rfl⟩⟩
      rw [hc bs (List.mem_of_getElem? hb)]
      rfl
    · rintro σ H1 ⟨e1, o, rfl⟩
      refine ⟨_, rfl, p, _, rfl, .inr (SqT.of (e1 _ _ hp)), _, rfl, _, _, rfl, rfl, _, rfl, ifF (decide_eq_false (by omega)) (k _ e1)⟩
theorem sc_first_state : FnScope ["net", "reg"] ["net"] (defScope (top 89)) :=
  ⟨rfl, rfl, rfl, by decide +kernel, rfl, by decide +kernel, by decide +kernel⟩
def rFirst (n : Net) : Hp → VK → Prop := fun H Q => ∀ v H', Same H H' → Rep H' (bitsD (n.regs.map (·.fi))) v → Q v H'
theorem cal_first_state (F : Df K mg "first_state" "first_state" 89) (B : Bl mg) : Cal P w K mg base CX0 1 "first_state" ["net"] (spNetR rFirst) := by
  refine F.cal sc_first_state (fun vs H Q E h => ?_) (fun _ _ _ _ _ _ us hl => match us, hl with | [_], _ => rfl) (fun f cdv A outer s H vs Q E hr h => ?_)
  · obtain ⟨_, _, rfl, _⟩ := h
    rfl
  · obtain ⟨n, v, rfl, rv, hn, k⟩ := h
    refine ⟨_, (pss_one (ps_ret (pe_callTy call_tuple_of rfl B.tuple (by decide +kernel) (pa_cons (pe_lc (own := [("reg", 1)]) rfl sc_first_state.nd (pi_tup (pe_ix (r := rIxT K) ix_tup (pv 0) pe_int (fun _ _ => rfl))) (blkOk_by (N := ["net", "reg"]) (sc := defScope (top 89)) (own := [("reg", 1)]) (by decide +kernel)) (fun _ _ _ _ _ => (pg_name (i := 1) sc_first_state.nd rfl (Or.inl rfl))) (fun _ _ _ _ _ => pts_nil) (fun _ _ _ _ _ => (pe_ix (r := rIxT K) ix_tup (pv 1) pe_int (fun _ _ => rfl)))) pa_nil)))), ?_⟩
    obtain ⟨p, v1, v2, v3, v4, rfl, hp, r1, r2, r3, r4⟩ := rv.t4
    obtain ⟨p3, rs, rfl, h3, rr⟩ := r3.eTup
    have lr := rr.len
    rw [List.length_map] at lr
    have hrz := hn.rsz
    refine ⟨_, rfl, p, _, _, _, rfl, rfl, SqT.of hp, rfl, p3, rfl, ⟨_, SqT.of h3⟩, fun L hL => ?_⟩
    refine lc_data (walk_tup (xs := rs)) ((n.regs.map (·.fi)).map bitD) (by rw [List.length_map, List.length_map]; exact lr) (by omega) hL (fun H1 e => SqT.of (e _ _ h3)) ?_ ?_
    · rintro i x dd _ H1 Q' hi e ⟨rfl, hx⟩ hd q
      obtain ⟨r, hr', rrg⟩ := rr.at hx
      rw [List.getElem?_map, List.getElem?_map, hr'] at hd
      cases hd
      exact ⟨rfl, _, rfl, rd_ixI (i := 1) e rrg rfl (q _ _ (Same.refl _) (.int _))⟩
    · intro H1 us e1 hL1 ru
      exact ⟨L, us, rfl, .inl ⟨SqL.of hL1, fun t ht => k _ _ (e1.trans (Same.new ht)) (.tup upd_same (ru.ex (Same.new ht)))⟩⟩
theorem sc_places_of : FnScope ["net", "place", "wire"] ["net"] (defScope (top 90)) :=
  ⟨rfl, rfl, rfl, by decide +kernel, rfl, by decide +kernel, by decide +kernel⟩
def rPlaces (n : Net) : Hp → VK → Prop := fun H Q => ∀ d H', Same H H' → SD H' d 300 (plD n.decl) → Q (.ref d) H'
theorem cal_places_of (F : Df K mg "places_of" "places_of" 90) (B : Bl mg) (C_wires : Cal P w K mg base CX0 6 "wires" ["net"] (spNetR rWires)) : Cal P w K mg base CX0 7 "places_of" ["net"] (spNetR rPlaces) := by
  refine F.cal sc_places_of (fun vs H Q E h => ?_) (fun _ _ _ _ _ _ us hl => match us, hl with | [_], _ => rfl) (fun f cdv A outer s H vs Q E hr h => ?_)
  · obtain ⟨_, _, rfl, _⟩ := h
    rfl
  · obtain ⟨n, v, rfl, rv, hn, k⟩ := h
    refine ⟨_, (pss_one (ps_ret (pe_dc (own := [("place", 1), ("wire", 2)]) rfl sc_places_of.nd (pi_enumT rfl B.enumerate (pa_cons (pe_callC C_wires (hr.mono (by decide)) rfl pass0 (pa_cons (pv 0) pa_nil)) pa_nil)) (blkOk_by (N := ["net", "place", "wire"]) (sc := defScope (top 90)) (own := [("place", 1), ("wire", 2)]) (by decide +kernel)) (fun _ _ _ _ _ => (pg_tupK (n := 2) (K := K) rfl rfl (pgs_cons (pg_name (i := 1) sc_places_of.nd rfl (Or.inl rfl)) (pgs_cons (pg_name (i := 2) sc_places_of.nd rfl (Or.inl rfl)) pgs_nil)))) (fun _ _ _ _ _ => pts_nil) (fun _ _ _ _ _ => (pv 2)) (fun _ _ _ _ _ => (pv 1))))), ?_⟩
    refine ⟨_, rfl, n, v, rfl, rv, hn, fun v' H1 e1 rl => ?_⟩
    obtain ⟨p, rfl, hp⟩ := rl.strs
    have hz := hn.sz
    refine ⟨p, _, rfl, SqT.of hp, fun D hD => ?_⟩
    refine dc_it (walk_enumT (a := p) (xs := n.decl.map V.str)) (tt := tYes) (fun i H' => Same H1 H' ∧ SD H' D i (fun x => if x ∈ n.decl.take i then some (.int (n.decl.idxOf x : Nat)) else none)) ⟨(Same.refl H1).mut hD, SD.new.imp fun x => (if_neg (by simp)).symm⟩ (fun i H' _ h => SqT.of (h.1 _ _ hp)) ?_ ?_
    · rintro i y H2 H3 hi ⟨e2, sd⟩ ⟨T, a, b, rfl, hT, rfl, ha, hb⟩
      obtain ⟨z, hz', rfl⟩ := strs_get hb
      cases ha
      rw [List.length_map] at hi
      have e3 := Same.new hT (o := .tup [.int (i : Nat), .str z])
      obtain ⟨kvs, a1, a2, a3⟩ := (sd.same e3).put (by omega) z (.int (i : Nat))
      have hlen : kvs.length < sizeLine := by
        obtain ⟨kvs', z1, z2, _⟩ := (sd.same e3).ex
        rw [a1] at z1
        cases z1
        exact sz5' (by omega)
      refine ⟨T, _, rfl, SqT.of upd_same, rfl, _, _, rfl, _, _, rfl, rfl, rfl, _, rfl, _, rfl, kvs, Sum.inr z, rfl, a1, hlen, (e2.trans e3).mut hD, a3.imp fun x => ?_⟩
      rw [take_succ hz']
      by_cases c : x = z
      · rw [if_pos c, if_pos (List.mem_append_right _ (List.mem_singleton.mpr c)), c, idx_nd hn.sd.nd hz']
      · rw [if_neg c]
        simp only [List.mem_append, List.mem_singleton, c, or_false]
    · rintro H2 ⟨e2, sd⟩
      rw [List.length_map, List.take_length] at sd
      exact k _ _ (e1.trans e2) (sd.mono hz)
theorem sc_picked : FnScope ["values", "places", "place"] ["values", "places"] (defScope (top 95)) :=
  ⟨rfl, rfl, rfl, by decide +kernel, rfl, by decide +kernel, by decide +kernel⟩
/-- the values of the wires, in the order of the declaration -/
def valsD (n : Net) (ρ : S → Bool) : D := bitsD (n.decl.map ρ)
def spPicked : Sp := fun vs H Q _ => ∃ (v vp : V) (n : Net) (ρ : S → Bool) (xs : List S), vs = [v, vp] ∧ Rep H (valsD n ρ) v ∧ Rep H (.tup (xs.map (ixD n))) vp ∧ (∀ x ∈ xs, x ∈ n.decl) ∧ xs.length ≤ 300 ∧ ∀ v' H', Same H H' → Rep H' (bitsD (xs.map ρ)) v' → Q v' H'
theorem cal_picked (F : Df K mg "picked" "picked" 95) (B : Bl mg) : Cal P w K mg base CX0 1 "picked" ["values", "places"] spPicked := by
  refine F.cal sc_picked (fun vs H Q E h => ?_) (fun _ _ _ _ _ _ us hl => match us, hl with | [_, _], _ => rfl) (fun f cdv A outer s H vs Q E hr h => ?_)
  · obtain ⟨_, _, _, _, _, rfl, _⟩ := h
    rfl
  · obtain ⟨v, vp, n, ρ, xs, rfl, rv, rp, hx, hz, k⟩ := h
    refine ⟨_, (pss_one (ps_ret (pe_callTy call_tuple_of rfl B.tuple (by decide +kernel) (pa_cons (pe_lc (own := [("place", 2)]) rfl sc_picked.nd (pi_tup (pv 1)) (blkOk_by (N := ["values", "places", "place"]) (sc := defScope (top 95)) (own := [("place", 2)]) (by decide +kernel)) (fun _ _ _ _ _ => (pg_name (i := 2) sc_picked.nd rfl (Or.inl rfl))) (fun _ _ _ _ _ => pts_nil) (fun _ _ _ _ _ => (pe_ix (r := rIxT K) ix_tup (pv 0) (pv 2) (fun _ _ => rfl)))) pa_nil)))), ?_⟩
    obtain ⟨p, rfl, hp⟩ := rv.bits
    obtain ⟨p2, us, rfl, hp2, ru⟩ := rp.eTup
    have lu := ru.len
    rw [List.length_map] at lu
    refine ⟨_, rfl, p2, rfl, ⟨_, SqT.of hp2⟩, fun L hL => ?_⟩
    refine lc_data (walk_tup (xs := us)) ((xs.map ρ).map bitD) (by rw [List.length_map, List.length_map]; exact lu) (by omega) hL (fun H1 e => SqT.of (e _ _ hp2)) ?_ ?_
    · rintro i x dd _ H1 Q' hi e ⟨rfl, hx'⟩ hd q
      obtain ⟨y, hy, ry⟩ := ru.at hx'
      rw [List.getElem?_map, List.getElem?_map, hy] at hd
      cases hd
      have hym := hx y (List.mem_of_getElem? hy)
      rw [ry.eInt]
      refine ⟨rfl, _, rfl, _, rfl, p, _, _, _, rfl, rfl, SqT.of (e _ _ hp), atI_nat (j := n.decl.idxOf y) ?_, q _ _ (Same.refl _) (.int _)⟩
      rw [List.getElem?_map, List.getElem?_map, idx_at hym]
      rfl
    · intro H1 us' e1 hL1 ru'
      exact ⟨L, us', rfl, .inl ⟨SqL.of hL1, fun t ht => k _ _ (e1.trans (Same.new ht)) (.tup upd_same (ru'.ex (Same.new ht)))⟩⟩
end
end Wi
set_option maxHeartbeats 4000000
set_option maxRecDepth 100000
namespace Wi
open PySem L2 PySem.Spec PyProof.Rows
theorem ixN_nat {n j : Nat} (h : j < n) : ixN n (j : Int) = some j := by
  unfold ixN
  rw [if_pos (by omega), if_pos (by omega)]; simp
theorem map_set {β : Type} {l : List S} (nd : l.Nodup) {x : S} (hx : x ∈ l) (f : S → β) (v : β) : (l.map f).set (l.idxOf x) v = l.map fun y => if y = x then v else f y := by
  apply List.ext_getElem?
  intro i
  rw [List.getElem?_set, List.getElem?_map, List.getElem?_map, List.length_map]
  by_cases h : l.idxOf x = i
  · subst h
    rw [if_pos rfl, idx_at hx, if_pos (List.idxOf_lt_length_of_mem hx)]
    simp
  · rw [if_neg h]
    cases e : l[i]? with
    | none => rfl
    | some y =>
      have hy : ¬ y = x := fun z => h (by rw [← z]; exact idx_nd nd e)
      simp [hy]
section
variable {P : Program} {w : World} {K : PySem.W.Frag} {mg : Str → Option Value} {base : Heap}
theorem sc_play_plan : FnScope ["net", "inputs", "gates", "regs", "outputs", "places", "by_wire", "gate", "moves", "wire", "arg", "sources", "reg", "outs", "output"] ["net"] (defScope (top 91)) :=
  ⟨rfl, rfl, rfl, by decide +kernel, rfl, by decide +kernel, by decide +kernel⟩
def rPlan (n : Net) : Hp → VK → Prop := fun H Q => ∀ v H' o, Same H H' → IsOrder n o → Rep H' (planD n o) v → Q v H'
theorem cal_play_plan (F : Df K mg "play_plan" "play_plan" 91) (B : Bl mg) (C_places_of : Cal P w K mg base CX0 7 "places_of" ["net"] (spNetR rPlaces)) (C_find_order : Cal P w K mg base CX0 6 "find_order" ["net"] (spNetR rOrder)) : Cal P w K mg base CX0 8 "play_plan" ["net"] (spNetR rPlan) := by
  refine F.cal sc_play_plan (fun vs H Q E h => ?_) (fun _ _ _ _ _ _ us hl => match us, hl with | [_], _ => rfl) (fun f cdv A outer s H vs Q E hr h => ?_)
  · obtain ⟨_, _, rfl, _⟩ := h
    rfl
  · obtain ⟨n, v, rfl, rv, hn, k⟩ := h
    refine ⟨_, (pss_cons (ps_asg (pv 0) (pg_tup rfl (pgs_cons (pg_name (i := 1) sc_play_plan.nd rfl (Or.inl rfl)) (pgs_cons (pg_name (i := 2) sc_play_plan.nd rfl (Or.inl rfl)) (pgs_cons (pg_name (i := 3) sc_play_plan.nd rfl (Or.inl rfl)) (pgs_cons (pg_name (i := 4) sc_play_plan.nd rfl (Or.inl rfl)) pgs_nil))))))
      (pss_cons (ps_set (i := 5) sc_play_plan.nd rfl (Or.inr rfl) (pe_callC C_places_of (hr.mono (by decide)) rfl pass0 (pa_cons (pv 0) pa_nil)))
      (pss_cons (ps_setDc (i := 6) (own := [("gate", 7)]) rfl sc_play_plan.nd rfl rfl (sw_trueD rfl rfl rfl (by decide +kernel)) (pi_tup (pv 2)) (blkOk_by (N := ["net", "inputs", "gates", "regs", "outputs", "places", "by_wire", "gate", "moves", "wire", "arg", "sources", "reg", "outs", "output"]) (sc := defScope (top 91)) (own := [("gate", 7)]) (by decide +kernel)) (fun _ _ _ _ _ => (pg_name (i := 7) sc_play_plan.nd rfl (Or.inl rfl))) (fun _ _ _ _ _ => pts_nil) (fun _ _ _ _ _ => (pe_ix (r := rIxT K) ix_tup (pv 7) pe_int (fun _ _ => rfl))) (fun _ _ _ _ _ => (pv 7)))
      (pss_cons (ps_set (i := 8) sc_play_plan.nd rfl (Or.inl rfl) (pe_lst pa_nil))
      (pss_cons (ps_for PassesOwn.never rfl (pi_tup (pe_callC C_find_order (hr.mono (by decide)) rfl pass0 (pa_cons (pv 0) pa_nil))) (pg_name (i := 9) sc_play_plan.nd rfl (Or.inl rfl))
        (pss_cons (ps_set (i := 7) sc_play_plan.nd rfl (Or.inl rfl) (pe_dget (hu_of hr) (pv 6) (pv 9) (fun _ _ => rfl)))
        (pss_one (ps_expr (pe_bm PySem.F.plainAttrs_list PySem.F.slot_list_append PySem.F.type_list_append mt_append (pv 8) (pa_cons (pe_tup (pa_cons (pe_dget (hu_of hr) (pv 5) (pv 9) (fun _ _ => rfl)) (pa_cons (pe_ix (r := rIxT K) ix_tup (pv 7) pe_int (fun _ _ => rfl)) (pa_cons (pe_callTy call_tuple_of rfl B.tuple (by decide +kernel) (pa_cons (pe_lc (own := [("arg", 10)]) rfl sc_play_plan.nd (pi_tup (pe_ix (r := rIxT K) ix_tup (pv 7) pe_int (fun _ _ => rfl))) (blkOk_by (N := ["net", "inputs", "gates", "regs", "outputs", "places", "by_wire", "gate", "moves", "wire", "arg", "sources", "reg", "outs", "output"]) (sc := defScope (top 91)) (own := [("arg", 10)]) (by decide +kernel)) (fun _ _ _ _ _ => (pg_name (i := 10) sc_play_plan.nd rfl (Or.inl rfl))) (fun _ _ _ _ _ => pts_nil) (fun _ _ _ _ _ => (pe_dget (hu_of hr) (pv 5) (pv 10) (fun _ _ => rfl)))) pa_nil)) pa_nil)))) pa_nil))))))
      (pss_cons (ps_set (i := 11) sc_play_plan.nd rfl (Or.inl rfl) (pe_callTy call_tuple_of rfl B.tuple (by decide +kernel) (pa_cons (pe_lc (own := [("reg", 12)]) rfl sc_play_plan.nd (pi_tup (pv 3)) (blkOk_by (N := ["net", "inputs", "gates", "regs", "outputs", "places", "by_wire", "gate", "moves", "wire", "arg", "sources", "reg", "outs", "output"]) (sc := defScope (top 91)) (own := [("reg", 12)]) (by decide +kernel)) (fun _ _ _ _ _ => (pg_name (i := 12) sc_play_plan.nd rfl (Or.inl rfl))) (fun _ _ _ _ _ => pts_nil) (fun _ _ _ _ _ => (pe_dget (hu_of hr) (pv 5) (pe_ix (r := rIxT K) ix_tup (pv 12) pe_int (fun _ _ => rfl)) (fun _ _ => rfl)))) pa_nil)))
      (pss_cons (ps_set (i := 13) sc_play_plan.nd rfl (Or.inl rfl) (pe_callTy call_tuple_of rfl B.tuple (by decide +kernel) (pa_cons (pe_lc (own := [("output", 14)]) rfl sc_play_plan.nd (pi_tup (pv 4)) (blkOk_by (N := ["net", "inputs", "gates", "regs", "outputs", "places", "by_wire", "gate", "moves", "wire", "arg", "sources", "reg", "outs", "output"]) (sc := defScope (top 91)) (own := [("output", 14)]) (by decide +kernel)) (fun _ _ _ _ _ => (pg_name (i := 14) sc_play_plan.nd rfl (Or.inl rfl))) (fun _ _ _ _ _ => pts_nil) (fun _ _ _ _ _ => (pe_dget (hu_of hr) (pv 5) (pv 14) (fun _ _ => rfl)))) pa_nil)))
      (pss_one (ps_ret (pe_tup (pa_cons (pe_callB call_len_seq rfl B.len PySem.boot_len (pa_cons (pv 2) pa_nil)) (pa_cons (pe_callTy call_tuple_of rfl B.tuple (by decide +kernel) (pa_cons (pv 8) pa_nil)) (pa_cons (pv 11) (pa_cons (pv 13) pa_nil)))))))))))))), ?_⟩
    obtain ⟨p, v1, v2, v3, v4, rfl, hp, r1, r2, r3, r4⟩ := rv.t4
    have rv0 := rv
    obtain ⟨p2, us, rfl, h2, ru⟩ := r2.eTup
    obtain ⟨p3, rs, rfl, h3, rr⟩ := r3.eTup
    obtain ⟨p4, rfl, h4⟩ := r4.strs
    have lu := ru.len
    have lr := rr.len
    rw [List.length_map] at lu lr
    have hgz := hn.gsz
    have hrz := hn.rsz
    have hoz := hn.osz
    have hgnd := hn.sd.gnd
    refine ⟨_, rfl, p, _, rfl, SqT.of hp, rfl, _, _, rfl, _, _, rfl, _, _, rfl, _, _, rfl, rfl, ?_⟩
    refine ⟨_, rfl, n, _, rfl, rv, hn, fun dp H1 e1 sdp => ?_⟩
    refine ⟨_, rfl, p2, rfl, ⟨_, SqT.of (e1 _ _ h2)⟩, fun D hD => ?_⟩
    refine dc_it (walk_tup (xs := us)) (tt := tYes) (fun i H' => Same H1 H' ∧ ∃ f, SD H' D i f ∧ (∀ x, x ∉ n.gw.take i → f x = none) ∧ ∀ g ∈ n.gates.take i, ∃ v, f g.w = some v ∧ Rep H' g.d v) ⟨(Same.refl H1).mut hD, _, SD.new, fun _ _ => rfl, fun g hg => by simp at hg⟩ (fun i H' _ h => SqT.of ((e1.trans h.1) _ _ h2)) ?_ ?_
    · rintro i x _ H2 hi ⟨e, f, sd, fn, fs⟩ ⟨rfl, hx⟩
      obtain ⟨g, hg, rg⟩ := ru.at hx
      obtain ⟨q, x1, x2, x3, rfl, hq, q1, q2, q3⟩ := rg.t3
      rw [q1.eStr] at hq
      have e02 := e1.trans e
      obtain ⟨kvs, h1, h2', h3⟩ := sd.put (by omega) g.w (.ref q)
      have hlen : kvs.length < sizeLine := by
        obtain ⟨kvs', z1, z2, _⟩ := sd.ex
        rw [h1] at z1
        cases z1
        exact sz5' (by omega)
      have tx : Tx H2 (upd H2 D (.dK (putK kvs (Sum.inr g.w) (.ref q)))) := (Tx.refl H2).mut h1 fun _ z => nomatch z
      refine ⟨rfl, _, rfl, q, _, _, _, rfl, rfl, SqT.of (e02 _ _ hq), rfl, _, rfl, kvs, Sum.inr g.w, rfl, h1, hlen, e.mut hD, _, h3, fun y hy => ?_, fun d hd => ?_⟩
      · rw [take_succ (gw_at hg)] at hy
        have hne : ¬ y = g.w := fun z => hy (List.mem_append_right _ (List.mem_singleton.mpr z))
        rw [if_neg hne]
        exact fn y fun m => hy (List.mem_append_left _ m)
      · rw [take_succ hg] at hd
        rcases List.mem_append.mp hd with z | z
        · have hne : ¬ d.w = g.w := fun q => nd_at hgnd (gw_at hg) (by
            rw [← q]
            unfold Net.gw
            rw [← List.map_take]
            exact List.mem_map_of_mem z)
          obtain ⟨v, a, b⟩ := fs d z
          exact ⟨v, by rw [if_neg hne]; exact a, b.tx tx⟩
        · rw [List.mem_singleton.mp z]
          exact ⟨_, if_pos rfl, (rg.ex e02).tx tx⟩
    rintro H2 ⟨e2, f, sd, fn, fs⟩
    rw [← lu] at sd fn fs
    rw [show n.gates.length = n.gw.length from (List.length_map ..).symm, List.take_length] at fn
    rw [List.take_length] at fs
    have gd : GDl H2 D n.gates := ⟨f, sd.mono (by omega), fn, fs⟩
    have e02 := e1.trans e2
    refine ⟨by decide, fun L hL => ?_⟩
    have e3 := Same.new hL (o := .lst [])
    refine ⟨_, rfl, n, _, rfl, rv.ex (e02.trans e3), hn, fun vo H3 o e4 ro ord => ?_⟩
    obtain ⟨po, rfl, hpo⟩ := ro.strs
    have hwo : ∀ x ∈ o, x ∈ n.gw := fun x hx => ord.perm.mem_iff.mp hx
    have hol : o.length = n.gates.length := by rw [ord.perm.length_eq]; exact List.length_map ..
    have gwd : ∀ x ∈ n.gw, x ∈ n.decl := fun x hx => List.mem_append_left _ (List.mem_append_right _ hx)
    have place : ∀ (H' : Hp) (x : S), Same H2 H' → x ∈ n.decl → DGet H' dp (.str x) (some (.int (n.decl.idxOf x : Nat))) := fun H' x e hx => by
      have := ((sdp.same e2).same e).get x
      rwa [plD_some hx] at this
    have e23 := e3.trans e4
    refine ⟨po, rfl, ⟨_, SqT.of hpo⟩, ?_⟩
    refine for_it (walk_tup (xs := o.map V.str)) (fun i σ H' => Same H2 H' ∧ (∀ a u, H3 a = some u → a ≠ L → H' a = some u) ∧ (∃ vs, H' L = some (.lst vs) ∧ RepL H' ((o.take i).map (moveD n)) vs) ∧ ∃ o7 o9, σ = [some (.ref p), some v1, some (.ref p2), some (.ref p3), some (.ref p4), some (.ref dp), some (.ref D), o7, some (.ref L), o9, none, none, none, none, none]) ⟨e23, fun _ _ h _ => h, ⟨[], e4 _ _ upd_same, .nil⟩, _, _, rfl⟩ (fun i σ H' _ h => SqT.of (h.2.1 _ _ hpo fun z => by rw [z, e4 _ _ upd_same] at hpo; cases hpo)) ?_ ?_
    · rintro i y σ _ H4 hi ⟨e5, ek, ⟨vs, hv, rvs⟩, o7, o9, rfl⟩ ⟨rfl, hy⟩
      obtain ⟨x, hx, rfl⟩ := strs_get hy
      rw [List.length_map] at hi
      have hxg := hwo x (List.mem_of_getElem? hx)
      obtain ⟨gm, gwx⟩ := gof_of hn.sd hxg
      obtain ⟨vg, hvg, rgg⟩ := (gd.same e5).some (show n.gate? x = some (n.gof x) by have := gate?_of hgnd gm; rwa [gwx] at this)
      obtain ⟨q, y1, y2, y3, rfl, hq, z1, z2, z3⟩ := rgg.t3
      rw [z2.eStr] at hq
      obtain ⟨q3, rfl, hq3⟩ := z3.strs
      have har : (n.gof x).args.length ≤ 3 := by rw [hn.sd.ar _ gm]; exact ar_le _
      have hlen := rvs.len
      rw [List.length_map, List.length_take] at hlen
      refine ⟨_, rfl, _, rfl, D, _, rfl, hvg, ?_⟩
      refine ⟨_, rfl, .inl ⟨rfl, _, SqL.of hv⟩, _, rfl, _, rfl, dp, _, rfl, place _ _ e5 (gwd x hxg), _, rfl, q, _, _, _, rfl, rfl, SqT.of hq, rfl, _, rfl, q, _, _, _, rfl, rfl, SqT.of hq, rfl, q3, rfl, ⟨_, SqT.of hq3⟩, fun M hM => ?_⟩
      refine lc_data (walk_tup (xs := (n.gof x).args.map V.str)) ((n.gof x).args.map (ixD n)) (by rw [List.length_map, List.length_map]) (by rw [List.length_map]; omega) hM (fun H5 e => SqT.of (e _ _ hq3)) ?_ ?_
      · rintro j z dd _ H5 Q' hj e ⟨rfl, hz⟩ hd q
        obtain ⟨a, ha, rfl⟩ := strs_get hz
        rw [List.getElem?_map, ha] at hd
        cases hd
        exact ⟨rfl, _, rfl, _, rfl, dp, _, rfl, place _ _ (e5.trans e) (hn.sd.args _ gm a (List.mem_of_getElem? ha)), q _ _ (Same.refl _) (.int _)⟩
      · intro H5 us' e6 hM5 ru'
        refine ⟨M, us', rfl, .inl ⟨SqL.of hM5, fun t ht => ⟨sz5 (by simp), fun t2 ht2 => ?_⟩⟩⟩
        have e7 := (e6.trans (Same.new ht (o := .tup us'))).trans (Same.new ht2 (o := .tup [.int (n.decl.idxOf x : Nat), .str (n.gof x).op.s, .ref t]))
        have hv7 := e7 _ _ hv
        have hLH2 : H2 L = none := hL
        refine ⟨L, _, _, rfl, rfl, hv7, sz5' (by omega), (e5.trans e7).mut hLH2, fun a u ha haL => ?_, ⟨_, upd_same, ?_⟩, _, _, rfl⟩
        · rw [upd_ne haL]
          exact e7 _ _ (ek a u ha haL)
        · have tx := (Tx.refl (upd (upd H5 t (.tup us')) t2 (.tup [.int (n.decl.idxOf x : Nat), .str (n.gof x).op.s, .ref t]))).mut (o := .lst (vs ++ [.ref t2])) hv7 fun _ z => nomatch z
          rw [take_succ hx, List.map_append]
          refine (((rvs.ex e7).snoc ?_)).tx tx
          exact .tup upd_same (.cons (.int _) (.cons (.str _) (.cons (.tup (Same.new ht2 _ _ upd_same) (ru'.ex ((Same.new ht).trans (Same.new ht2)))) .nil)))
    · rintro σ H4 ⟨e5, ek, ⟨vs, hv, rvs⟩, o7, o9, rfl⟩
      rw [List.length_map, List.take_length] at rvs
      have lvs := rvs.len
      rw [List.length_map] at lvs
      have e04 := e02.trans e5
      refine ⟨_, rfl, p3, rfl, ⟨_, SqT.of (e04 _ _ h3)⟩, fun M hM => ?_⟩
      refine lc_data (walk_tup (xs := rs)) (n.regs.map fun r => ixD n r.src) (by rw [List.length_map]; exact lr) (by omega) hM (fun H5 e => SqT.of ((e04.trans e) _ _ h3)) ?_ ?_
      · rintro j z dd _ H5 Q' hj e ⟨rfl, hz⟩ hd qk
        obtain ⟨r, hr', rrg⟩ := rr.at hz
        obtain ⟨q, x1, x2, x3, rfl, hq, q1, q2, q3⟩ := rrg.t3
        rw [q3.eStr] at hq
        rw [List.getElem?_map, hr'] at hd
        cases hd
        exact ⟨rfl, _, rfl, _, rfl, q, _, _, _, rfl, rfl, SqT.of ((e04.trans e) _ _ hq), rfl, dp, _, rfl, place _ _ (e5.trans e) (hn.sd.src r (List.mem_of_getElem? hr')), qk _ _ (Same.refl _) (.int _)⟩
      · intro H5 us' e6 hM5 ru'
        refine ⟨M, us', rfl, .inl ⟨SqL.of hM5, fun t ht => ?_⟩⟩
        have e7 := e6.trans (Same.new ht (o := .tup us'))
        have rs7 : Rep (upd H5 t (.tup us')) (.tup (n.regs.map fun r => ixD n r.src)) (.ref t) := .tup upd_same (ru'.ex (Same.new ht))
        have e07 := e04.trans e7
        refine ⟨_, rfl, p4, rfl, ⟨_, SqT.of (e07 _ _ h4)⟩, fun M2 hM2 => ?_⟩
        refine lc_data (walk_tup (xs := n.outs.map V.str)) (n.outs.map (ixD n)) (by rw [List.length_map, List.length_map]) (by rw [List.length_map]; omega) hM2 (fun H5 e => SqT.of ((e07.trans e) _ _ h4)) ?_ ?_
        · rintro j z dd _ H6 Q' hj e ⟨rfl, hz⟩ hd qk
          obtain ⟨a, ha, rfl⟩ := strs_get hz
          rw [List.getElem?_map, ha] at hd
          cases hd
          exact ⟨rfl, _, rfl, _, rfl, dp, _, rfl, place _ _ ((e5.trans e7).trans e) (hn.sd.outs a (List.mem_of_getElem? ha)), qk _ _ (Same.refl _) (.int _)⟩
        · intro H6 us2 e8 hM6 ru2
          refine ⟨M2, us2, rfl, .inl ⟨SqL.of hM6, fun t2 ht2 => ?_⟩⟩
          have e9 := e8.trans (Same.new ht2 (o := .tup us2))
          have ro9 : Rep (upd H6 t2 (.tup us2)) (.tup (n.outs.map (ixD n))) (.ref t2) := .tup upd_same (ru2.ex (Same.new ht2))
          have e49 := e7.trans e9
          refine ⟨_, rfl, p2, _, rfl, .inr (SqT.of ((e04.trans e49) _ _ h2)), _, rfl, L, vs, rfl, .inl ⟨SqL.of (e49 _ _ hv), fun t3 ht3 => ⟨_, rfl, _, rfl, sz5 (by simp), fun t4 ht4 => ?_⟩⟩⟩
          have e10 := (Same.new ht3 (o := .tup vs)).trans (Same.new ht4 (o := .tup [.int (us.length : Nat), .ref t3, .ref t, .ref t2]))
          refine k _ _ o ((e04.trans e49).trans e10) ord ?_
          rw [← lu] at *
          exact .tup upd_same (.cons (.int _) (.cons (.tup (Same.new ht4 _ _ upd_same) (rvs.ex (e49.trans e10))) (.cons ((rs7.ex e9).ex e10) (.cons (ro9.ex e10) .nil))))
theorem sc_op_value_1 : FnScope ["op", "bits"] ["op", "bits"] (defScope (top 92)) :=
  ⟨rfl, rfl, rfl, by decide +kernel, rfl, by decide +kernel, by decide +kernel⟩
def spOpA : Sp := fun vs H Q _ => ∃ (o : Op) (l : Addr) (as : List Bool), vs = [.str o.s, .ref l] ∧ H l = some (.lst (as.map bitV)) ∧ as.length = o.ar ∧ Q (bitV (o.ev as)) H
theorem bit_and (a b : Bool) : Builtin.bitAnd (b2i a) (b2i b) = b2i (a && b) := by cases a <;> cases b <;> decide +kernel
theorem bit_or (a b : Bool) : Builtin.bitOr (b2i a) (b2i b) = b2i (a || b) := by cases a <;> cases b <;> decide +kernel
theorem bit_xor (a b : Bool) : Builtin.bitXor (b2i a) (b2i b) = b2i (a != b) := by cases a <;> cases b <;> decide +kernel
theorem cal_op_value_aid_play (F : Df K mg "op_value_aid_play" "op_value" 92) : Cal P w K mg base CX0 1 "op_value_aid_play" ["op", "bits"] spOpA := by
  refine F.cal sc_op_value_1 (fun vs H Q E h => ?_) (fun _ _ _ _ _ _ us hl => match us, hl with | [_, _], _ => rfl) (fun f cdv A outer s H vs Q E hr h => ?_)
  · obtain ⟨_, _, _, rfl, _⟩ := h
    rfl
  · obtain ⟨o, l, as, rfl, hl, hlen, k⟩ := h
    refine ⟨_, (pss_cons (ps_if (pt_cmpR op_eq (pv 0) pe_str (nomark _))
        (pss_one (ps_ret (pe_op op_and (pe_ix (r := rIxL K) ix_list (pv 1) pe_int (fun _ _ => rfl)) (pe_ix (r := rIxL K) ix_list (pv 1) pe_int (fun _ _ => rfl)))))
        pss_nil)
      (pss_cons (ps_if (pt_cmpR op_eq (pv 0) pe_str (nomark _))
        (pss_one (ps_ret (pe_op op_or (pe_ix (r := rIxL K) ix_list (pv 1) pe_int (fun _ _ => rfl)) (pe_ix (r := rIxL K) ix_list (pv 1) pe_int (fun _ _ => rfl)))))
        pss_nil)
      (pss_cons (ps_if (pt_cmpR op_eq (pv 0) pe_str (nomark _))
        (pss_one (ps_ret (pe_op op_xor (pe_ix (r := rIxL K) ix_list (pv 1) pe_int (fun _ _ => rfl)) (pe_ix (r := rIxL K) ix_list (pv 1) pe_int (fun _ _ => rfl)))))
        pss_nil)
      (pss_cons (ps_if (pt_cmpR op_eq (pv 0) pe_str (nomark _))
        (pss_one (ps_ret (pe_op op_sub pe_int (pe_ix (r := rIxL K) ix_list (pv 1) pe_int (fun _ _ => rfl)))))
        pss_nil)
      (pss_cons (ps_if (pt_cmpR op_eq (pv 0) pe_str (nomark _))
        (pss_one (ps_ret (pe_ix (r := rIxL K) ix_list (pv 1) pe_int (fun _ _ => rfl))))
        pss_nil)
      (pss_cons (ps_if (pt_cmpR op_eq (pv 0) pe_str (nomark _))
        (pss_one (ps_ret (pe_ifExp (pt_cmpR op_eq (pe_ix (r := rIxL K) ix_list (pv 1) pe_int (fun _ _ => rfl)) pe_int (nomark _)) (pe_ix (r := rIxL K) ix_list (pv 1) pe_int (fun _ _ => rfl)) (pe_ix (r := rIxL K) ix_list (pv 1) pe_int (fun _ _ => rfl)))))
        pss_nil)
      (pss_cons (ps_if (pt_cmpR op_eq (pv 0) pe_str (nomark _))
        (pss_one (ps_ret pe_int))
        pss_nil)
      (pss_one (ps_ret pe_int))))))))), ?_⟩
    have ix : ∀ (j : Nat) (z : Bool) (σ : L2.St) (Q : VK), σ[1]? = some (some (V.ref l)) → as[j]? = some z → Q (.int (b2i z)) H → tOp (rIxL K) (tVar 1) (tC (.int (j : Int))) σ H Q := fun j z σ Q hs hz q =>
      ⟨_, hs, l, _, _, _, rfl, rfl, SqL.of hl, atI_nat (by rw [List.getElem?_map, hz]; rfl), q⟩
    cases o with
    | zero => exact ⟨_, rfl, rfl, _, rfl, ifF (opS_eq .zero .and) ⟨_, rfl, rfl, _, rfl, ifF (opS_eq .zero .or) ⟨_, rfl, rfl, _, rfl, ifF (opS_eq .zero .xor) ⟨_, rfl, rfl, _, rfl, ifF (opS_eq .zero .not) ⟨_, rfl, rfl, _, rfl, ifF (opS_eq .zero .buf) ⟨_, rfl, rfl, _, rfl, ifF (opS_eq .zero .mux) ⟨_, rfl, rfl, _, rfl, ifF (opS_eq .zero .one) k⟩⟩⟩⟩⟩⟩⟩
    | one => exact ⟨_, rfl, rfl, _, rfl, ifF (opS_eq .one .and) ⟨_, rfl, rfl, _, rfl, ifF (opS_eq .one .or) ⟨_, rfl, rfl, _, rfl, ifF (opS_eq .one .xor) ⟨_, rfl, rfl, _, rfl, ifF (opS_eq .one .not) ⟨_, rfl, rfl, _, rfl, ifF (opS_eq .one .buf) ⟨_, rfl, rfl, _, rfl, ifF (opS_eq .one .mux) ⟨_, rfl, rfl, _, rfl, ifT (opS_eq .one .one) k⟩⟩⟩⟩⟩⟩⟩
    | buf =>
      match as, hlen, ix, k with
      | [a], _, ix, k => exact ⟨_, rfl, rfl, _, rfl, ifF (opS_eq .buf .and) ⟨_, rfl, rfl, _, rfl, ifF (opS_eq .buf .or) ⟨_, rfl, rfl, _, rfl, ifF (opS_eq .buf .xor) ⟨_, rfl, rfl, _, rfl, ifF (opS_eq .buf .not) ⟨_, rfl, rfl, _, rfl, ifT (opS_eq .buf .buf) (ix 0 a _ _ rfl rfl k)⟩⟩⟩⟩⟩
    | not =>
      match as, hlen, ix, k with
      | [a], _, ix, k => exact ⟨_, rfl, rfl, _, rfl, ifF (opS_eq .not .and) ⟨_, rfl, rfl, _, rfl, ifF (opS_eq .not .or) ⟨_, rfl, rfl, _, rfl, ifF (opS_eq .not .xor) ⟨_, rfl, rfl, _, rfl, ifT (opS_eq .not .not) (ix 0 a _ _ rfl rfl ⟨_, _, rfl, rfl, by cases a <;> exact k⟩)⟩⟩⟩⟩
    | and =>
      match as, hlen, ix, k with
      | [a, b], _, ix, k => exact ⟨_, rfl, rfl, _, rfl, ifT (opS_eq .and .and) (ix 0 a _ _ rfl rfl (ix 1 b _ _ rfl rfl ⟨_, _, rfl, rfl, by show Q (.int (Builtin.bitAnd (b2i a) (b2i b))) H; rw [bit_and]; exact k⟩))⟩
    | or =>
      match as, hlen, ix, k with
      | [a, b], _, ix, k => exact ⟨_, rfl, rfl, _, rfl, ifF (opS_eq .or .and) ⟨_, rfl, rfl, _, rfl, ifT (opS_eq .or .or) (ix 0 a _ _ rfl rfl (ix 1 b _ _ rfl rfl ⟨_, _, rfl, rfl, by show Q (.int (Builtin.bitOr (b2i a) (b2i b))) H; rw [bit_or]; exact k⟩))⟩⟩
    | xor =>
      match as, hlen, ix, k with
      | [a, b], _, ix, k => exact ⟨_, rfl, rfl, _, rfl, ifF (opS_eq .xor .and) ⟨_, rfl, rfl, _, rfl, ifF (opS_eq .xor .or) ⟨_, rfl, rfl, _, rfl, ifT (opS_eq .xor .xor) (ix 0 a _ _ rfl rfl (ix 1 b _ _ rfl rfl ⟨_, _, rfl, rfl, by show Q (.int (Builtin.bitXor (b2i a) (b2i b))) H; rw [bit_xor]; exact k⟩))⟩⟩⟩
    | mux =>
      match as, hlen, ix, k with
      | [a, b, c], _, ix, k =>
        refine ⟨_, rfl, rfl, _, rfl, ifF (opS_eq .mux .and) ⟨_, rfl, rfl, _, rfl, ifF (opS_eq .mux .or) ⟨_, rfl, rfl, _, rfl, ifF (opS_eq .mux .xor) ⟨_, rfl, rfl, _, rfl, ifF (opS_eq .mux .not) ⟨_, rfl, rfl, _, rfl, ifF (opS_eq .mux .buf) ⟨_, rfl, rfl, _, rfl, ifT (opS_eq .mux .mux) (ix 0 a _ _ rfl rfl ⟨rfl, _, rfl, ?_⟩)⟩⟩⟩⟩⟩⟩
        cases a
        · exact ifT rfl (ix 1 b _ _ rfl rfl k)
        · exact ifF rfl (ix 2 c _ _ rfl rfl k)
end
end Wi
set_option maxHeartbeats 4000000
set_option maxRecDepth 100000
namespace Wi
open PySem L2 PySem.Spec PyProof.Rows
/-- what a wire's value is when the wires of o are done -/
def Net.part (n : Net) (ρ : S → Bool) (o : List S) : S → Bool := fun x => if x ∈ n.gw ∧ x ∉ o then false else ρ x
theorem part_start {n : Net} (hs : Sound n) {row st : List Bool} {ρ : S → Bool} (g : Good n row st ρ) : row.map bitV ++ (List.replicate n.gates.length [V.int 0]).flatten ++ st.map bitV = n.decl.map fun x => bitV (n.part ρ [] x) := by
  obtain ⟨_, h1, h2⟩ := g
  rw [← h1, ← h2]
  unfold Net.decl
  rw [List.map_append, List.map_append, List.map_map, List.map_map]
  congr 1
  · congr 1
    · refine List.map_congr_left fun x hx => ?_
      show bitV (ρ x) = bitV (n.part ρ [] x)
      unfold Net.part
      rw [if_neg fun z => hs.ig hx z.1]
    · unfold Net.gw
      rw [List.map_map]
      have : ∀ l : List Gate, (∀ g ∈ l, g ∈ n.gates) → (List.replicate l.length [V.int 0]).flatten = l.map ((fun x => bitV (n.part ρ [] x)) ∘ fun g => g.w) := by
        intro l
        induction l with
        | nil => intro _; rfl
        | cons g l ih =>
          intro hl
          rw [List.length_cons, List.replicate_succ, List.flatten_cons, ih fun d hd => hl d (List.mem_cons_of_mem _ hd), List.map_cons]
          have : n.part ρ [] g.w = false := if_pos ⟨List.mem_map_of_mem (hl g (List.mem_cons_self ..)), List.not_mem_nil⟩
          show [V.int 0] ++ _ = bitV (n.part ρ [] g.w) :: _
          rw [this]; rfl
      exact this n.gates fun _ h => h
  · refine List.map_congr_left fun x hx => ?_
    show bitV (ρ x) = bitV (n.part ρ [] x)
    unfold Net.part
    rw [if_neg fun z => hs.gr z.1 hx]
section
variable {P : Program} {w : World} {K : PySem.W.Frag} {mg : Str → Option Value} {base : Heap}
theorem sc_plan_values : FnScope ["plan", "row", "state", "values", "place", "op", "args", "arg"] ["plan", "row", "state"] (defScope (top 94)) :=
  ⟨rfl, rfl, rfl, by decide +kernel, rfl, by decide +kernel, by decide +kernel⟩
def spPV : Sp := fun vs H Q _ => ∃ (vp vr vt : V) (n : Net) (o : List S) (row st : List Bool) (ρ : S → Bool), vs = [vp, vr, vt] ∧ Rep H (planD n o) vp ∧ Rep H (bitsD row) vr ∧ Rep H (bitsD st) vt ∧ NOk n ∧ IsOrder n o ∧ Good n row st ρ ∧ ∀ v H', Same H H' → Rep H' (valsD n ρ) v → Q v H'
theorem cal_plan_values (F : Df K mg "plan_values" "plan_values" 94) (B : Bl mg) (C_op_value_aid_play : Cal P w K mg base CX0 1 "op_value_aid_play" ["op", "bits"] spOpA) : Cal P w K mg base CX0 2 "plan_values" ["plan", "row", "state"] spPV := by
  refine F.cal sc_plan_values (fun vs H Q E h => ?_) (fun _ _ _ _ _ _ us hl => match us, hl with | [_, _, _], _ => rfl) (fun f cdv A outer s H vs Q E hr h => ?_)
  · obtain ⟨_, _, _, _, _, _, _, _, rfl, _⟩ := h
    rfl
  · obtain ⟨vp, vr, vt, n, o, row, st, ρ, rfl, rp, rr, rt, hn, ord, hg, k⟩ := h
    refine ⟨_, (pss_cons (ps_set (i := 3) sc_plan_values.nd rfl (Or.inr rfl) (pe_op op_cat (pe_op op_cat (pe_callTy call_list_of rfl B.list (by decide +kernel) (pa_cons (pv 1) pa_nil)) (pe_op op_rep (pe_lst (pa_cons pe_int pa_nil)) (pe_ix (r := rIxT K) ix_tup (pv 0) pe_int (fun _ _ => rfl)))) (pe_callTy call_list_of rfl B.list (by decide +kernel) (pa_cons (pv 2) pa_nil))))
      (pss_cons (ps_for PassesOwn.never rfl (pi_tup (pe_ix (r := rIxT K) ix_tup (pv 0) pe_int (fun _ _ => rfl))) (pg_tup rfl (pgs_cons (pg_name (i := 4) sc_plan_values.nd rfl (Or.inl rfl)) (pgs_cons (pg_name (i := 5) sc_plan_values.nd rfl (Or.inl rfl)) (pgs_cons (pg_name (i := 6) sc_plan_values.nd rfl (Or.inl rfl)) pgs_nil))))
        (pss_one (ps_asg (pe_callC C_op_value_aid_play (hr.mono (by decide)) rfl pass0 (pa_cons (pv 5) (pa_cons (pe_lc (own := [("arg", 7)]) rfl sc_plan_values.nd (pi_tup (pv 6)) (blkOk_by (N := ["plan", "row", "state", "values", "place", "op", "args", "arg"]) (sc := defScope (top 94)) (own := [("arg", 7)]) (by decide +kernel)) (fun _ _ _ _ _ => (pg_name (i := 7) sc_plan_values.nd rfl (Or.inl rfl))) (fun _ _ _ _ _ => pts_nil) (fun _ _ _ _ _ => (pe_ix (r := rIxL K) ix_list (pv 3) (pv 7) (fun _ _ => rfl)))) pa_nil))) (pg_sub (pv 3) (pv 4) set_list))))
      (pss_one (ps_ret (pe_callTy call_tuple_of rfl B.tuple (by decide +kernel) (pa_cons (pv 3) pa_nil)))))), ?_⟩
    obtain ⟨p, x0, x1, x2, x3, rfl, hp, q0, q1, q2, q3⟩ := rp.t4
    rw [q0.eInt] at hp
    obtain ⟨p1, us, rfl, hp1, ru⟩ := q1.eTup
    have lu := ru.len
    rw [List.length_map] at lu
    obtain ⟨pr, rfl, hpr⟩ := rr.bits
    obtain ⟨pt, rfl, hpt⟩ := rt.bits
    have hgz := hn.gsz
    have hz := hn.sz
    have hrl : row.length = n.ins.length := by rw [← hg.2.1, List.length_map]
    have htl : st.length = n.regs.length := by rw [← hg.2.2, List.length_map]; exact List.length_map ..
    have hdl : n.decl.length = n.ins.length + n.gates.length + n.regs.length := by unfold Net.decl Net.gw Net.rw; simp; omega
    have hfl : (List.replicate (n.gates.length : Nat) [V.int 0]).flatten.length = n.gates.length := by simp
    refine ⟨_, rfl, pr, _, rfl, .inr (SqT.of hpr), fun l1 hl1 => ⟨sz5 (by simp), fun l2 hl2 => ?_⟩⟩
    have e1 := Same.new (H := H) hl1 (o := .lst (row.map bitV))
    have e2 := Same.new hl2 (o := .lst [V.int 0])
    refine ⟨_, rfl, p, _, _, _, rfl, rfl, SqT.of ((e1.trans e2) _ _ hp), rfl, l2, _, _, rfl, rfl, upd_same, by omega, by omega, sz5 (by simp; omega), fun l3 hl3 => ?_⟩
    have e3 := Same.new hl3 (o := .lst (List.replicate ((n.gates.length : Nat) : Int).toNat [V.int 0]).flatten)
    refine ⟨l1, l3, _, _, rfl, rfl, (e2.trans e3) _ _ upd_same, upd_same, sz5 (by simp; omega), fun l4 hl4 => ?_⟩
    have e4 := Same.new hl4 (o := .lst (row.map bitV ++ (List.replicate ((n.gates.length : Nat) : Int).toNat [V.int 0]).flatten))
    have e04 := (e1.trans e2).trans (e3.trans e4)
    refine ⟨_, rfl, pt, _, rfl, .inr (SqT.of (e04 _ _ hpt)), fun l5 hl5 => ?_⟩
    have e5 := Same.new hl5 (o := .lst (st.map bitV))
    refine ⟨l4, l5, _, _, rfl, rfl, e5 _ _ upd_same, upd_same, sz5 (by simp; omega), fun L hL => ?_⟩
    rw [show row.map bitV ++ (List.replicate ((n.gates.length : Nat) : Int).toNat [V.int 0]).flatten ++ st.map bitV = n.decl.map fun x => bitV (n.part ρ [] x) from part_start hn.sd hg]
    have e05 := e04.trans e5
    have hL0 : H L = none := by
      cases h : H L with
      | none => rfl
      | some o => rw [e05 _ _ h] at hL; cases hL
    have e06 := e05.trans (Same.new hL (o := .lst (n.decl.map fun x => bitV (n.part ρ [] x))))
    refine ⟨_, rfl, p, _, _, _, rfl, rfl, SqT.of (e06 _ _ hp), rfl, p1, rfl, ⟨_, SqT.of (e06 _ _ hp1)⟩, ?_⟩
    refine for_it (walk_tup (xs := us)) (fun i σ H' => Same H H' ∧ H' L = some (.lst (n.decl.map fun x => bitV (n.part ρ (o.take i) x))) ∧ ∃ o4 o5 o6, σ = [some (.ref p), some (.ref pr), some (.ref pt), some (.ref L), o4, o5, o6, none]) ⟨e06, by rw [upd_same]; rfl, _, _, _, rfl⟩ (fun i σ H' _ h => SqT.of (h.1 _ _ hp1)) ?_ ?_
    · rintro i y σ _ H1 hi ⟨e1, hv, o4, o5, o6, rfl⟩ ⟨rfl, hy⟩
      obtain ⟨x, hx, rx⟩ := ru.at hy
      have hxg : x ∈ n.gw := ord.perm.mem_iff.mp (List.mem_of_getElem? hx)
      obtain ⟨gm, gwx⟩ := gof_of hn.sd hxg
      obtain ⟨q, y1, y2, y3, rfl, hq, z1, z2, z3⟩ := rx.t3
      rw [z1.eInt, z2.eStr] at hq
      obtain ⟨qa, as, rfl, hqa, ra⟩ := z3.eTup
      have la := ra.len
      have har : (n.gof x).args.length ≤ 3 := by rw [hn.sd.ar _ gm]; exact ar_le _
      rw [List.length_map] at la
      refine ⟨q, _, rfl, SqT.of (e1 _ _ hq), rfl, _, _, rfl, _, _, rfl, _, _, rfl, rfl, ?_⟩
      refine ⟨_, rfl, _, rfl, qa, rfl, ⟨_, SqT.of (e1 _ _ hqa)⟩, fun M hM => ?_⟩
      have hML : M ≠ L := fun z => by rw [z, hv] at hM; cases hM
      have pv_ : ∀ a ∈ (n.gof x).args, n.part ρ (o.take i) a = ρ a := fun a ha => by
        unfold Net.part
        refine if_neg fun z => z.2 (ord.topo i x hx _ gm gwx a ha z.1)
      refine lc_data (walk_tup (xs := as)) (((n.gof x).args.map ρ).map bitD) (by rw [List.length_map, List.length_map]; exact la) (by omega) hM (fun H2 e => SqT.of ((e1.trans e) _ _ hqa)) ?_ ?_
      · rintro j z dd _ H2 Q' hj e ⟨rfl, hz⟩ hd qk
        obtain ⟨a, ha, ra'⟩ := ra.at hz
        have ham := List.mem_of_getElem? ha
        rw [List.getElem?_map, List.getElem?_map, ha] at hd
        cases hd
        rw [ra'.eInt]
        refine ⟨rfl, _, rfl, _, rfl, L, _, _, _, rfl, rfl, SqL.of (e _ _ hv), atI_nat (j := n.decl.idxOf a) ?_, qk _ _ (Same.refl _) (.int _)⟩
        rw [List.getElem?_map, idx_at (hn.sd.args _ gm a ham), Option.map_some, pv_ a ham]
        rfl
      · intro H2 us' e2 hM2 ru'
        rw [RepL.bits ru'] at hM2
        have hv2 := e2 _ _ hv
        refine ⟨(n.gof x).op, M, (n.gof x).args.map ρ, rfl, hM2, by rw [List.length_map]; exact hn.sd.ar _ gm, _, rfl, _, rfl, L, _, _, n.decl.idxOf x, rfl, rfl, hv2, ixN_nat ?_, (e1.trans e2).mut hL0, ?_, _, _, _, rfl⟩
        · rw [List.length_map]
          exact List.idxOf_lt_length_of_mem (List.mem_append_left _ (List.mem_append_right _ hxg))
        · rw [upd_same, map_set hn.sd.nd (List.mem_append_left _ (List.mem_append_right _ hxg))]
          congr 2
          refine List.map_congr_left fun y hy => ?_
          have hval : (n.gof x).op.ev ((n.gof x).args.map ρ) = ρ x := by
            have := hg.1 _ gm
            rw [gwx] at this
            exact this.symm
          by_cases c : y = x
          · rw [if_pos c, hval, c]
            unfold Net.part
            rw [if_neg fun z => z.2 (by rw [take_succ hx]; exact List.mem_append_right _ (List.mem_singleton.mpr rfl))]
          · rw [if_neg c]
            unfold Net.part
            congr 1
            have : (y ∈ n.gw ∧ y ∉ o.take i) ↔ (y ∈ n.gw ∧ y ∉ o.take (i + 1)) := by
              rw [mem_take_succ hx]
              simp [c]
            by_cases d : y ∈ n.gw ∧ y ∉ o.take i
            · rw [if_pos d, if_pos (this.mp d)]
            · rw [if_neg d, if_neg fun z => d (this.mpr z)]
    · rintro σ H1 ⟨e1, hv, o4, o5, o6, rfl⟩
      rw [← lu, List.take_length] at hv
      refine ⟨_, rfl, L, _, rfl, .inl ⟨SqL.of hv, fun t ht => k _ _ (e1.trans (Same.new ht)) ?_⟩⟩
      have : (n.decl.map fun x => bitV (n.part ρ o x)) = (n.decl.map ρ).map bitV := by
        rw [List.map_map]
        refine List.map_congr_left fun x hx => ?_
        show bitV (n.part ρ o x) = bitV (ρ x)
        unfold Net.part
        rw [if_neg fun z => z.2 (ord.perm.mem_iff.mpr z.1)]
      rw [this]
      exact Rep.ofBits upd_same
theorem sc_Run___init__ : FnScope ["self", "places", "rows", "values", "states"] ["self", "places", "rows", "values", "states"] (defScope (ctop 98 0)) :=
  ⟨rfl, rfl, rfl, by decide +kernel, rfl, by decide +kernel, by decide +kernel⟩
def spInit (C : Addr) : Sp := fun vs H Q _ => ∃ (x dx : Addr) (a b c d : V), vs = [.ref x, a, b, c, d] ∧ H x = some (.ins C dx []) ∧ ∀ H', (∀ y, y ≠ x → H' y = H y) → H' x = some (.ins C dx [("rows", b), ("own_places", a), ("own_values", c), ("own_states", d)]) → Q .non H'
theorem fn_Run {C f : Addr} {fd : FuncData} (R : RunC K mg C) (F : FunD K "__init__" "Run.__init__" (defArgs (ctop 98 0)) (defBody (ctop 98 0)) (defScope (ctop 98 0)) [] [] f fd) : FnOk P w K mg base CX0 1 f fd ["self", "places", "rows", "values", "states"] (spInit C) := by
  refine F.ok sc_Run___init__ (fun vs H Q E h => ?_) (fun cdv A outer s H vs Q E hr h => ?_)
  · obtain ⟨_, _, _, _, _, _, rfl, _⟩ := h
    rfl
  · obtain ⟨x, dx, a, b, c, d, rfl, hx, k⟩ := h
    refine ⟨_, PSs.nox ((pss_cons (ps_fld (pv 0) (pv 2) rfl)
      (pss_cons (ps_fld (pv 0) (pv 1) rfl)
      (pss_cons (ps_fld (pv 0) (pv 3) rfl)
      (pss_one (ps_fld (pv 0) (pv 4) rfl)))))), ?_⟩
    refine ⟨_, rfl, _, rfl, x, C, dx, _, rfl, hx, R.cl, R.a1, (by show 0 < 1000; decide), _, rfl, _, rfl, x, C, dx, _, rfl, upd_same, R.cl, R.a2, (by show 1 < 1000; decide), _, rfl, _, rfl, x, C, dx, _, rfl, upd_same, R.cl, R.a3, (by show 2 < 1000; decide), _, rfl, _, rfl, x, C, dx, _, rfl, upd_same, R.cl, R.a4, (by show 3 < 1000; decide), k _ (fun y hy => ?_) ?_⟩
    · rw [upd_ne hy, upd_ne hy, upd_ne hy, upd_ne hy]
    · rw [upd_same]; rfl
theorem sc_run : FnScope ["net", "stimulus", "state", "now", "plan", "rows", "all_values", "states", "row", "values"] ["net", "stimulus", "state"] (defScope (top 99)) :=
  ⟨rfl, rfl, rfl, by decide +kernel, rfl, by decide +kernel, by decide +kernel⟩
theorem rep_bits_notN {H : Hp} {bs : List Bool} {v : V} (h : Rep H (bitsD bs) v) : decide (v = V.non) = false := by
  obtain ⟨a, rfl, _⟩ := h.bits
  rfl
theorem rep_bits_notN' {H : Hp} {bs : List Bool} {v : V} (h : Rep H (bitsD bs) v) : decide (v = V.non) = false := rep_bits_notN h
/-- the state that is asked for: None is the first -/
def stOf (H : Hp) (n : Net) (v : V) (st : List Bool) : Prop := (v = .non ∧ st = n.regs.map (·.fi)) ∨ Rep H (bitsD st) v
def spRun (C : Addr) : Sp := fun vs H Q _ => ∃ (vn vr vt : V) (n : Net) (rows : List (List Bool)) (st : List Bool), vs = [vn, vr, vt] ∧ Rep H n.d vn ∧ NOk n ∧ Rep H (rowsD rows) vr ∧ (∀ r ∈ rows, r.length = n.ins.length) ∧ rows.length ≤ 300 ∧ stOf H n vt st ∧ st.length = n.regs.length ∧
  ∀ x H' dx fs os v, Same H H' → H' x = some (.ins C dx fs) → fs.lookup ("rows" : Str) = some v → Rep H' (rowsD os) v → RunR n st rows os → Q (.ref x) H'
theorem cal_run {C : Addr} (F : DfK K mg "run" "run" 99 [("state", .non)]) (R_Run : RunC K mg C) (B : Bl mg) (G : GC K w mg) (C_check_sound : Cal P w K mg base CX0 7 "check_sound" ["net"] (spNet rNon)) (C_check_ticks : Cal P w K mg base CX0 2 "check_ticks" ["rows", "count", "most"] spTicks) (C_check_row : Cal P w K mg base CX0 1 "check_row" ["row", "count"] spRow)
    (C_first_state : Cal P w K mg base CX0 1 "first_state" ["net"] (spNetR rFirst)) (C_play_plan : Cal P w K mg base CX0 8 "play_plan" ["net"] (spNetR rPlan)) (C_plan_values : Cal P w K mg base CX0 2 "plan_values" ["plan", "row", "state"] spPV) (C_picked : Cal P w K mg base CX0 1 "picked" ["values", "places"] spPicked) (C_places_of : Cal P w K mg base CX0 7 "places_of" ["net"] (spNetR rPlaces)) :
    CalF P w K mg base CX0 9 "run" "run" 99 [("state", .non)] ["net", "stimulus", "state"] (spRun C) := by
  refine F.cal sc_run (fun vs H Q E h => ?_) (fun f cdv A outer s H vs Q E hr h => ?_)
  · obtain ⟨_, _, _, _, _, _, rfl, _⟩ := h
    rfl
  · obtain ⟨vn, vr, vt, n, rows, st, rfl, rv, hn, rr, hrl, hrz, hst, hstl, k⟩ := h
    obtain ⟨fI, fdI, M_Run, FI⟩ := R_Run.ini
    have F_Run : FnOk P w K mg base CX0 1 fI fdI ["self", "places", "rows", "values", "states"] (spInit C) := fn_Run R_Run FI
    have b_Run : Binds K fdI ["self", "places", "rows", "values", "states"] [] := FI.bindsN (fun _ _ _ _ _ _ us hl => match us, hl with | [_, _, _, _, _], _ => rfl)
    refine ⟨_, (pss_cons (ps_expr (pe_callC C_check_sound (hr.mono (by decide)) rfl pass0 (pa_cons (pv 0) pa_nil)))
      (pss_cons (ps_expr (pe_callC C_check_ticks (hr.mono (by decide)) rfl pass0 (pa_cons (pv 1) (pa_cons (pe_callB call_len_seq rfl B.len PySem.boot_len (pa_cons (pe_ix (r := rIxT K) ix_tup (pv 0) pe_int (fun _ _ => rfl)) pa_nil)) (pa_cons (pe_globI rfl G.MOST_TICKS) pa_nil)))))
      (pss_cons (ps_if (pt_cmpR op_notN (pv 2) pe_non (nomark _))
        (pss_one (ps_expr (pe_callC C_check_row (hr.mono (by decide)) rfl pass0 (pa_cons (pv 2) (pa_cons (pe_callB call_len_seq rfl B.len PySem.boot_len (pa_cons (pe_ix (r := rIxT K) ix_tup (pv 0) pe_int (fun _ _ => rfl)) pa_nil)) pa_nil)))))
        pss_nil)
      (pss_cons (ps_set (i := 3) sc_run.nd rfl (Or.inl rfl) (pe_ifExp (pt_cmpR op_isN (pv 2) pe_non (nomark _)) (pe_callC C_first_state (hr.mono (by decide)) rfl pass0 (pa_cons (pv 0) pa_nil)) (pv 2)))
      (pss_cons (ps_set (i := 4) sc_run.nd rfl (Or.inl rfl) (pe_callC C_play_plan (hr.mono (by decide)) rfl pass0 (pa_cons (pv 0) pa_nil)))
      (pss_cons (ps_set (i := 5) sc_run.nd rfl (Or.inl rfl) (pe_lst pa_nil))
      (pss_cons (ps_set (i := 6) sc_run.nd rfl (Or.inl rfl) (pe_lst pa_nil))
      (pss_cons (ps_set (i := 7) sc_run.nd rfl (Or.inl rfl) (pe_lst (pa_cons (pv 3) pa_nil)))
      (pss_cons (ps_for PassesOwn.never rfl (pi_tup (pv 1)) (pg_name (i := 8) sc_run.nd rfl (Or.inl rfl))
        (pss_cons (ps_set (i := 9) sc_run.nd rfl (Or.inl rfl) (pe_callC C_plan_values (hr.mono (by decide)) rfl pass0 (pa_cons (pv 4) (pa_cons (pv 8) (pa_cons (pv 3) pa_nil)))))
        (pss_cons (ps_set (i := 3) sc_run.nd rfl (Or.inl rfl) (pe_callC C_picked (hr.mono (by decide)) rfl pass0 (pa_cons (pv 9) (pa_cons (pe_ix (r := rIxT K) ix_tup (pv 4) pe_int (fun _ _ => rfl)) pa_nil))))
        (pss_cons (ps_expr (pe_bm PySem.F.plainAttrs_list PySem.F.slot_list_append PySem.F.type_list_append mt_append (pv 5) (pa_cons (pe_callC C_picked (hr.mono (by decide)) rfl pass0 (pa_cons (pv 9) (pa_cons (pe_ix (r := rIxT K) ix_tup (pv 4) pe_int (fun _ _ => rfl)) pa_nil))) pa_nil)))
        (pss_cons (ps_expr (pe_bm PySem.F.plainAttrs_list PySem.F.slot_list_append PySem.F.type_list_append mt_append (pv 6) (pa_cons (pv 9) pa_nil)))
        (pss_one (ps_expr (pe_bm PySem.F.plainAttrs_list PySem.F.slot_list_append PySem.F.type_list_append mt_append (pv 7) (pa_cons (pv 3) pa_nil)))))))))
      (pss_one (ps_ret (pe_make M_Run F_Run (hr.mono (by decide)) rfl R_Run.gl b_Run .nil pass0 (pa_cons (pe_callC C_places_of (hr.mono (by decide)) rfl pass0 (pa_cons (pv 0) pa_nil)) (pa_cons (pe_callTy call_tuple_of rfl B.tuple (by decide +kernel) (pa_cons (pv 5) pa_nil)) (pa_cons (pe_callTy call_tuple_of rfl B.tuple (by decide +kernel) (pa_cons (pv 6) pa_nil)) (pa_cons (pe_callTy call_tuple_of rfl B.tuple (by decide +kernel) (pa_cons (pv 7) pa_nil)) pa_nil)))))))))))))))), ?_⟩
    obtain ⟨p, v1, v2, v3, v4, rfl, hp, r1, r2, r3, r4⟩ := rv.t4
    obtain ⟨p1, rfl, h1⟩ := r1.strs
    obtain ⟨p3, rs, rfl, h3, rrg⟩ := r3.eTup
    obtain ⟨pr, us, rfl, hpr, ru⟩ := rr.eTup
    have lu := ru.len
    have lr := rrg.len
    rw [List.length_map] at lu lr
    have hdn := hn.sz
    refine ⟨_, rfl, n, _, rfl, rv, hn, fun H1 e1 => ?_⟩
    refine ⟨_, rfl, _, rfl, p, _, _, _, rfl, rfl, SqT.of (e1 _ _ hp), rfl, p1, _, rfl, .inr (SqT.of (e1 _ _ h1)), _, rows, n.ins.length, 300, by rw [List.length_map]; rfl, rr.ex e1, hrl, hrz, fun H2 e2 => ?_⟩
    have e02 := e1.trans e2
    have mid : ∃ H3, True := ⟨H, trivial⟩
    -- what stands behind the first state
    have key : ∀ (vnow : V) (H3 : Hp), Same H H3 → Rep H3 (bitsD st) vnow → tSeq (tAsg (tCall (spNetR rPlan) [] E0 (tCons (tVar 0) tNil)) (gName 4)) (tSeq (tAsg (tLst tNil) (gName 5)) (tSeq (tAsg (tLst tNil) (gName 6)) (tSeq (tAsg (tLst (tCons (tVar 3) tNil)) (gName 7)) (tSeq
        (tFor (iTup K (tVar 1)) (gName 8) (tSeq (tAsg (tCall spPV [] E0 (tCons (tVar 4) (tCons (tVar 8) (tCons (tVar 3) tNil)))) (gName 9)) (tSeq (tAsg (tCall spPicked [] E0 (tCons (tVar 9) (tCons (tOp (rIxT K) (tVar 4) (tC (.int 2))) tNil))) (gName 3))
          (tSeq (tDrop (tBM K "list" rAppend (tVar 5) (tCons (tCall spPicked [] E0 (tCons (tVar 9) (tCons (tOp (rIxT K) (tVar 4) (tC (.int 3))) tNil))) tNil))) (tSeq (tDrop (tBM K "list" rAppend (tVar 6) (tCons (tVar 9) tNil))) (tDrop (tBM K "list" rAppend (tVar 7) (tCons (tVar 3) tNil))))))))
        (tRet (tMake C (spInit C) [] E0 (tCons (tCall (spNetR rPlaces) [] E0 (tCons (tVar 0) tNil)) (tCons (tCB (fun xs H Q => ∃ p ys, xs = [V.ref p] ∧ ((SqL K H p ys ∧ ∀ l, H l = none → Q (V.ref l) (upd H l (.tup ys))) ∨ (SqT K H p ys ∧ Q (.ref p) H))) (tCons (tVar 5) tNil)) (tCons (tCB (fun xs H Q => ∃ p ys, xs = [V.ref p] ∧ ((SqL K H p ys ∧ ∀ l, H l = none → Q (V.ref l) (upd H l (.tup ys))) ∨ (SqT K H p ys ∧ Q (.ref p) H))) (tCons (tVar 6) tNil)) (tCons (tCB (fun xs H Q => ∃ p ys, xs = [V.ref p] ∧ ((SqL K H p ys ∧ ∀ l, H l = none → Q (V.ref l) (upd H l (.tup ys))) ∨ (SqT K H p ys ∧ Q (.ref p) H))) (tCons (tVar 7) tNil)) tNil)))))))))) { nx := fun _ H' => Q .non H', rt := Q } [some (.ref p), some (.ref pr), some vt, some vnow, none, none, none, none, none, none] H3 := by
      intro vnow H3 e3 rnow
      refine ⟨_, rfl, n, _, rfl, rv.ex e3, hn, fun vp H4 o e4 ord rp => ?_⟩
      refine ⟨by decide, fun A1 hA1 => ⟨by decide, fun A2 hA2 => ⟨_, rfl, sz5 (by simp), fun A3 hA3 => ?_⟩⟩⟩
      have f1 := Same.new hA1 (o := .lst [])
      have f2 := Same.new hA2 (o := .lst [])
      have f3 := Same.new hA3 (o := .lst [vnow])
      have e34 := e3.trans e4
      have nH : ∀ {a : Addr} {H' : Hp}, Same H H' → H' a = none → H a = none := fun {a H'} e h => by
        cases q : H a with
        | none => rfl
        | some o => rw [e _ _ q] at h; cases h
      have hA1H := nH e34 hA1
      have hA2H := nH (e34.trans f1) hA2
      have hA3H := nH ((e34.trans f1).trans f2) hA3
      have hA14 : H4 A1 = none := hA1
      have hA24 : H4 A2 = none := by
        cases q : H4 A2 with
        | none => rfl
        | some o => rw [f1 _ _ q] at hA2; cases hA2
      have hA34 : H4 A3 = none := by
        cases q : H4 A3 with
        | none => rfl
        | some o => rw [(f1.trans f2) _ _ q] at hA3; cases hA3
      have n12 : A2 ≠ A1 := fun z => by rw [z, upd_same] at hA2; cases hA2
      have n13 : A3 ≠ A1 := fun z => by rw [z, f2 _ _ upd_same] at hA3; cases hA3
      have n23 : A3 ≠ A2 := fun z => by rw [z, upd_same] at hA3; cases hA3
      refine ⟨_, rfl, pr, rfl, ⟨_, SqT.of ((e34.trans (f1.trans (f2.trans f3))) _ _ hpr)⟩, ?_⟩
      refine for_it (walk_tup (xs := us)) (fun i σ H' => Same H4 H' ∧ (∃ (sti : List Bool) (osi : List (List Bool)) (vs1 vs2 vs3 : List V) (vnow : V) (o8 o9 : Option V), σ = [some (.ref p), some (.ref pr), some vt, some vnow, some vp, some (.ref A1), some (.ref A2), some (.ref A3), o8, o9] ∧ sti.length = n.regs.length ∧ Rep H' (bitsD sti) vnow ∧
          H' A1 = some (.lst vs1) ∧ H' A2 = some (.lst vs2) ∧ H' A3 = some (.lst vs3) ∧ osi.length = i ∧ vs2.length = i ∧ vs3.length = i + 1 ∧ RepL H' (osi.map bitsD) vs1 ∧ ∀ os', RunR n sti (rows.drop i) os' → RunR n st rows (osi ++ os'))) ⟨f1.trans (f2.trans f3), st, [], [], [], [vnow], vnow, _, _, rfl, hstl, (rnow.ex (e4.trans (f1.trans (f2.trans f3)))), (f2.trans f3) _ _ upd_same, f3 _ _ upd_same, upd_same, rfl, rfl, rfl, .nil, fun os' h => h⟩ (fun i σ H' _ h => SqT.of ((e34.trans h.1) _ _ hpr)) ?_ ?_
      · rintro i y σ _ H5 hi ⟨e5, sti, osi, vs1, vs2, vs3, vnow, o8, o9, rfl, hsl, rno, ha1, ha2, ha3, l1, l2, l3, rl, hrun⟩ ⟨rfl, hy⟩
        obtain ⟨row, hrow, rrow⟩ := ru.at hy
        have hrm := List.mem_of_getElem? hrow
        obtain ⟨ρ, hgood⟩ := good_exists hn.sd (hrl row hrm) hsl
        have e05 := e34.trans e5
        refine ⟨_, rfl, _, rfl, _, rfl, vp, y, vnow, n, o, row, sti, ρ, rfl, rp.ex e5, rrow.ex e05, rno, hn, ord, hgood, fun vv H6 e6 rvv => ?_⟩
        obtain ⟨pp, w0, w1, w2, w3, rfl, hpp, z0, z1, z2, z3⟩ := (rp.ex (e5.trans e6)).t4
        have srcs : Rep H6 (.tup ((n.regs.map (·.src)).map (ixD n))) w2 := by rw [List.map_map]; exact z2
        refine ⟨_, rfl, _, rfl, pp, _, _, _, rfl, rfl, SqT.of hpp, rfl, vv, w2, n, ρ, n.regs.map (·.src), rfl, rvv, srcs, (fun x hx => by obtain ⟨r, hr, rfl⟩ := List.mem_map.mp hx; exact hn.sd.src r hr), by rw [List.length_map]; exact hn.rsz, fun vn2 H7 e7 rn2 => ?_⟩
        have hA17 : H7 A1 = some (.lst vs1) := (e6.trans e7) _ _ ha1
        refine ⟨_, rfl, .inl ⟨rfl, _, SqL.of hA17⟩, _, rfl, _, rfl, pp, _, _, _, rfl, rfl, SqT.of (e7 _ _ hpp), rfl, vv, w3, n, ρ, n.outs, rfl, rvv.ex e7, z3.ex e7, hn.sd.outs, hn.osz, fun vo H8 e8 ro => ?_⟩
        have e58 := e6.trans (e7.trans e8)
        have hl1 := rl.len
        rw [List.length_map, l1] at hl1
        refine ⟨A1, vs1, vo, rfl, rfl, e58 _ _ ha1, sz5' (by omega), ?_⟩
        have t1 := (Tx.refl H8).mut (o := .lst (vs1 ++ [vo])) (e58 _ _ ha1) fun _ z => nomatch z
        have hb2 : upd H8 A1 (.lst (vs1 ++ [vo])) A2 = some (.lst vs2) := by rw [upd_ne n12]; exact e58 _ _ ha2
        refine ⟨_, rfl, .inl ⟨rfl, _, SqL.of hb2⟩, _, rfl, A2, vs2, vv, rfl, rfl, hb2, sz5' (by omega), ?_⟩
        have t2 := (Tx.refl (upd H8 A1 (.lst (vs1 ++ [vo])))).mut (o := .lst (vs2 ++ [vv])) hb2 fun _ z => nomatch z
        have hb3 : upd (upd H8 A1 (.lst (vs1 ++ [vo]))) A2 (.lst (vs2 ++ [vv])) A3 = some (.lst vs3) := by rw [upd_ne n23, upd_ne n13]; exact e58 _ _ ha3
        refine ⟨_, rfl, .inl ⟨rfl, _, SqL.of hb3⟩, _, rfl, A3, vs3, vn2, rfl, rfl, hb3, sz5' (by omega), ?_⟩
        have t3 := (Tx.refl (upd (upd H8 A1 (.lst (vs1 ++ [vo]))) A2 (.lst (vs2 ++ [vv])))).mut (o := .lst (vs3 ++ [vn2])) hb3 fun _ z => nomatch z
        have tx := t1.trans (t2.trans t3)
        refine ⟨(((e5.trans e58).mut hA14).mut hA24).mut hA34, (n.regs.map (·.src)).map ρ, osi ++ [n.outs.map ρ], vs1 ++ [vo], vs2 ++ [vv], vs3 ++ [vn2], vn2, _, _, rfl, by rw [List.length_map, List.length_map], ((rn2.ex e8).tx tx), ?_, ?_, upd_same, by simp [l1], by simp [l2], by simp [l3], ?_, fun os' h => ?_⟩
        · rw [upd_ne (Ne.symm n13), upd_ne (Ne.symm n12), upd_same]
        · rw [upd_ne (Ne.symm n23), upd_same]
        · rw [List.map_append]
          exact ((rl.ex e58).snoc ro).tx tx
        · have dr : rows.drop i = row :: rows.drop (i + 1) := by
            obtain ⟨hj', e⟩ := List.getElem?_eq_some_iff.mp hrow
            rw [← e]; exact List.drop_eq_getElem_cons hj'
          have := hrun (n.outs.map ρ :: os') (by rw [dr]; exact ⟨ρ, os', hgood, rfl, by rw [List.map_map] at h; exact h⟩)
          rw [List.append_assoc]
          exact this
      · rintro σ H5 ⟨e5, sti, osi, vs1, vs2, vs3, vnow, o8, o9, rfl, hsl, rno, ha1, ha2, ha3, l1, l2, l3, rl, hrun⟩
        rw [← lu, List.drop_length] at hrun
        have hR := hrun [] rfl
        rw [List.append_nil] at hR
        refine ⟨_, rfl, n, _, rfl, rv.ex (e34.trans e5), hn, fun dp H6 e6 _ => ?_⟩
        refine ⟨_, rfl, A1, vs1, rfl, .inl ⟨SqL.of (e6 _ _ ha1), fun t1 ht1 => ?_⟩⟩
        have g1 := Same.new ht1 (o := .tup vs1)
        refine ⟨_, rfl, A2, vs2, rfl, .inl ⟨SqL.of ((e6.trans g1) _ _ ha2), fun t2 ht2 => ?_⟩⟩
        have g2 := Same.new ht2 (o := .tup vs2)
        refine ⟨_, rfl, A3, vs3, rfl, .inl ⟨SqL.of ((e6.trans (g1.trans g2)) _ _ ha3), fun t3 ht3 => ?_⟩⟩
        have g3 := Same.new ht3 (o := .tup vs3)
        intro x dx hx hdx hne
        have g4 := (Same.new hdx (o := .own x)).trans (Same.new (H := upd (upd (upd (upd H6 t1 (.tup vs1)) t2 (.tup vs2)) t3 (.tup vs3)) dx (.own x)) (p := x) (o := .ins C dx []) (by rw [upd_ne (Ne.symm hne)]; exact hx))
        refine ⟨x, dx, _, _, _, _, rfl, upd_same, fun H' hsame hx' => ⟨rfl, ?_⟩⟩
        have e56 := e6.trans (g1.trans (g2.trans g3))
        have e57 : Same (upd (upd (upd H6 t1 (.tup vs1)) t2 (.tup vs2)) t3 (.tup vs3)) H' := fun a u ha => by
          have hax : a ≠ x := ne_of_none ha hx
          rw [hsame a hax]
          exact g4 _ _ ha
        refine k x H' dx _ osi (.ref t1) ((e34.trans e5).trans (e56.trans e57)) hx' rfl ?_ hR
        exact .tup (((g2.trans g3).trans e57) _ _ upd_same) (rl.ex (e56.trans e57))
    refine ⟨_, rfl, rfl, _, rfl, ?_⟩
    rcases hst with ⟨rfl, rfl⟩ | rst
    · refine ifF rfl ⟨_, rfl, rfl, _, rfl, ifT rfl ⟨_, rfl, n, _, rfl, rv.ex e02, hn, fun vnow H3 e3 rno => key vnow H3 (e02.trans e3) rno⟩⟩
    · rw [rep_bits_notN rst]
      refine ifT rfl ⟨_, rfl, _, rfl, p, _, _, _, rfl, rfl, SqT.of (e02 _ _ hp), rfl, p3, _, rfl, .inr (SqT.of (e02 _ _ h3)), vt, st, by rw [← lr, ← hstl]; rfl, rst.ex e02, fun H3 e3 => ⟨_, rfl, rfl, _, rfl, ?_⟩⟩
      rw [rep_bits_notN' rst]
      exact ifF rfl ⟨_, rfl, key vt H3 (e02.trans e3) (rst.ex (e02.trans e3))⟩
end
end Wi
set_option maxHeartbeats 4000000
set_option maxRecDepth 100000
namespace Wi
open PySem L2 PySem.Spec PyProof.Rows
/-! ### the data of designs -/
def oD : Option S → D
  | none => .non
  | some x => .str x
def oV : Option S → V
  | none => .non
  | some x => .str x
theorem Rep.opt {H : Hp} {o : Option S} {v : V} (h : Rep H (oD o) v) : v = oV o := by
  cases o with
  | none => exact h.eNon
  | some x => exact h.eStr
theorem rep_opt {H : Hp} (o : Option S) : Rep H (oD o) (oV o) := by
  cases o with
  | none => exact .non
  | some x => exact .str x
abbrev gS : S := "gate"
abbrev rS : S := "reg"
abbrev uS : S := "use"
def Item.d : Item → D
  | .gate x o sg => .tup [.str gS, .str x, .str o.s, strsD sg]
  | .reg x fi sg wh cl => .tup [.str rS, .str x, .int (b2i fi), .str sg, oD wh, oD cl]
  | .use x md sg => .tup [.str uS, .str x, .str md, strsD sg]
def Mod.d (m : Mod) : D := .tup [.str m.nm, strsD m.ins, strsD m.outs, .tup (m.items.map Item.d)]
def desD (ds : List Mod) : D := .tup (ds.map Mod.d)
theorem kGG : decide (V.str gS = V.str gS) = true := by rw [eq_str]; decide +kernel
theorem kGR : decide (V.str gS = V.str rS) = false := by rw [eq_str]; decide +kernel
theorem kGU : decide (V.str gS = V.str uS) = false := by rw [eq_str]; decide +kernel
theorem kRG : decide (V.str rS = V.str gS) = false := by rw [eq_str]; decide +kernel
theorem kRR : decide (V.str rS = V.str rS) = true := by rw [eq_str]; decide +kernel
theorem kRU : decide (V.str rS = V.str uS) = false := by rw [eq_str]; decide +kernel
theorem kUG : decide (V.str uS = V.str gS) = false := by rw [eq_str]; decide +kernel
theorem kUR : decide (V.str uS = V.str rS) = false := by rw [eq_str]; decide +kernel
theorem kUU : decide (V.str uS = V.str uS) = true := by rw [eq_str]; decide +kernel
structure MSz (m : Mod) : Prop where
  ins : m.ins.length ≤ 10
  outs : m.outs.length ≤ 10
  items : m.items.length ≤ 10
/-- the modules by their names -/
structure MDl (H : Hp) (d : Addr) (ds : List Mod) : Prop where
  ex : ∃ f, SD H d 10 f ∧ (∀ x, modAt ds x = none → f x = none) ∧ ∀ x u, modAt ds x = some u → ∃ v, f x = some v ∧ Rep H u.d v
theorem MDl.same {H H' : Hp} {d : Addr} {ds : List Mod} (h : MDl H d ds) (e : Same H H') : MDl H' d ds := by
  obtain ⟨f, h1, h2, h3⟩ := h.ex
  exact ⟨f, h1.same e, h2, fun x u hu => let ⟨v, a, b⟩ := h3 x u hu; ⟨v, a, b.ex e⟩⟩
theorem MDl.getS {H : Hp} {d : Addr} {ds : List Mod} (h : MDl H d ds) {x : S} {u : Mod} (e : modAt ds x = some u) : ∃ v, DGet H d (.str x) (some v) ∧ Rep H u.d v := by
  obtain ⟨f, h1, h2, h3⟩ := h.ex
  obtain ⟨v, a, b⟩ := h3 x u e
  exact ⟨v, a ▸ h1.get x, b⟩
theorem MDl.getN {H : Hp} {d : Addr} {ds : List Mod} (h : MDl H d ds) {x : S} (e : modAt ds x = none) : DGet H d (.str x) none := by
  obtain ⟨f, h1, h2, h3⟩ := h.ex
  have := h1.get x
  rwa [h2 x e] at this
/-- a module is put in -/
theorem putMDl {H : Hp} {d : Addr} {ds : List Mod} (h : MDl H d ds) {n : Nat} (hn : ds.length ≤ 9) {m : Mod} {v : V} (hm : m.nm ∉ ds.map (·.nm)) (r : Rep H m.d v) (hk : ∃ f, SD H d ds.length f ∧ (∀ x, modAt ds x = none → f x = none) ∧ ∀ x u, modAt ds x = some u → ∃ v, f x = some v ∧ Rep H u.d v) :
    ∃ kvs, H d = some (.dK kvs) ∧ DPut H d (.str m.nm) v (upd H d (.dK (putK kvs (Sum.inr m.nm) v))) ∧ ∃ f, SD (upd H d (.dK (putK kvs (Sum.inr m.nm) v))) d (ds ++ [m]).length f ∧ (∀ x, modAt (ds ++ [m]) x = none → f x = none) ∧ ∀ x u, modAt (ds ++ [m]) x = some u → ∃ v', f x = some v' ∧ Rep (upd H d (.dK (putK kvs (Sum.inr m.nm) v))) u.d v' := by
  obtain ⟨f, h1, h2, h3⟩ := hk
  obtain ⟨kvs, a1, a2, a3⟩ := h1.put (by omega) m.nm v
  have tx : Tx H (upd H d (.dK (putK kvs (Sum.inr m.nm) v))) := (Tx.refl H).mut a1 fun _ z => nomatch z
  have hat : ∀ x, modAt (ds ++ [m]) x = (modAt ds x).or (if m.nm = x then some m else none) := fun x => by
    unfold modAt
    rw [List.find?_append]
    congr 1
    by_cases e : m.nm = x <;> simp [e]
  have hnone : modAt ds m.nm = none := by
    unfold modAt
    exact List.find?_eq_none.mpr fun u hu => by
      have : ¬ u.nm = m.nm := fun z => hm (z ▸ List.mem_map_of_mem hu)
      simp [this]
  refine ⟨kvs, a1, a2, _, by rw [List.length_append, List.length_singleton]; exact a3, fun x hx => ?_, fun x u hu => ?_⟩
  · rw [hat] at hx
    cases e : modAt ds x with
    | some u => rw [e] at hx; cases hx
    | none =>
      rw [e] at hx
      have : ¬ x = m.nm := fun z => by rw [if_pos z.symm] at hx; cases hx
      show (if x = m.nm then some v else f x) = none
      rw [if_neg this]
      exact h2 x e
  · rw [hat] at hu
    cases e : modAt ds x with
    | some w =>
      rw [e] at hu
      cases hu
      have : ¬ x = m.nm := fun z => by rw [z, hnone] at e; cases e
      obtain ⟨v', b1, b2⟩ := h3 x u e
      exact ⟨v', by show (if x = m.nm then some v else f x) = _; rw [if_neg this]; exact b1, b2.tx tx⟩
    | none =>
      rw [e] at hu
      by_cases q : m.nm = x
      · rw [if_pos q] at hu
        cases hu
        exact ⟨v, by show (if x = m.nm then some v else f x) = _; rw [if_pos q.symm], r.tx tx⟩
      · rw [if_neg q] at hu
        cases hu
/-- a module's tuple -/
theorem Rep.modT {H : Hp} {m : Mod} {v : V} (h : Rep H m.d v) : ∃ p p1 p2 p3 us, v = .ref p ∧ H p = some (.tup [.str m.nm, .ref p1, .ref p2, .ref p3]) ∧ H p1 = some (.tup (m.ins.map V.str)) ∧ H p2 = some (.tup (m.outs.map V.str)) ∧ H p3 = some (.tup us) ∧ RepL H (m.items.map Item.d) us ∧ us.length = m.items.length := by
  obtain ⟨p, x1, x2, x3, x4, rfl, hp, q1, q2, q3, q4⟩ := h.t4
  rw [q1.eStr] at hp
  obtain ⟨p1, rfl, h1⟩ := q2.strs
  obtain ⟨p2, rfl, h2⟩ := q3.strs
  obtain ⟨p3, us, rfl, h3, ru⟩ := q4.eTup
  have := ru.len
  rw [List.length_map] at this
  exact ⟨p, p1, p2, p3, us, rfl, hp, h1, h2, h3, ru, this.symm⟩
/-- an item's first two -/
def Item.ks : Item → S
  | .gate .. => gS
  | .reg .. => rS
  | .use .. => uS
theorem Rep.itemT {H : Hp} {i : Item} {v : V} (h : Rep H i.d v) : ∃ q a b r, v = .ref q ∧ H q = some (.tup (.str i.ks :: .str i.nm :: a :: b :: r)) := by
  cases i with
  | gate x o sg =>
    obtain ⟨p, x1, x2, x3, x4, rfl, hp, q1, q2, q3, q4⟩ := h.t4
    rw [q1.eStr, q2.eStr] at hp
    exact ⟨p, _, _, _, rfl, hp⟩
  | reg x fi sg wh cl =>
    obtain ⟨p, x1, x2, x3, x4, x5, x6, rfl, hp, q1, q2, q3, q4, q5, q6⟩ := h.t6
    rw [q1.eStr, q2.eStr] at hp
    exact ⟨p, _, _, _, rfl, hp⟩
  | use x md sg =>
    obtain ⟨p, x1, x2, x3, x4, rfl, hp, q1, q2, q3, q4⟩ := h.t4
    rw [q1.eStr, q2.eStr] at hp
    exact ⟨p, _, _, _, rfl, hp⟩
theorem ks_use (i : Item) : decide (V.str i.ks = V.str uS) = i.isUse := by
  cases i with
  | gate => exact kGU
  | reg => exact kRU
  | use => exact kUU
section
variable {P : Program} {w : World} {K : PySem.W.Frag} {mg : Str → Option Value} {base : Heap}
theorem sc_declared_names : FnScope ["module", "name", "inputs", "outputs", "items", "item"] ["module"] (defScope (top 26)) :=
  ⟨rfl, rfl, rfl, by decide +kernel, rfl, by decide +kernel, by decide +kernel⟩
def spDecN : Sp := fun vs H Q _ => ∃ (m : Mod) (v : V), vs = [v] ∧ Rep H m.d v ∧ MSz m ∧ ∀ v' H', Same H H' → Rep H' (strsD m.decl) v' → Q v' H'
theorem cal_declared_names (F : Df K mg "declared_names" "declared_names" 26) : Cal P w K mg base CX0 1 "declared_names" ["module"] spDecN := by
  refine F.cal sc_declared_names (fun vs H Q E h => ?_) (fun _ _ _ _ _ _ us hl => match us, hl with | [_], _ => rfl) (fun f cdv A outer s H vs Q E hr h => ?_)
  · obtain ⟨_, _, rfl, _⟩ := h
    rfl
  · obtain ⟨m, v, rfl, rv, hz, k⟩ := h
    refine ⟨_, (pss_cons (ps_asg (pv 0) (pg_tup rfl (pgs_cons (pg_name (i := 1) sc_declared_names.nd rfl (Or.inl rfl)) (pgs_cons (pg_name (i := 2) sc_declared_names.nd rfl (Or.inl rfl)) (pgs_cons (pg_name (i := 3) sc_declared_names.nd rfl (Or.inl rfl)) (pgs_cons (pg_name (i := 4) sc_declared_names.nd rfl (Or.inl rfl)) pgs_nil))))))
      (pss_one (ps_ret (pe_tup (StX.pa_star (pv 2) (StX.pa_star (pe_lc (own := [("item", 5)]) rfl sc_declared_names.nd (pi_tup (pv 4)) (blkOk_by (N := ["module", "name", "inputs", "outputs", "items", "item"]) (sc := defScope (top 26)) (own := [("item", 5)]) (by decide +kernel)) (fun _ _ _ _ _ => (pg_name (i := 5) sc_declared_names.nd rfl (Or.inl rfl))) (fun _ _ _ _ _ => pts_nil) (fun _ _ _ _ _ => (pe_ix (r := rIxT K) ix_tup (pv 5) pe_int (fun _ _ => rfl)))) pa_nil)))))), ?_⟩
    obtain ⟨p, p1, p2, p3, us, rfl, hp, h1, h2, h3, ru, lu⟩ := rv.modT
    have z1 := hz.ins
    have z3 := hz.items
    refine ⟨_, rfl, p, _, rfl, SqT.of hp, rfl, _, _, rfl, _, _, rfl, _, _, rfl, _, _, rfl, rfl, ?_⟩
    refine ⟨_, rfl, p1, _, rfl, .inl (SqT.of h1), ⟨_, rfl, p3, rfl, ⟨_, SqT.of h3⟩, fun L hL => ?_⟩⟩
    refine lc_data (walk_tup (xs := us)) ((m.items.map (·.nm)).map D.str) (by rw [List.length_map, List.length_map]; exact lu.symm) (by omega) hL (fun H1 e => SqT.of (e _ _ h3)) ?_ ?_
    · rintro i x d _ H1 Q' hi e ⟨rfl, hx⟩ hd qk
      obtain ⟨it, hit, rit⟩ := ru.at hx
      obtain ⟨q, a, b, r, rfl, hq⟩ := rit.itemT
      rw [List.getElem?_map, List.getElem?_map, hit] at hd
      cases hd
      exact ⟨rfl, _, rfl, q, _, _, _, rfl, rfl, SqT.of (e _ _ hq), atI_nat (j := 1) rfl, qk _ _ (Same.refl _) (.str _)⟩
    · intro H1 ws e1 hL1 rw_
      refine ⟨L, ws, rfl, .inr (SqL.of hL1), ?_⟩
      have rr : RepL H1 (m.decl.map D.str) (m.ins.map V.str ++ (ws ++ [])) := by
        unfold Mod.decl
        rw [List.append_nil, List.map_append]
        exact (repL_strs m.ins).app rw_
      exact mk_tup (Same.refl H1) rr (by rw [List.length_map]; unfold Mod.decl; rw [List.length_append, List.length_map]; omega) fun p' H' e' _ r' => k _ _ (e1.trans e') r'
theorem sc_names_fault : FnScope ["declared", "known", "name"] ["declared"] (defScope (top 27)) :=
  ⟨rfl, rfl, rfl, by decide +kernel, rfl, by decide +kernel, by decide +kernel⟩
def spNames : Sp := fun vs H Q _ => ∃ (l : List Str) (v : V), vs = [v] ∧ Rep H (strsD l) v ∧ l.length ≤ 300 ∧ l.Nodup ∧ (∀ x ∈ l, isName x = true) ∧ ∀ H', Same H H' → Q .non H'
theorem cal_names_fault (F : Df K mg "names_fault" "names_fault" 27) (C_is_name : Cal P w K mg base CX0 1 "is_name" ["text"] spIsName) : Cal P w K mg base CX0 2 "names_fault" ["declared"] spNames := by
  refine F.cal sc_names_fault (fun vs H Q E h => ?_) (fun _ _ _ _ _ _ us hl => match us, hl with | [_], _ => rfl) (fun f cdv A outer s H vs Q E hr h => ?_)
  · obtain ⟨n, x, rfl, _⟩ := h
    rfl
  · obtain ⟨l, v, rfl, rv, hz, nd, hw, k⟩ := h
    refine ⟨_, (pss_cons (ps_set (i := 1) sc_names_fault.nd rfl (Or.inl rfl) pe_dnewK)
      (pss_cons (ps_for PassesOwn.never rfl (pi_tup (pv 0)) (pg_name (i := 2) sc_names_fault.nd rfl (Or.inl rfl))
        (pss_cons (ps_if (pt_not (pt_val (pe_callC C_is_name (hr.mono (by decide)) rfl pass0 (pa_cons (pv 2) pa_nil))))
          pss_never
          pss_nil)
        (pss_cons (ps_if (pt_cmp (pc_din (hu_of hr) (pv 2) (pv 1)))
          pss_never
          pss_nil)
        (pss_one (ps_dput (hu_of hr) (pv 1) (pv 2) pe_bl rfl)))))
      (pss_one (ps_ret pe_non)))), ?_⟩
    obtain ⟨p, rfl, hp⟩ := rv.strs
    intro d hd
    refine ⟨_, rfl, p, rfl, ⟨_, SqT.of (Same.new hd _ _ hp)⟩, for_it (walk_tup (xs := l.map V.str)) (fun i σ H' => Same H H' ∧ SD H' d i (inD (l.take i)) ∧ ∃ o, σ = [some (.ref p), some (.ref d), o]) ⟨Same.new hd, SD.new.imp fun x => (inD_none (by simp)).symm, _, rfl⟩ (fun i σ H' _ h => SqT.of (h.1 _ _ hp)) ?_ ?_⟩
    · rintro i y σ _ H3 hi ⟨e, sd3, o, rfl⟩ ⟨rfl, hy⟩
      obtain ⟨x, hx, rfl⟩ := strs_get hy
      rw [List.length_map] at hi
      refine ⟨_, rfl, x, rfl, hw x (List.mem_of_getElem? hx), _, rfl, ifF rfl ?_⟩
      refine ⟨_, rfl, _, rfl, d, _, rfl, sd3.get x, _, rfl, ifF (by rw [inD_none (nd_at nd hx)]; rfl) ?_⟩
      obtain ⟨kvs, _, h2, h3⟩ := sd3.put (by omega) x (.bl true)
      refine ⟨_, rfl, _, rfl, d, _, rfl, h2, e.mut hd, h3.imp fun y => ?_, _, rfl⟩
      rw [take_succ hx]
      exact inD_snoc _ _ _
    · rintro σ H' ⟨e, _, o, rfl⟩
      exact k _ e
theorem sc_plain_signals : FnScope ["module", "name", "inputs", "outputs", "items", "found", "port", "item"] ["module"] (defScope (top 28)) :=
  ⟨rfl, rfl, rfl, by decide +kernel, rfl, by decide +kernel, by decide +kernel⟩
def spPlainS : Sp := fun vs H Q _ => ∃ (m : Mod) (v : V), vs = [v] ∧ Rep H m.d v ∧ MSz m ∧ ∀ d H', Same H H' → H d = none → SD H' d 20 (inD m.plain) → Q (.ref d) H'
theorem cal_plain_signals (F : Df K mg "plain_signals" "plain_signals" 28) : Cal P w K mg base CX0 1 "plain_signals" ["module"] spPlainS := by
  refine F.cal sc_plain_signals (fun vs H Q E h => ?_) (fun _ _ _ _ _ _ us hl => match us, hl with | [_], _ => rfl) (fun f cdv A outer s H vs Q E hr h => ?_)
  · obtain ⟨_, _, rfl, _⟩ := h
    rfl
  · obtain ⟨m, v, rfl, rv, hz, k⟩ := h
    refine ⟨_, (pss_cons (ps_asg (pv 0) (pg_tup rfl (pgs_cons (pg_name (i := 1) sc_plain_signals.nd rfl (Or.inl rfl)) (pgs_cons (pg_name (i := 2) sc_plain_signals.nd rfl (Or.inl rfl)) (pgs_cons (pg_name (i := 3) sc_plain_signals.nd rfl (Or.inl rfl)) (pgs_cons (pg_name (i := 4) sc_plain_signals.nd rfl (Or.inl rfl)) pgs_nil))))))
      (pss_cons (ps_setDc (i := 5) (own := [("port", 6)]) rfl sc_plain_signals.nd rfl rfl (sw_trueD rfl rfl rfl (by decide +kernel)) (pi_tup (pv 2)) (blkOk_by (N := ["module", "name", "inputs", "outputs", "items", "found", "port", "item"]) (sc := defScope (top 28)) (own := [("port", 6)]) (by decide +kernel)) (fun _ _ _ _ _ => (pg_name (i := 6) sc_plain_signals.nd rfl (Or.inl rfl))) (fun _ _ _ _ _ => pts_nil) (fun _ _ _ _ _ => (pv 6)) (fun _ _ _ _ _ => pe_bl))
      (pss_cons (ps_for PassesOwn.never rfl (pi_tup (pv 4)) (pg_name (i := 7) sc_plain_signals.nd rfl (Or.inl rfl))
        (pss_one (ps_if (pt_cmpR op_ne (pe_ix (r := rIxT K) ix_tup (pv 7) pe_int (fun _ _ => rfl)) pe_str (nomark _))
          (pss_one (ps_dput (hu_of hr) (pv 5) (pe_ix (r := rIxT K) ix_tup (pv 7) pe_int (fun _ _ => rfl)) pe_bl rfl))
          pss_nil)))
      (pss_one (ps_ret (pv 5)))))), ?_⟩
    obtain ⟨p, p1, p2, p3, us, rfl, hp, h1, h2, h3, ru, lu⟩ := rv.modT
    have z1 := hz.ins
    have z3 := hz.items
    refine ⟨_, rfl, p, _, rfl, SqT.of hp, rfl, _, _, rfl, _, _, rfl, _, _, rfl, _, _, rfl, rfl, ?_⟩
    refine ⟨_, rfl, p1, rfl, ⟨_, SqT.of h1⟩, fun d hd => ?_⟩
    refine dc_in (walk_tup (xs := m.ins.map V.str)) (by rw [List.length_map]) (by rw [List.length_map]; omega) hd (fun H3 e3 => SqT.of (e3 _ _ h1)) (fun i x H3 Q' _ q => ⟨rfl, _, rfl, q⟩) fun H1 e1 sd => ?_
    rw [List.length_map] at sd
    refine ⟨_, rfl, p3, rfl, ⟨_, SqT.of (e1 _ _ h3)⟩, ?_⟩
    refine for_it (walk_tup (xs := us)) (fun i σ H' => Same H H' ∧ SD H' d (m.ins.length + i) (inD (m.ins ++ ((m.items.take i).filter fun i => !i.isUse).map (·.nm))) ∧ ∃ o6 o7, σ = [some (.ref p), some (.str m.nm), some (.ref p1), some (.ref p2), some (.ref p3), some (.ref d), o6, o7]) ⟨e1, by simpa using sd, _, _, rfl⟩ (fun i σ H' _ h => SqT.of (h.1 _ _ h3)) ?_ ?_
    · rintro i y σ _ H2 hi ⟨e2, sd2, o6, o7, rfl⟩ ⟨rfl, hy⟩
      obtain ⟨it, hit, rit⟩ := ru.at hy
      obtain ⟨q, a, b, r, rfl, hq⟩ := rit.itemT
      refine ⟨_, rfl, q, _, _, _, rfl, rfl, SqT.of (e2 _ _ hq), atI_nat (j := 0) rfl, rfl, _, rfl, ?_⟩
      rw [ks_use]
      refine if2 (fun hu => ?_) fun hu => ?_
      · have hu' : it.isUse = false := by simpa using hu
        obtain ⟨kvs, a1, a2, a3⟩ := sd2.put (by omega) it.nm (.bl true)
        refine ⟨_, rfl, _, rfl, q, _, _, _, rfl, rfl, SqT.of (e2 _ _ hq), atI_nat (j := 1) rfl, d, _, rfl, a2, e2.mut hd, (a3.mono (by omega)).imp fun y => ?_, _, _, rfl⟩
        rw [take_succ hit, List.filter_append, List.map_append, ← List.append_assoc]
        simp only [List.filter_cons, hu', Bool.not_false, if_true, List.filter_nil, List.map_cons, List.map_nil]
        exact inD_snoc _ _ _
      · have hu' : it.isUse = true := by simpa using hu
        refine ⟨e2, (sd2.mono (by omega)).imp fun y => ?_, _, _, rfl⟩
        rw [take_succ hit, List.filter_append]
        simp [hu']
    · rintro σ H2 ⟨e2, sd2, o6, o7, rfl⟩
      rw [lu, List.take_length] at sd2
      exact ⟨_, rfl, k d _ e2 hd (sd2.mono (by omega))⟩
end
end Wi
set_option maxHeartbeats 4000000
set_option maxRecDepth 100000
namespace Wi
open PySem L2 PySem.Spec PyProof.Rows
/-- short names -/
structure MNm (m : Mod) : Prop where
  sz : MSz m
  it : ∀ i ∈ m.items, i.nm.length ≤ 100
  out : ∀ o ∈ m.outs, o.length ≤ 100
theorem itemUse {H : Hp} {x md : S} {sg : List S} {v : V} (h : Rep H (Item.d (.use x md sg)) v) : ∃ q qs, v = .ref q ∧ H q = some (.tup [.str uS, .str x, .str md, .ref qs]) ∧ H qs = some (.tup (sg.map V.str)) := by
  obtain ⟨p, x1, x2, x3, x4, rfl, hp, q1, q2, q3, q4⟩ := h.t4
  obtain ⟨qs, rfl, hqs⟩ := q4.strs
  rw [q1.eStr, q2.eStr, q3.eStr] at hp
  exact ⟨p, qs, rfl, hp, hqs⟩
theorem itemGate {H : Hp} {x : S} {o : Op} {sg : List S} {v : V} (h : Rep H (Item.d (.gate x o sg)) v) : ∃ q qs, v = .ref q ∧ H q = some (.tup [.str gS, .str x, .str o.s, .ref qs]) ∧ H qs = some (.tup (sg.map V.str)) := by
  obtain ⟨p, x1, x2, x3, x4, rfl, hp, q1, q2, q3, q4⟩ := h.t4
  obtain ⟨qs, rfl, hqs⟩ := q4.strs
  rw [q1.eStr, q2.eStr, q3.eStr] at hp
  exact ⟨p, qs, rfl, hp, hqs⟩
theorem itemReg {H : Hp} {x sg : S} {fi : Bool} {wh cl : Option S} {v : V} (h : Rep H (Item.d (.reg x fi sg wh cl)) v) : ∃ q, v = .ref q ∧ H q = some (.tup [.str rS, .str x, .int (b2i fi), .str sg, oV wh, oV cl]) := by
  obtain ⟨p, x1, x2, x3, x4, x5, x6, rfl, hp, q1, q2, q3, q4, q5, q6⟩ := h.t6
  rw [q1.eStr, q2.eStr, q3.eInt, q4.eStr, q5.opt, q6.opt] at hp
  exact ⟨p, rfl, hp⟩
theorem join3 (a b c : S) : PySem.Str.empty ++ a ++ b ++ c = a ++ b ++ c := by rw [S.nil_app]
theorem len_empty : PySem.Str.empty.length = 0 := rfl
section
variable {P : Program} {w : World} {K : PySem.W.Frag} {mg : Str → Option Value} {base : Heap}
theorem sc_all_signals : FnScope ["module", "earlier", "found", "item", "port"] ["module", "earlier"] (defScope (top 29)) :=
  ⟨rfl, rfl, rfl, by decide +kernel, rfl, by decide +kernel, by decide +kernel⟩
def spAll : Sp := fun vs H Q _ => ∃ (m : Mod) (v : V) (d : Addr) (ds : List Mod), vs = [v, .ref d] ∧ Rep H m.d v ∧ MNm m ∧ MDl H d ds ∧ (∀ u ∈ ds, MNm u) ∧ ∀ e H', Same H H' → SD H' e 120 (inD (m.sigs ds)) → Q (.ref e) H'
theorem cal_all_signals (F : Df K mg "all_signals" "all_signals" 29) (C_plain_signals : Cal P w K mg base CX0 1 "plain_signals" ["module"] spPlainS) : Cal P w K mg base CX0 2 "all_signals" ["module", "earlier"] spAll := by
  refine F.cal sc_all_signals (fun vs H Q E h => ?_) (fun _ _ _ _ _ _ us hl => match us, hl with | [_, _], _ => rfl) (fun f cdv A outer s H vs Q E hr h => ?_)
  · obtain ⟨_, _, _, _, rfl, _⟩ := h
    rfl
  · obtain ⟨m, v, d, ds, rfl, rv, hz, md, hds, k⟩ := h
    refine ⟨_, (pss_cons (ps_set (i := 2) sc_all_signals.nd rfl (Or.inl rfl) (pe_callC C_plain_signals (hr.mono (by decide)) rfl pass0 (pa_cons (pv 0) pa_nil)))
      (pss_cons (ps_for PassesOwn.never rfl (pi_tup (pe_ix (r := rIxT K) ix_tup (pv 0) pe_int (fun _ _ => rfl))) (pg_name (i := 3) sc_all_signals.nd rfl (Or.inl rfl))
        (pss_one (ps_if (PW.pt (pw_and (pt_cmpR op_eq (pe_ix (r := rIxT K) ix_tup (pv 3) pe_int (fun _ _ => rfl)) pe_str (nomark _)) (pw_and1 (pt_cmp (pc_din (hu_of hr) (pe_ix (r := rIxT K) ix_tup (pv 3) pe_int (fun _ _ => rfl)) (pv 1))))))
          (pss_one (ps_for PassesOwn.never rfl (pi_tup (pe_ix (r := rIxT K) ix_tup (pe_dget (hu_of hr) (pv 1) (pe_ix (r := rIxT K) ix_tup (pv 3) pe_int (fun _ _ => rfl)) (fun _ _ => rfl)) pe_int (fun _ _ => rfl))) (pg_name (i := 4) sc_all_signals.nd rfl (Or.inl rfl))
            (pss_one (ps_dput (hu_of hr) (pv 2) (pe_joined (.cons (pe_fmt (pe_ix (r := rIxT K) ix_tup (pv 3) pe_int (fun _ _ => rfl))) (.cons pe_str (.cons (pe_fmt (pv 4)) .nil)))) pe_bl rfl))))
          pss_nil)))
      (pss_one (ps_ret (pv 2))))), ?_⟩
    obtain ⟨p, p1, p2, p3, us, rfl, hp, h1, h2, h3, ru, lu⟩ := rv.modT
    have z1 := hz.sz.ins
    have z3 := hz.sz.items
    refine ⟨_, rfl, m, _, rfl, rv, hz.sz, fun e H1 e1 he sd => ?_⟩
    refine ⟨_, rfl, p, _, _, _, rfl, rfl, SqT.of (e1 _ _ hp), rfl, p3, rfl, ⟨_, SqT.of (e1 _ _ h3)⟩, ?_⟩
    refine for_it (walk_tup (xs := us)) (fun i σ H' => Same H H' ∧ SD H' e (20 + 10 * i) (inD (m.plain ++ (m.items.take i).flatMap (Item.ports ds))) ∧ ∃ o3 o4, σ = [some (.ref p), some (.ref d), some (.ref e), o3, o4]) ⟨e1, by simpa using sd, _, _, rfl⟩ (fun i σ H' _ h => SqT.of (h.1 _ _ h3)) ?_ ?_
    · rintro i y σ _ H2 hi ⟨e2, sd2, o3, o4, rfl⟩ ⟨rfl, hy⟩
      obtain ⟨it, hit, rit⟩ := ru.at hy
      have him := List.mem_of_getElem? hit
      obtain ⟨q, a, b, r, rfl, hq⟩ := rit.itemT
      refine ⟨_, rfl, q, _, _, _, rfl, rfl, SqT.of (e2 _ _ hq), atI_nat (j := 0) rfl, rfl, _, rfl, ?_⟩
      rw [ks_use]
      have stay : it.ports ds = [] → Same H H2 ∧ SD H2 e (20 + 10 * (i + 1)) (inD (m.plain ++ (m.items.take (i + 1)).flatMap (Item.ports ds))) ∧ ∃ o3' o4', ([some (.ref p), some (.ref d), some (.ref e), some (.ref q), o4] : L2.St) = [some (.ref p), some (.ref d), some (.ref e), o3', o4'] := fun h => by
        refine ⟨e2, (sd2.mono (by omega)).imp fun y => ?_, _, _, rfl⟩
        rw [take_succ hit, List.flatMap_append]
        simp [h]
      cases it with
      | gate x o sg => exact iteF (stay rfl)
      | reg x fi sg wh cl => exact iteF (stay rfl)
      | use x md' sg =>
        obtain ⟨q', qs, hqe, hq', hqs⟩ := itemUse rit
        cases hqe
        refine iteT ?_
        cases hmd : modAt ds md' with
        | none =>
          refine ⟨_, rfl, q, _, _, _, rfl, rfl, SqT.of (e2 _ _ hq'), rfl, _, rfl, d, _, rfl, (md.same e2).getN hmd, _, rfl, iteF (stay ?_)⟩
          show (match modAt ds md' with
            | some u => u.outs.map fun o => x ++ dotS ++ o
            | none => []) = []
          rw [hmd]
        | some u =>
          obtain ⟨vu, hvu, rvu⟩ := (md.same e2).getS hmd
          have hum := hds u (modAt_some hmd).1
          have uz := hum.sz.outs
          refine ⟨_, rfl, q, _, _, _, rfl, rfl, SqT.of (e2 _ _ hq'), rfl, _, rfl, d, _, rfl, hvu, _, rfl, iteT ?_⟩
          obtain ⟨pu, pu1, pu2, pu3, uus, rfl, hpu, hu1, hu2, hu3, ruu, luu⟩ := rvu.modT
          refine ⟨_, rfl, _, rfl, q, _, _, _, rfl, rfl, SqT.of (e2 _ _ hq'), rfl, d, _, rfl, hvu, pu, _, _, _, rfl, rfl, SqT.of hpu, rfl, pu2, rfl, ⟨_, SqT.of hu2⟩, ?_⟩
          have hpo : Item.ports ds (.use x md' sg) = u.outs.map fun o => x ++ dotS ++ o := by
            show (match modAt ds md' with
              | some u => u.outs.map fun o => x ++ dotS ++ o
              | none => []) = _
            rw [hmd]
          have hxl := hz.it _ him
          refine for_it (walk_tup (xs := u.outs.map V.str)) (fun j σ H' => Same H H' ∧ (∀ a o, H2 a = some o → a ≠ e → H' a = some o) ∧ SD H' e (20 + 10 * i + j) (inD (m.plain ++ (m.items.take i).flatMap (Item.ports ds) ++ (u.outs.take j).map fun o => x ++ dotS ++ o)) ∧ ∃ o4, σ = [some (.ref p), some (.ref d), some (.ref e), some (.ref q), o4]) ⟨e2, fun _ _ h _ => h, by simpa using sd2, _, rfl⟩ (fun j σ H' _ h => SqT.of (h.2.1 _ _ hu2 fun z => by obtain ⟨kv, hk⟩ := sd2.dict; rw [z, hk] at hu2; cases hu2)) ?_ ?_
          · rintro j y σ _ H3 hj ⟨e3, ek, sd3, o4, rfl⟩ ⟨rfl, hy⟩
            obtain ⟨z, hz', rfl⟩ := strs_get hy
            have hzl := hum.out z (List.mem_of_getElem? hz')
            rw [List.length_map] at hj
            obtain ⟨kvs, a1, a2, a3⟩ := sd3.put (by omega) (x ++ dotS ++ z) (.bl true)
            have hxl' : x.length ≤ 100 := hxl
            refine ⟨_, rfl, _, rfl, q, _, _, _, rfl, rfl, SqT.of (e3 _ _ hq'), rfl, .inl ⟨x, rfl, sz5 (by omega), x, rfl, sz5 (by rw [len_app]; have := len_empty; omega), dotS, rfl, sz5 (by rw [len_app, len_app, len_dot]; have := len_empty; omega), _, rfl, .inl ⟨z, rfl, sz5 (by omega), z, rfl, sz5 (by rw [len_app, len_app, len_app, len_dot]; have := len_empty; omega), ?_⟩⟩⟩
            rw [join3]
            refine ⟨e, _, rfl, a2, e3.mut he, fun a o ha hae => by rw [upd_ne hae]; exact ek a o ha hae, (a3.mono (by omega)).imp fun y => ?_, _, rfl⟩
            rw [take_succ hz', List.map_append, ← List.append_assoc]
            exact inD_snoc _ _ _
          · rintro σ H3 ⟨e3, ek, sd3, o4, rfl⟩
            rw [List.length_map, List.take_length] at sd3
            refine ⟨e3, (sd3.mono (by omega)).imp fun y => ?_, _, _, rfl⟩
            rw [take_succ hit, List.flatMap_append, ← List.append_assoc]
            simp only [List.flatMap_cons, List.flatMap_nil, List.append_nil]
            rw [hpo]
    · rintro σ H2 ⟨e2, sd2, o3, o4, rfl⟩
      rw [lu, List.take_length] at sd2
      exact ⟨_, rfl, k e _ e2 (sd2.mono (by omega))⟩
theorem sc_ports_fault : FnScope ["module", "plain", "listed", "port"] ["module"] (defScope (top 30)) :=
  ⟨rfl, rfl, rfl, by decide +kernel, rfl, by decide +kernel, by decide +kernel⟩
def spPorts : Sp := fun vs H Q _ => ∃ (m : Mod) (v : V), vs = [v] ∧ Rep H m.d v ∧ MSz m ∧ (∀ o ∈ m.outs, o ∈ m.plain) ∧ m.outs.Nodup ∧ ∀ H', Same H H' → Q .non H'
theorem cal_ports_fault (F : Df K mg "ports_fault" "ports_fault" 30) (C_plain_signals : Cal P w K mg base CX0 1 "plain_signals" ["module"] spPlainS) : Cal P w K mg base CX0 2 "ports_fault" ["module"] spPorts := by
  refine F.cal sc_ports_fault (fun vs H Q E h => ?_) (fun _ _ _ _ _ _ us hl => match us, hl with | [_], _ => rfl) (fun f cdv A outer s H vs Q E hr h => ?_)
  · obtain ⟨_, _, rfl, _⟩ := h
    rfl
  · obtain ⟨m, v, rfl, rv, hz, ok, nd, k⟩ := h
    refine ⟨_, (pss_cons (ps_set (i := 1) sc_ports_fault.nd rfl (Or.inl rfl) (pe_callC C_plain_signals (hr.mono (by decide)) rfl pass0 (pa_cons (pv 0) pa_nil)))
      (pss_cons (ps_set (i := 2) sc_ports_fault.nd rfl (Or.inl rfl) pe_dnewK)
      (pss_cons (ps_for PassesOwn.never rfl (pi_tup (pe_ix (r := rIxT K) ix_tup (pv 0) pe_int (fun _ _ => rfl))) (pg_name (i := 3) sc_ports_fault.nd rfl (Or.inl rfl))
        (pss_cons (ps_if (pt_cmp (pc_din (hu_of hr) (pv 3) (pv 2)))
          pss_never
          pss_nil)
        (pss_cons (ps_if (pt_cmp (pc_dnotin (hu_of hr) (pv 3) (pv 1)))
          pss_never
          pss_nil)
        (pss_one (ps_dput (hu_of hr) (pv 2) (pv 3) pe_bl rfl)))))
      (pss_one (ps_ret pe_non))))), ?_⟩
    obtain ⟨p, p1, p2, p3, us, rfl, hp, h1, h2, h3, ru, lu⟩ := rv.modT
    have z2 := hz.outs
    refine ⟨_, rfl, m, _, rfl, rv, hz, fun pl H1 e1 _ sdp => ?_⟩
    intro e he
    have he0 : H e = none := by
      cases q : H e with
      | none => rfl
      | some o => rw [e1 _ _ q] at he; cases he
    have e2 := e1.trans (Same.new he (o := .dK []))
    refine ⟨_, rfl, p, _, _, _, rfl, rfl, SqT.of (e2 _ _ hp), rfl, p2, rfl, ⟨_, SqT.of (e2 _ _ h2)⟩, ?_⟩
    have hpe : pl ≠ e := fun z => by obtain ⟨kv, hk⟩ := sdp.dict; rw [z, he] at hk; cases hk
    refine for_it (walk_tup (xs := m.outs.map V.str)) (fun i σ H' => Same H H' ∧ SD H' pl 20 (inD m.plain) ∧ SD H' e i (inD (m.outs.take i)) ∧ ∃ o', σ = [some (.ref p), some (.ref pl), some (.ref e), o']) ⟨e2, sdp.same (Same.new he), SD.new.imp fun x => (inD_none (by simp)).symm, _, rfl⟩ (fun i σ H' _ h => SqT.of (h.1 _ _ h2)) ?_ ?_
    · rintro i y σ _ H2 hi ⟨e3, sdq, sd1, o', rfl⟩ ⟨rfl, hy⟩
      obtain ⟨x, hx, rfl⟩ := strs_get hy
      rw [List.length_map] at hi
      refine ⟨_, rfl, _, rfl, e, _, rfl, sd1.get x, _, rfl, ifF (by rw [inD_none (nd_at nd hx)]; rfl) ?_⟩
      refine ⟨_, rfl, _, rfl, pl, _, rfl, sdq.get x, _, rfl, ifF (by rw [inD_some (ok x (List.mem_of_getElem? hx))]; rfl) ?_⟩
      obtain ⟨kvs, _, h2', h3'⟩ := sd1.put (by omega) x (.bl true)
      refine ⟨_, rfl, _, rfl, e, _, rfl, h2', e3.mut he0, sdq.at (upd_ne hpe), h3'.imp fun y => ?_, _, rfl⟩
      rw [take_succ hx]
      exact inD_snoc _ _ _
    · rintro σ H' ⟨e3, _, _, o', rfl⟩
      exact k _ e3
theorem sc_item_signals : FnScope ["item", "kind", "name", "first", "signal", "when", "clear", "text"] ["item"] (defScope (top 31)) :=
  ⟨rfl, rfl, rfl, by decide +kernel, rfl, by decide +kernel, by decide +kernel⟩
def spSigs : Sp := fun vs H Q _ => ∃ (it : Item) (v : V), vs = [v] ∧ Rep H it.d v ∧ ∀ l H', Same H H' → H' l = some (.lst (it.sgs.map V.str)) → Q (.ref l) H'
theorem cal_item_signals (F : Df K mg "item_signals" "item_signals" 31) (B : Bl mg) : Cal P w K mg base CX0 1 "item_signals" ["item"] spSigs := by
  refine F.cal sc_item_signals (fun vs H Q E h => ?_) (fun _ _ _ _ _ _ us hl => match us, hl with | [_], _ => rfl) (fun f cdv A outer s H vs Q E hr h => ?_)
  · obtain ⟨_, _, rfl, _⟩ := h
    rfl
  · obtain ⟨it, v, rfl, rv, k⟩ := h
    refine ⟨_, (pss_cons (ps_if (pt_cmpR op_eq (pe_ix (r := rIxT K) ix_tup (pv 0) pe_int (fun _ _ => rfl)) pe_str (nomark _))
        (pss_cons (ps_asg (pv 0) (pg_tup rfl (pgs_cons (pg_name (i := 1) sc_item_signals.nd rfl (Or.inl rfl)) (pgs_cons (pg_name (i := 2) sc_item_signals.nd rfl (Or.inl rfl)) (pgs_cons (pg_name (i := 3) sc_item_signals.nd rfl (Or.inl rfl)) (pgs_cons (pg_name (i := 4) sc_item_signals.nd rfl (Or.inl rfl)) (pgs_cons (pg_name (i := 5) sc_item_signals.nd rfl (Or.inl rfl)) (pgs_cons (pg_name (i := 6) sc_item_signals.nd rfl (Or.inl rfl)) pgs_nil))))))))
        (pss_one (ps_ret (pe_lst (pa_cons (pv 4) (StX.pa_star (pe_lc (own := [("text", 7)]) rfl sc_item_signals.nd (pi_tup (pe_tup (pa_cons (pv 5) (pa_cons (pv 6) pa_nil)))) (blkOk_by (N := ["item", "kind", "name", "first", "signal", "when", "clear", "text"]) (sc := defScope (top 31)) (own := [("text", 7)]) (by decide +kernel)) (fun _ _ _ _ _ => (pg_name (i := 7) sc_item_signals.nd rfl (Or.inl rfl))) (fun _ _ _ _ _ => (pts_one (pt_cmpR op_notN (pv 7) pe_non (nomark _)))) (fun _ _ _ _ _ => (pv 7))) pa_nil))))))
        pss_nil)
      (pss_one (ps_ret (pe_callTy call_list_of rfl B.list (by decide +kernel) (pa_cons (pe_ix (r := rIxT K) ix_tup (pv 0) pe_int (fun _ _ => rfl)) pa_nil))))), ?_⟩
    cases it with
    | gate x o sg =>
      obtain ⟨q, qs, rfl, hq, hqs⟩ := itemGate rv
      exact ⟨_, rfl, q, _, _, _, rfl, rfl, SqT.of hq, rfl, rfl, _, rfl, ifF kGR ⟨_, rfl, q, _, _, _, rfl, rfl, SqT.of hq, rfl, qs, _, rfl, .inr (SqT.of hqs), fun l hl => k l _ (Same.new hl) upd_same⟩⟩
    | use x md sg =>
      obtain ⟨q, qs, rfl, hq, hqs⟩ := itemUse rv
      exact ⟨_, rfl, q, _, _, _, rfl, rfl, SqT.of hq, rfl, rfl, _, rfl, ifF kUR ⟨_, rfl, q, _, _, _, rfl, rfl, SqT.of hq, rfl, qs, _, rfl, .inr (SqT.of hqs), fun l hl => k l _ (Same.new hl) upd_same⟩⟩
    | reg x fi sg wh cl =>
      obtain ⟨q, rfl, hq⟩ := itemReg rv
      refine ⟨_, rfl, q, _, _, _, rfl, rfl, SqT.of hq, rfl, rfl, _, rfl, ifT kRR ?_⟩
      refine ⟨_, rfl, q, _, rfl, SqT.of hq, rfl, _, _, rfl, _, _, rfl, _, _, rfl, _, _, rfl, _, _, rfl, _, _, rfl, rfl, ?_⟩
      refine ⟨_, rfl, _, rfl, _, rfl, sz5 (by simp), fun t ht => ⟨t, rfl, ⟨_, SqT.of upd_same⟩, fun L hL => ?_⟩⟩
      have e1 := Same.new (H := H) ht (o := .tup [oV wh, oV cl])
      have htL : (upd H t (.tup [oV wh, oV cl])) t = some (.tup [oV wh, oV cl]) := upd_same
      refine lc_it (walk_tup (xs := [oV wh, oV cl])) (fun i H' => Same (upd H t (.tup [oV wh, oV cl])) H' ∧ H' L = some (.lst (([oV wh, oV cl].take i).filter fun v => !decide (v = .non)))) ⟨(Same.refl _).mut hL, upd_same⟩ (fun i H' _ h => SqT.of (h.1 _ _ htL)) ?_ ?_
      · rintro i y _ H2 hi ⟨e2, hl2⟩ ⟨rfl, hy⟩
        refine ⟨rfl, _, rfl, rfl, _, rfl, if2 (fun hb => ?_) fun hb => ?_⟩
        · refine ⟨_, rfl, _, hl2, ?_, e2.mut hL, ?_⟩
          · have := List.length_filter_le (fun v => !decide (v = V.non)) ([oV wh, oV cl].take i)
            have h3 : [oV wh, oV cl].length = 2 := rfl
            rw [List.length_take, h3] at this
            exact sz5' (by omega)
          · rw [upd_same, take_succ hy, List.filter_append]
            simp only [List.filter_cons, hb, if_true, List.filter_nil]
        · refine ⟨e2, ?_⟩
          rw [hl2, take_succ hy, List.filter_append]
          simp [hb]
      · rintro H2 ⟨e2, hl2⟩
        refine ⟨L, _, rfl, .inr (SqL.of hl2), sz5 ?_, fun l hl => ?_⟩
        · have h := List.length_filter_le (fun v => !decide (v = V.non)) ([oV wh, oV cl].take [oV wh, oV cl].length)
          have h2 : ([oV wh, oV cl].take [oV wh, oV cl].length).length = 2 := rfl
          rw [h2] at h
          rw [List.length_cons, List.length_append, List.length_nil]
          omega
        · refine k l _ ((e1.trans e2).trans (Same.new hl)) ?_
          rw [upd_same]
          cases wh <;> cases cl <;> rfl
end
end Wi
set_option maxHeartbeats 4000000
set_option maxRecDepth 100000
namespace Wi
open PySem L2 PySem.Spec PyProof.Rows
section
variable {P : Program} {w : World} {K : PySem.W.Frag} {mg : Str → Option Value} {base : Heap}
theorem sc_own_fault : FnScope ["item", "earlier"] ["item", "earlier"] (defScope (top 32)) :=
  ⟨rfl, rfl, rfl, by decide +kernel, rfl, by decide +kernel, by decide +kernel⟩
def spOwn : Sp := fun vs H Q _ => ∃ (it : Item) (v : V) (d : Addr) (ds : List Mod), vs = [v, .ref d] ∧ Rep H it.d v ∧ MDl H d ds ∧ ItemOk ds it ∧ Q .non H
theorem cal_own_fault (F : Df K mg "own_fault" "own_fault" 32) (B : Bl mg) (G : GC K w mg) (C_is_bit : Cal P w K mg base CX0 1 "is_bit" ["number"] spIsBit) : Cal P w K mg base CX0 2 "own_fault" ["item", "earlier"] spOwn := by
  refine F.cal sc_own_fault (fun vs H Q E h => ?_) (fun _ _ _ _ _ _ us hl => match us, hl with | [_, _], _ => rfl) (fun f cdv A outer s H vs Q E hr h => ?_)
  · obtain ⟨_, _, _, _, rfl, _⟩ := h
    rfl
  · obtain ⟨it, v, d, ds, rfl, rv, md, ok, k⟩ := h
    obtain ⟨aR, esR, nR, g_ARITY, d_ARITY, nsR⟩ := G.ARITY
    refine ⟨_, (pss_cons (ps_if (pt_cmpR op_eq (pe_ix (r := rIxT K) ix_tup (pv 0) pe_int (fun _ _ => rfl)) pe_str (nomark _))
        (pss_cons (ps_if (pt_cmpR (op_notIn_kd d_ARITY) (pe_ix (r := rIxT K) ix_tup (pv 0) pe_int (fun _ _ => rfl)) (pe_globR rfl g_ARITY) (by rfl))
          pss_never
          pss_nil)
        (pss_one (ps_ret (pe_ifExp (pt_cmpR op_eq (pe_callB call_len_seq rfl B.len PySem.boot_len (pa_cons (pe_ix (r := rIxT K) ix_tup (pv 0) pe_int (fun _ _ => rfl)) pa_nil)) (pe_ix ix_kdict (pe_globR rfl g_ARITY) (pe_ix (r := rIxT K) ix_tup (pv 0) pe_int (fun _ _ => rfl)) (fun _ _ => rfl)) (nomark _)) pe_non pe_str))))
        pss_nil)
      (pss_cons (ps_if (pt_cmpR op_eq (pe_ix (r := rIxT K) ix_tup (pv 0) pe_int (fun _ _ => rfl)) pe_str (nomark _))
        (pss_one (ps_ret (pe_ifExp (pt_val (pe_callC C_is_bit (hr.mono (by decide)) rfl pass0 (pa_cons (pe_ix (r := rIxT K) ix_tup (pv 0) pe_int (fun _ _ => rfl)) pa_nil))) pe_non pe_str)))
        pss_nil)
      (pss_cons (ps_if (pt_cmp (pc_dnotin (hu_of hr) (pe_ix (r := rIxT K) ix_tup (pv 0) pe_int (fun _ _ => rfl)) (pv 1)))
        pss_never
        pss_nil)
      (pss_one (ps_ret (pe_ifExp (pt_cmpR op_eq (pe_callB call_len_seq rfl B.len PySem.boot_len (pa_cons (pe_ix (r := rIxT K) ix_tup (pv 0) pe_int (fun _ _ => rfl)) pa_nil)) (pe_callB call_len_seq rfl B.len PySem.boot_len (pa_cons (pe_ix (r := rIxT K) ix_tup (pe_dget (hu_of hr) (pv 1) (pe_ix (r := rIxT K) ix_tup (pv 0) pe_int (fun _ _ => rfl)) (fun _ _ => rfl)) pe_int (fun _ _ => rfl)) pa_nil)) (nomark _)) pe_non pe_str)))))), ?_⟩
    cases it with
    | gate x o sg =>
      obtain ⟨q, qs, rfl, hq, hqs⟩ := itemGate rv
      obtain ⟨u, hu, ru'⟩ := nsR o
      refine ⟨_, rfl, q, _, _, _, rfl, rfl, SqT.of hq, rfl, rfl, _, rfl, ifT kGG ?_⟩
      refine ⟨_, rfl, q, _, _, _, rfl, rfl, SqT.of hq, rfl, _, _, rfl, rfl, hu, _, rfl, ifF rfl ?_⟩
      refine ⟨_, rfl, q, _, _, _, rfl, rfl, SqT.of hq, rfl, qs, _, rfl, .inr (SqT.of hqs), _, rfl, q, _, _, _, rfl, rfl, SqT.of hq, rfl, _, _, _, rfl, rfl, ⟨_, _, _, d_ARITY.at_, d_ARITY.lit, hu, ru'⟩, rfl, _, rfl, ifT ?_ k⟩
      have : sg.length = o.ar := ok
      rw [List.length_map, this]
      simp
    | reg x fi sg wh cl =>
      obtain ⟨q, rfl, hq⟩ := itemReg rv
      refine ⟨_, rfl, q, _, _, _, rfl, rfl, SqT.of hq, rfl, rfl, _, rfl, ifF kRG ?_⟩
      refine ⟨_, rfl, q, _, _, _, rfl, rfl, SqT.of hq, rfl, rfl, _, rfl, ifT kRR ?_⟩
      exact ⟨_, rfl, q, _, _, _, rfl, rfl, SqT.of hq, rfl, fi, rfl, _, rfl, ifT rfl k⟩
    | use x md' sg =>
      obtain ⟨q, qs, rfl, hq, hqs⟩ := itemUse rv
      obtain ⟨u, hm, hl⟩ := ok
      obtain ⟨vu, hvu, rvu⟩ := md.getS hm
      obtain ⟨pu, pu1, pu2, pu3, uus, rfl, hpu, hu1, hu2, hu3, ruu, luu⟩ := rvu.modT
      refine ⟨_, rfl, q, _, _, _, rfl, rfl, SqT.of hq, rfl, rfl, _, rfl, ifF kUG ?_⟩
      refine ⟨_, rfl, q, _, _, _, rfl, rfl, SqT.of hq, rfl, rfl, _, rfl, ifF kUR ?_⟩
      refine ⟨_, rfl, q, _, _, _, rfl, rfl, SqT.of hq, rfl, _, rfl, d, _, rfl, hvu, _, rfl, ifF rfl ?_⟩
      refine ⟨_, rfl, q, _, _, _, rfl, rfl, SqT.of hq, rfl, qs, _, rfl, .inr (SqT.of hqs), _, rfl, _, rfl, q, _, _, _, rfl, rfl, SqT.of hq, rfl, d, _, rfl, hvu, pu, _, _, _, rfl, rfl, SqT.of hpu, rfl, pu1, _, rfl, .inr (SqT.of hu1), rfl, _, rfl, ifT ?_ k⟩
      rw [List.length_map, List.length_map, hl]
      simp
theorem sc_items_fault : FnScope ["module", "earlier", "known", "item", "code", "signal"] ["module", "earlier"] (defScope (top 33)) :=
  ⟨rfl, rfl, rfl, by decide +kernel, rfl, by decide +kernel, by decide +kernel⟩
def spItems : Sp := fun vs H Q _ => ∃ (m : Mod) (v : V) (d : Addr) (ds : List Mod), vs = [v, .ref d] ∧ Rep H m.d v ∧ MNm m ∧ MDl H d ds ∧ (∀ u ∈ ds, MNm u) ∧ (∀ i ∈ m.items, ItemOk ds i) ∧ (∀ i ∈ m.items, ∀ s ∈ i.sgs, s ∈ m.sigs ds) ∧ ∀ H', Same H H' → Q .non H'
theorem cal_items_fault (F : Df K mg "items_fault" "items_fault" 33) (C_all_signals : Cal P w K mg base CX0 2 "all_signals" ["module", "earlier"] spAll) (C_own_fault : Cal P w K mg base CX0 2 "own_fault" ["item", "earlier"] spOwn) (C_item_signals : Cal P w K mg base CX0 1 "item_signals" ["item"] spSigs) : Cal P w K mg base CX0 3 "items_fault" ["module", "earlier"] spItems := by
  refine F.cal sc_items_fault (fun vs H Q E h => ?_) (fun _ _ _ _ _ _ us hl => match us, hl with | [_, _], _ => rfl) (fun f cdv A outer s H vs Q E hr h => ?_)
  · obtain ⟨_, _, _, _, rfl, _⟩ := h
    rfl
  · obtain ⟨m, v, d, ds, rfl, rv, hz, md, hds, ok, sg, k⟩ := h
    refine ⟨_, (pss_cons (ps_set (i := 2) sc_items_fault.nd rfl (Or.inl rfl) (pe_callC C_all_signals (hr.mono (by decide)) rfl pass0 (pa_cons (pv 0) (pa_cons (pv 1) pa_nil))))
      (pss_cons (ps_for PassesOwn.never rfl (pi_tup (pe_ix (r := rIxT K) ix_tup (pv 0) pe_int (fun _ _ => rfl))) (pg_name (i := 3) sc_items_fault.nd rfl (Or.inl rfl))
        (pss_cons (ps_set (i := 4) sc_items_fault.nd rfl (Or.inl rfl) (pe_callC C_own_fault (hr.mono (by decide)) rfl pass0 (pa_cons (pv 3) (pa_cons (pv 1) pa_nil))))
        (pss_cons (ps_if (pt_cmpR op_notN (pv 4) pe_non (nomark _))
          pss_never
          pss_nil)
        (pss_one (ps_for PassesOwn.never rfl (pi_list (pe_callC C_item_signals (hr.mono (by decide)) rfl pass0 (pa_cons (pv 3) pa_nil))) (pg_name (i := 5) sc_items_fault.nd rfl (Or.inl rfl))
          (pss_one (ps_if (pt_cmp (pc_dnotin (hu_of hr) (pv 5) (pv 2)))
            pss_never
            pss_nil)))))))
      (pss_one (ps_ret pe_non)))), ?_⟩
    obtain ⟨p, p1, p2, p3, us, rfl, hp, h1, h2, h3, ru, lu⟩ := rv.modT
    refine ⟨_, rfl, _, rfl, m, _, d, ds, rfl, rv, hz, md, hds, fun e H1 e1 sd => ?_⟩
    refine ⟨_, rfl, p, _, _, _, rfl, rfl, SqT.of (e1 _ _ hp), rfl, p3, rfl, ⟨_, SqT.of (e1 _ _ h3)⟩, ?_⟩
    refine for_it (walk_tup (xs := us)) (fun i σ H' => Same H1 H' ∧ ∃ o3 o4 o5, σ = [some (.ref p), some (.ref d), some (.ref e), o3, o4, o5]) ⟨Same.refl _, _, _, _, rfl⟩ (fun i σ H' _ h => SqT.of ((e1.trans h.1) _ _ h3)) ?_ ?_
    · rintro i y σ _ H2 hi ⟨e2, o3, o4, o5, rfl⟩ ⟨rfl, hy⟩
      obtain ⟨it, hit, rit⟩ := ru.at hy
      have him := List.mem_of_getElem? hit
      have e02 := e1.trans e2
      refine ⟨_, rfl, _, rfl, it, y, d, ds, rfl, rit.ex e02, md.same e02, ok it him, ?_⟩
      refine ⟨_, rfl, rfl, _, rfl, ifF rfl ?_⟩
      refine ⟨_, rfl, it, y, rfl, rit.ex e02, fun l H3 e3 hl => ⟨l, rfl, ⟨_, SqL.of hl⟩, ?_⟩⟩
      refine for_it (walk_list (xs := it.sgs.map V.str)) (fun j σ H' => H' = H3 ∧ ∃ o5, σ = [some (.ref p), some (.ref d), some (.ref e), some y, some .non, o5]) ⟨rfl, _, rfl⟩ (fun j σ H' _ h => by rw [h.1]; exact SqL.of hl) ?_ ?_
      · rintro j z σ _ H4 hj ⟨rfl, o5, rfl⟩ ⟨rfl, hz'⟩
        obtain ⟨x, hx, rfl⟩ := strs_get hz'
        exact ⟨_, rfl, _, rfl, e, _, rfl, ((sd.same e2).same e3).get x, _, rfl, ifF (by rw [inD_some (sg it him x (List.mem_of_getElem? hx))]; rfl) ⟨rfl, _, rfl⟩⟩
      · rintro σ H4 ⟨rfl, o5, rfl⟩
        exact ⟨e2.trans e3, _, _, _, rfl⟩
    · rintro σ H2 ⟨e2, o3, o4, o5, rfl⟩
      exact k _ (e1.trans e2)
theorem sc_module_fault : FnScope ["module", "earlier", "fault"] ["module", "earlier"] (defScope (top 34)) :=
  ⟨rfl, rfl, rfl, by decide +kernel, rfl, by decide +kernel, by decide +kernel⟩
def spModule : Sp := fun vs H Q _ => ∃ (m : Mod) (v : V) (d : Addr) (ds : List Mod), vs = [v, .ref d] ∧ Rep H m.d v ∧ MNm m ∧ MDl H d ds ∧ (∀ u ∈ ds, MNm u) ∧ MOk ds m ∧ ∀ H', Same H H' → Q .non H'
theorem modAt_new {ds : List Mod} {x : S} (h : x ∉ ds.map (·.nm)) : modAt ds x = none := by
  unfold modAt
  exact List.find?_eq_none.mpr fun u hu => by
    have : ¬ u.nm = x := fun z => h (z ▸ List.mem_map_of_mem hu)
    simp [this]
theorem cal_module_fault (F : Df K mg "module_fault" "module_fault" 34) (C_is_name : Cal P w K mg base CX0 1 "is_name" ["text"] spIsName) (C_names_fault : Cal P w K mg base CX0 2 "names_fault" ["declared"] spNames) (C_declared_names : Cal P w K mg base CX0 1 "declared_names" ["module"] spDecN) (C_ports_fault : Cal P w K mg base CX0 2 "ports_fault" ["module"] spPorts) (C_items_fault : Cal P w K mg base CX0 3 "items_fault" ["module", "earlier"] spItems) :
    Cal P w K mg base CX0 4 "module_fault" ["module", "earlier"] spModule := by
  refine F.cal sc_module_fault (fun vs H Q E h => ?_) (fun _ _ _ _ _ _ us hl => match us, hl with | [_, _], _ => rfl) (fun f cdv A outer s H vs Q E hr h => ?_)
  · obtain ⟨_, _, _, _, rfl, _⟩ := h
    rfl
  · obtain ⟨m, v, d, ds, rfl, rv, hz, md, hds, ok, k⟩ := h
    refine ⟨_, (pss_cons (ps_if (pt_not (pt_val (pe_callC C_is_name (hr.mono (by decide)) rfl pass0 (pa_cons (pe_ix (r := rIxT K) ix_tup (pv 0) pe_int (fun _ _ => rfl)) pa_nil))))
        pss_never
        pss_nil)
      (pss_cons (ps_if (pt_cmp (pc_din (hu_of hr) (pe_ix (r := rIxT K) ix_tup (pv 0) pe_int (fun _ _ => rfl)) (pv 1)))
        pss_never
        pss_nil)
      (pss_cons (ps_set (i := 2) sc_module_fault.nd rfl (Or.inl rfl) (pe_callC C_names_fault (hr.mono (by decide)) rfl pass0 (pa_cons (pe_callC C_declared_names (hr.mono (by decide)) rfl pass0 (pa_cons (pv 0) pa_nil)) pa_nil)))
      (pss_cons (ps_if (pt_cmpR op_notN (pv 2) pe_non (nomark _))
        pss_never
        pss_nil)
      (pss_cons (ps_set (i := 2) sc_module_fault.nd rfl (Or.inl rfl) (pe_callC C_ports_fault (hr.mono (by decide)) rfl pass0 (pa_cons (pv 0) pa_nil)))
      (pss_cons (ps_if (pt_cmpR op_notN (pv 2) pe_non (nomark _))
        pss_never
        pss_nil)
      (pss_one (ps_ret (pe_callC C_items_fault (hr.mono (by decide)) rfl pass0 (pa_cons (pv 0) (pa_cons (pv 1) pa_nil))))))))))), ?_⟩
    obtain ⟨p, p1, p2, p3, us, rfl, hp, h1, h2, h3, ru, lu⟩ := rv.modT
    have z1 := hz.sz.ins
    have z3 := hz.sz.items
    refine ⟨_, rfl, p, _, _, _, rfl, rfl, SqT.of hp, rfl, _, rfl, ok.nmN, _, rfl, ifF rfl ?_⟩
    refine ⟨_, rfl, p, _, _, _, rfl, rfl, SqT.of hp, rfl, _, rfl, d, _, rfl, md.getN (modAt_new ok.nmNew), _, rfl, ifF rfl ?_⟩
    refine ⟨_, rfl, m, _, rfl, rv, hz.sz, fun vl H1 e1 rl => ?_⟩
    refine ⟨m.decl, vl, rfl, rl, by unfold Mod.decl; rw [List.length_append, List.length_map]; omega, ok.dclD, ok.dclN, fun H2 e2 => ?_⟩
    have e02 := e1.trans e2
    refine ⟨_, rfl, rfl, _, rfl, ifF rfl ?_⟩
    refine ⟨_, rfl, m, _, rfl, rv.ex e02, hz.sz, ok.outs, ok.outD, fun H3 e3 => ?_⟩
    have e03 := e02.trans e3
    refine ⟨_, rfl, rfl, _, rfl, ifF rfl ?_⟩
    exact ⟨_, rfl, _, rfl, m, _, d, ds, rfl, rv.ex e03, hz, md.same e03, hds, ok.ok, ok.sig, fun H4 e4 => k _ (e03.trans e4)⟩
theorem sc_design_fault : FnScope ["design", "earlier", "module", "fault"] ["design"] (defScope (top 35)) :=
  ⟨rfl, rfl, rfl, by decide +kernel, rfl, by decide +kernel, by decide +kernel⟩
structure DOk (ds : List Mod) : Prop where
  ok : DesOk ds
  nm : ∀ u ∈ ds, MNm u
  sz : ds.length ≤ 9
def spDes (r : List Mod → Hp → VK → Prop) : Sp := fun vs H Q _ => ∃ (ds : List Mod) (v : V), vs = [v] ∧ Rep H (desD ds) v ∧ DOk ds ∧ r ds H Q
def rNonD : List Mod → Hp → VK → Prop := fun _ H Q => ∀ H', Same H H' → Q .non H'
theorem cal_design_fault (F : Df K mg "design_fault" "design_fault" 35) (C_module_fault : Cal P w K mg base CX0 4 "module_fault" ["module", "earlier"] spModule) : Cal P w K mg base CX0 5 "design_fault" ["design"] (spDes rNonD) := by
  refine F.cal sc_design_fault (fun vs H Q E h => ?_) (fun _ _ _ _ _ _ us hl => match us, hl with | [_], _ => rfl) (fun f cdv A outer s H vs Q E hr h => ?_)
  · obtain ⟨_, _, rfl, _⟩ := h
    rfl
  · obtain ⟨ds, v, rfl, rv, hd, k⟩ := h
    refine ⟨_, (pss_cons (ps_set (i := 1) sc_design_fault.nd rfl (Or.inl rfl) pe_dnewK)
      (pss_cons (ps_for PassesOwn.never rfl (pi_tup (pv 0)) (pg_name (i := 2) sc_design_fault.nd rfl (Or.inl rfl))
        (pss_cons (ps_set (i := 3) sc_design_fault.nd rfl (Or.inl rfl) (pe_callC C_module_fault (hr.mono (by decide)) rfl pass0 (pa_cons (pv 2) (pa_cons (pv 1) pa_nil))))
        (pss_cons (ps_if (pt_cmpR op_notN (pv 3) pe_non (nomark _))
          pss_never
          pss_nil)
        (pss_one (ps_dput (hu_of hr) (pv 1) (pe_ix (r := rIxT K) ix_tup (pv 2) pe_int (fun _ _ => rfl)) (pv 2) rfl)))))
      (pss_one (ps_ret pe_non)))), ?_⟩
    obtain ⟨p, us, rfl, hp, ru⟩ := rv.eTup
    have lu := ru.len
    rw [List.length_map] at lu
    have hsz := hd.sz
    intro d hd0
    refine ⟨_, rfl, p, rfl, ⟨_, SqT.of (Same.new hd0 _ _ hp)⟩, ?_⟩
    refine for_it (walk_tup (xs := us)) (fun i σ H' => Same H H' ∧ (∃ f, SD H' d (ds.take i).length f ∧ (∀ x, modAt (ds.take i) x = none → f x = none) ∧ ∀ x u, modAt (ds.take i) x = some u → ∃ v, f x = some v ∧ Rep H' u.d v) ∧ ∃ o2 o3, σ = [some (.ref p), some (.ref d), o2, o3]) ⟨Same.new hd0, ⟨_, by simpa using SD.new, fun _ _ => rfl, fun x u h => by simp [modAt] at h⟩, _, _, rfl⟩ (fun i σ H' _ h => SqT.of (h.1 _ _ hp)) ?_ ?_
    · rintro i y σ _ H1 hi ⟨e1, hk, o2, o3, rfl⟩ ⟨rfl, hy⟩
      obtain ⟨m, hm, rm⟩ := ru.at hy
      have hmm := List.mem_of_getElem? hm
      have ok := hd.ok i m hm
      have hlt : (ds.take i).length ≤ 9 := by rw [List.length_take]; omega
      obtain ⟨f0, s1, s2, s3⟩ := hk
      have mdl : MDl H1 d (ds.take i) := ⟨f0, s1.mono (by omega), s2, s3⟩
      refine ⟨_, rfl, _, rfl, m, y, d, ds.take i, rfl, rm.ex e1, hd.nm m hmm, mdl, (fun u hu => hd.nm u (List.mem_of_mem_take hu)), ok, fun H2 e2 => ?_⟩
      refine ⟨_, rfl, rfl, _, rfl, ifF rfl ?_⟩
      have e02 := e1.trans e2
      obtain ⟨pm, q1, q2, q3, uus, hpe, hpm, _⟩ := (rm.ex e02).modT
      have hlt2 : i < ds.length := by omega
      obtain ⟨kvs, a1, a2, f', b1, b2, b3⟩ := putMDl (n := 0) (mdl.same e2) hlt ok.nmNew (rm.ex e02) ⟨f0, s1.same e2, s2, fun x u h => let ⟨v, c1, c2⟩ := s3 x u h; ⟨v, c1, c2.ex e2⟩⟩
      have hy' : y = .ref pm := hpe
      subst hy'
      refine ⟨_, rfl, _, rfl, _, rfl, pm, _, _, _, rfl, rfl, SqT.of hpm, rfl, d, _, rfl, a2, e02.mut hd0, ⟨f', ?_, ?_, ?_⟩, _, _, rfl⟩
      all_goals rw [take_succ hm]
      · exact b1
      · exact b2
      · exact b3
    · rintro σ H1 ⟨e1, _, o2, o3, rfl⟩
      exact k _ e1
theorem sc_check_design : FnScope ["design", "fault"] ["design"] (defScope (top 36)) :=
  ⟨rfl, rfl, rfl, by decide +kernel, rfl, by decide +kernel, by decide +kernel⟩
theorem cal_check_design (F : Df K mg "check_design" "check_design" 36) (C_design_fault : Cal P w K mg base CX0 5 "design_fault" ["design"] (spDes rNonD)) : Cal P w K mg base CX0 6 "check_design" ["design"] (spDes rNonD) := by
  refine F.cal sc_check_design (fun vs H Q E h => ?_) (fun _ _ _ _ _ _ us hl => match us, hl with | [_], _ => rfl) (fun f cdv A outer s H vs Q E hr h => ?_)
  · obtain ⟨_, _, rfl, _⟩ := h
    rfl
  · obtain ⟨ds, v, rfl, rv, hd, k⟩ := h
    refine ⟨_, (pss_cons (ps_set (i := 1) sc_check_design.nd rfl (Or.inl rfl) (pe_callC C_design_fault (hr.mono (by decide)) rfl pass0 (pa_cons (pv 0) pa_nil)))
      (pss_one (ps_if (pt_cmpR op_notN (pv 1) pe_non (nomark _))
        pss_never
        pss_nil))), ?_⟩
    exact ⟨_, rfl, ds, _, rfl, rv, hd, fun H1 e1 => ⟨_, rfl, rfl, _, rfl, ifF rfl (k _ e1)⟩⟩
end
end Wi
set_option maxHeartbeats 4000000
set_option maxRecDepth 100000
namespace Wi
open PySem L2 PySem.Spec PyProof.Rows
theorem Item.d_use (x md : S) (sg : List S) : (Item.use x md sg).d = .tup [.str uS, .str x, .str md, strsD sg] := rfl
/-- a gate is put behind the gates -/
theorem gates_snoc {H : Hp} {A : Addr} {xs us : List V} {gs : List Gate} {g : Gate} {t : V} (hA : H A = some (.lst (xs ++ us))) (r : RepL H (gs.map Gate.d) us) (rt : Rep H g.d t) :
    upd H A (.lst (xs ++ us ++ [t])) A = some (.lst (xs ++ (us ++ [t]))) ∧ RepL (upd H A (.lst (xs ++ us ++ [t]))) ((gs ++ [g]).map Gate.d) (us ++ [t]) := by
  refine ⟨by rw [upd_same, List.append_assoc], ?_⟩
  have tx : Tx H (upd H A (.lst (xs ++ us ++ [t]))) := (Tx.refl H).mut hA fun _ z => nomatch z
  rw [List.map_append]
  exact (r.snoc rt).tx tx
theorem isnon_o (o : Option S) : decide (oV o = V.non) = !o.isSome := by
  cases o <;> rfl
section
variable {P : Program} {w : World} {K : PySem.W.Frag} {mg : Str → Option Value} {base : Heap}
theorem sc_item_size : FnScope ["item", "modules", "sizes", "size"] ["item", "modules", "sizes"] (defScope (top 40)) :=
  ⟨rfl, rfl, rfl, by decide +kernel, rfl, by decide +kernel, by decide +kernel⟩
def spISize : Sp := fun vs H Q _ => ∃ (it : Item) (v : V) (d e : Addr) (ds : List Mod) (sz : Mod → Nat), vs = [v, .ref d, .ref e] ∧ Rep H it.d v ∧ MDl H d ds ∧ ItemOk ds it ∧ (∀ x u, modAt ds x = some u → DGet H e (.str x) (some (.int (sz u : Nat)))) ∧ Q (.int (itemSz ds sz it : Nat)) H
theorem cal_item_size (F : Df K mg "item_size" "item_size" 40) (B : Bl mg) : Cal P w K mg base CX0 1 "item_size" ["item", "modules", "sizes"] spISize := by
  refine F.cal sc_item_size (fun vs H Q E h => ?_) (fun _ _ _ _ _ _ us hl => match us, hl with | [_, _, _], _ => rfl) (fun f cdv A outer s H vs Q E hr h => ?_)
  · obtain ⟨_, _, _, _, _, _, rfl, _⟩ := h
    rfl
  · obtain ⟨it, v, d, e, ds, sz, rfl, rv, md, ok, hsz, k⟩ := h
    refine ⟨_, (pss_cons (ps_if (pt_cmpR op_eq (pe_ix (r := rIxT K) ix_tup (pv 0) pe_int (fun _ _ => rfl)) pe_str (nomark _))
        (pss_one (ps_ret pe_int))
        pss_nil)
      (pss_cons (ps_if (pt_cmpR op_eq (pe_ix (r := rIxT K) ix_tup (pv 0) pe_int (fun _ _ => rfl)) pe_str (nomark _))
        (pss_one (ps_ret (pe_op op_add (pe_callB call_len_seq rfl B.len PySem.boot_len (pa_cons (pe_ix (r := rIxT K) ix_tup (pe_dget (hu_of hr) (pv 1) (pe_ix (r := rIxT K) ix_tup (pv 0) pe_int (fun _ _ => rfl)) (fun _ _ => rfl)) pe_int (fun _ _ => rfl)) pa_nil)) (pe_dget (hu_of hr) (pv 2) (pe_ix (r := rIxT K) ix_tup (pv 0) pe_int (fun _ _ => rfl)) (fun _ _ => rfl)))))
        pss_nil)
      (pss_cons (ps_set (i := 3) sc_item_size.nd rfl (Or.inl rfl) pe_int)
      (pss_cons (ps_if (pt_cmpR op_notN (pe_ix (r := rIxT K) ix_tup (pv 0) pe_int (fun _ _ => rfl)) pe_non (nomark _))
        (pss_one (ps_aug (i := 3) sc_item_size.nd rfl (Or.inl rfl) pe_int ip_add))
        pss_nil)
      (pss_cons (ps_if (pt_cmpR op_notN (pe_ix (r := rIxT K) ix_tup (pv 0) pe_int (fun _ _ => rfl)) pe_non (nomark _))
        (pss_one (ps_aug (i := 3) sc_item_size.nd rfl (Or.inl rfl) pe_int ip_add))
        pss_nil)
      (pss_one (ps_ret (pv 3)))))))), ?_⟩
    cases it with
    | gate x o sg =>
      obtain ⟨q, qs, rfl, hq, hqs⟩ := itemGate rv
      exact ⟨_, rfl, q, _, _, _, rfl, rfl, SqT.of hq, rfl, rfl, _, rfl, ifT kGG k⟩
    | use x md' sg =>
      obtain ⟨q, qs, rfl, hq, hqs⟩ := itemUse rv
      obtain ⟨u, hm, hl⟩ := ok
      obtain ⟨vu, hvu, rvu⟩ := md.getS hm
      obtain ⟨pu, pu1, pu2, pu3, uus, rfl, hpu, hu1, hu2, hu3, ruu, luu⟩ := rvu.modT
      refine ⟨_, rfl, q, _, _, _, rfl, rfl, SqT.of hq, rfl, rfl, _, rfl, ifF kUG ?_⟩
      refine ⟨_, rfl, q, _, _, _, rfl, rfl, SqT.of hq, rfl, rfl, _, rfl, ifT kUU ?_⟩
      refine ⟨_, rfl, _, rfl, q, _, _, _, rfl, rfl, SqT.of hq, rfl, d, _, rfl, hvu, pu, _, _, _, rfl, rfl, SqT.of hpu, rfl, pu1, _, rfl, .inr (SqT.of hu1), _, rfl, _, rfl, q, _, _, _, rfl, rfl, SqT.of hq, rfl, e, _, rfl, hsz _ _ hm, _, _, rfl, rfl, ?_⟩
      have : itemSz ds sz (.use x md' sg) = u.ins.length + sz u := by
        show (match modAt ds md' with
          | some u => u.ins.length + sz u
          | none => 0) = _
        rw [hm]
      rw [this] at k
      rw [List.length_map]
      simpa using k
    | reg x fi sg wh cl =>
      obtain ⟨q, rfl, hq⟩ := itemReg rv
      refine ⟨_, rfl, q, _, _, _, rfl, rfl, SqT.of hq, rfl, rfl, _, rfl, ifF kRG ?_⟩
      refine ⟨_, rfl, q, _, _, _, rfl, rfl, SqT.of hq, rfl, rfl, _, rfl, ifF kRU ?_⟩
      refine ⟨_, rfl, q, _, _, _, rfl, rfl, SqT.of hq, rfl, rfl, _, rfl, ?_⟩
      rw [isnon_o]
      cases wh with
      | none =>
        refine iteF ⟨_, rfl, q, _, _, _, rfl, rfl, SqT.of hq, rfl, rfl, _, rfl, ?_⟩
        rw [isnon_o]
        cases cl with
        | none => exact iteF ⟨_, rfl, k⟩
        | some z => exact iteT ⟨_, rfl, _, _, rfl, rfl, _, rfl, k⟩
      | some z0 =>
        refine iteT ⟨_, rfl, _, _, rfl, rfl, _, rfl, q, _, _, _, rfl, rfl, SqT.of hq, rfl, rfl, _, rfl, ?_⟩
        rw [isnon_o]
        cases cl with
        | none => exact iteF ⟨_, rfl, k⟩
        | some z => exact iteT ⟨_, rfl, _, _, rfl, rfl, _, rfl, k⟩
theorem sc_add_reg : FnScope ["item", "prefix", "gates", "regs", "kind", "name", "first", "signal", "when", "clear", "wire", "source"] ["item", "prefix", "gates", "regs"] (defScope (top 42)) :=
  ⟨rfl, rfl, rfl, by decide +kernel, rfl, by decide +kernel, by decide +kernel⟩
def spAddR : Sp := fun vs H Q _ => ∃ (v : V) (pre : S) (A R : Addr) (x sg : S) (fi : Bool) (wh cl : Option S) (xs ys : List V), vs = [v, .str pre, .ref A, .ref R] ∧ Rep H (Item.d (.reg x fi sg wh cl)) v ∧ A ≠ R ∧ H A = some (.lst xs) ∧ H R = some (.lst ys) ∧ xs.length ≤ 60000 ∧ ys.length ≤ 60000 ∧ pre.length ≤ 20000 ∧ x.length ≤ 300 ∧ (∀ s ∈ (Item.reg x fi sg wh cl).sgs, s.length ≤ 300) ∧
  ∀ H' us ws, Keep A R H H' → H' A = some (.lst (xs ++ us)) → H' R = some (.lst (ys ++ ws)) → RepL H' ((holdG pre x sg wh ++ clearG pre x fi (holdSrc pre x sg wh) cl).map Gate.d) us → RepL H' ([(⟨pre ++ x, fi, regSrc pre x sg wh cl⟩ : Reg)].map Reg.d) ws → Q .non H'
theorem cal_add_reg (F : Df K mg "add_reg" "add_reg" 42) : Cal P w K mg base CX0 1 "add_reg" ["item", "prefix", "gates", "regs"] spAddR := by
  refine F.cal sc_add_reg (fun vs H Q E h => ?_) (fun _ _ _ _ _ _ us hl => match us, hl with | [_, _, _, _], _ => rfl) (fun f cdv A outer s H vs Q E hr h => ?_)
  · obtain ⟨_, _, _, _, _, _, _, _, _, _, _, rfl, _⟩ := h
    rfl
  · obtain ⟨v, pre, A, R, x, sg, fi, wh, cl, xs, ys, rfl, rv, hAR, hA, hR, hxs, hys, hpre, hx, hsg, k⟩ := h
    refine ⟨_, (pss_cons (ps_asg (pv 0) (pg_tup rfl (pgs_cons (pg_name (i := 4) sc_add_reg.nd rfl (Or.inl rfl)) (pgs_cons (pg_name (i := 5) sc_add_reg.nd rfl (Or.inl rfl)) (pgs_cons (pg_name (i := 6) sc_add_reg.nd rfl (Or.inl rfl)) (pgs_cons (pg_name (i := 7) sc_add_reg.nd rfl (Or.inl rfl)) (pgs_cons (pg_name (i := 8) sc_add_reg.nd rfl (Or.inl rfl)) (pgs_cons (pg_name (i := 9) sc_add_reg.nd rfl (Or.inl rfl)) pgs_nil))))))))
      (pss_cons (ps_set (i := 10) sc_add_reg.nd rfl (Or.inl rfl) (pe_joined (.cons (pe_fmt (pv 1)) (.cons (pe_fmt (pv 5)) .nil))))
      (pss_cons (ps_set (i := 11) sc_add_reg.nd rfl (Or.inl rfl) (pe_joined (.cons (pe_fmt (pv 1)) (.cons (pe_fmt (pv 7)) .nil))))
      (pss_cons (ps_if (pt_cmpR op_notN (pv 8) pe_non (nomark _))
        (pss_cons (ps_expr (pe_bm PySem.F.plainAttrs_list PySem.F.slot_list_append PySem.F.type_list_append mt_append (pv 2) (pa_cons (pe_tup (pa_cons (pe_joined (.cons (pe_fmt (pv 10)) (.cons pe_str .nil))) (pa_cons pe_str (pa_cons (pe_tup (pa_cons (pe_joined (.cons (pe_fmt (pv 1)) (.cons (pe_fmt (pv 8)) .nil))) (pa_cons (pv 10) (pa_cons (pv 11) pa_nil)))) pa_nil)))) pa_nil)))
        (pss_one (ps_set (i := 11) sc_add_reg.nd rfl (Or.inl rfl) (pe_joined (.cons (pe_fmt (pv 10)) (.cons pe_str .nil))))))
        pss_nil)
      (pss_cons (ps_if (pt_cmpR op_notN (pv 9) pe_non (nomark _))
        (pss_cons (ps_expr (pe_bm PySem.F.plainAttrs_list PySem.F.slot_list_append PySem.F.type_list_append mt_append (pv 2) (pa_cons (pe_tup (pa_cons (pe_joined (.cons (pe_fmt (pv 10)) (.cons pe_str .nil))) (pa_cons (pe_ifExp (pt_cmpR op_eq (pv 6) pe_int (nomark _)) pe_str pe_str) (pa_cons (pe_tup pa_nil) pa_nil)))) pa_nil)))
        (pss_cons (ps_expr (pe_bm PySem.F.plainAttrs_list PySem.F.slot_list_append PySem.F.type_list_append mt_append (pv 2) (pa_cons (pe_tup (pa_cons (pe_joined (.cons (pe_fmt (pv 10)) (.cons pe_str .nil))) (pa_cons pe_str (pa_cons (pe_tup (pa_cons (pe_joined (.cons (pe_fmt (pv 1)) (.cons (pe_fmt (pv 9)) .nil))) (pa_cons (pv 11) (pa_cons (pe_joined (.cons (pe_fmt (pv 10)) (.cons pe_str .nil))) pa_nil)))) pa_nil)))) pa_nil)))
        (pss_one (ps_set (i := 11) sc_add_reg.nd rfl (Or.inl rfl) (pe_joined (.cons (pe_fmt (pv 10)) (.cons pe_str .nil)))))))
        pss_nil)
      (pss_one (ps_expr (pe_bm PySem.F.plainAttrs_list PySem.F.slot_list_append PySem.F.type_list_append mt_append (pv 3) (pa_cons (pe_tup (pa_cons (pv 10) (pa_cons (pv 6) (pa_cons (pv 11) pa_nil)))) pa_nil))))))))), ?_⟩
    obtain ⟨q, rfl, hq⟩ := itemReg rv
    have l0 : sg.length ≤ 300 := hsg sg (List.mem_cons_self ..)
    have lh := (by decide +kernel : holdS.length = 5)
    have lf := (by decide +kernel : firstS.length = 6)
    have lc := (by decide +kernel : clearS.length = 6)
    have lpx := len_app pre x
    have lps := len_app pre sg
    refine ⟨_, rfl, q, _, rfl, SqT.of hq, rfl, _, _, rfl, _, _, rfl, _, _, rfl, _, _, rfl, _, _, rfl, _, _, rfl, rfl, ?_⟩
    refine rd_j2 (a := pre) (b := x) rfl rfl (by omega) (rd_j2 (a := pre) (b := sg) rfl rfl (by omega) ?_)
    -- behind the hold
    have key2 : ∀ (src : S) (H1 : Hp) (us : List V) (gs : List Gate), src.length ≤ 30000 → Keep A R H H1 → H1 A = some (.lst (xs ++ us)) → H1 R = some (.lst ys) → RepL H1 (gs.map Gate.d) us → us.length ≤ 1 → gs = holdG pre x sg wh → src = holdSrc pre x sg wh →
        tSeq (tIfS (tTest (tOp (fun x y H Q => y = V.non ∧ Q (V.bl (!decide (x = V.non))) H) (tVar 9) (tC .non)))
          (tSeq (tDrop (tBM K "list" rAppend (tVar 2) (tCons (tTup (tCons (fun σ H Q => tJs [tFmt (tVar 10), tC (.str firstS)] PySem.Str.empty σ H fun out H1 => Q (.str out) H1) (tCons (tIf (tTest (tOp rEq (tVar 6) (tC (.int 1)))) (tC (.str "one")) (tC (.str "zero"))) (tCons (tTup tNil) tNil)))) tNil)))
            (tSeq (tDrop (tBM K "list" rAppend (tVar 2) (tCons (tTup (tCons (fun σ H Q => tJs [tFmt (tVar 10), tC (.str clearS)] PySem.Str.empty σ H fun out H1 => Q (.str out) H1) (tCons (tC (.str "mux")) (tCons (tTup (tCons (fun σ H Q => tJs [tFmt (tVar 1), tFmt (tVar 9)] PySem.Str.empty σ H fun out H1 => Q (.str out) H1) (tCons (tVar 11) (tCons (fun σ H Q => tJs [tFmt (tVar 10), tC (.str firstS)] PySem.Str.empty σ H fun out H1 => Q (.str out) H1) tNil)))) tNil)))) tNil)))
              (tAsg (fun σ H Q => tJs [tFmt (tVar 10), tC (.str clearS)] PySem.Str.empty σ H fun out H1 => Q (.str out) H1) (gName 11)))) tNext)
          (tDrop (tBM K "list" rAppend (tVar 3) (tCons (tTup (tCons (tVar 10) (tCons (tVar 6) (tCons (tVar 11) tNil)))) tNil))) { nx := fun _ H' => Q .non H', rt := Q }
          [some (.ref q), some (.str pre), some (.ref A), some (.ref R), some (.str rS), some (.str x), some (.int (b2i fi)), some (.str sg), some (oV wh), some (oV cl), some (.str (pre ++ x)), some (.str src)] H1 := by
      intro src H1 us gs hsl ek hA1 hR1 rus hul hgs hsrc
      have fin : ∀ (src2 : S) (H2 : Hp) (us2 : List V) (gs2 : List Gate), Keep A R H H2 → H2 A = some (.lst (xs ++ us2)) → H2 R = some (.lst ys) → RepL H2 (gs2.map Gate.d) us2 → gs2 = holdG pre x sg wh ++ clearG pre x fi (holdSrc pre x sg wh) cl → src2 = regSrc pre x sg wh cl → tDrop (tBM K "list" rAppend (tVar 3) (tCons (tTup (tCons (tVar 10) (tCons (tVar 6) (tCons (tVar 11) tNil)))) tNil)) { nx := fun _ H' => Q .non H', rt := Q }
          [some (.ref q), some (.str pre), some (.ref A), some (.ref R), some (.str rS), some (.str x), some (.int (b2i fi)), some (.str sg), some (oV wh), some (oV cl), some (.str (pre ++ x)), some (.str src2)] H2 := by
        intro src2 H2 us2 gs2 ek2 hA2 hR2 rus2 hgs2 hsrc2
        refine ⟨_, rfl, .inl ⟨rfl, _, SqL.of hR2⟩, _, rfl, _, rfl, _, rfl, sz5 (by simp), fun t ht => ?_⟩
        have e1 := Same.new ht (o := .tup [.str (pre ++ x), .int (b2i fi), .str src2])
        have hR3 := e1 _ _ hR2
        have hA3 := e1 _ _ hA2
        refine ⟨R, ys, _, rfl, rfl, hR3, sz5' (by omega), ?_⟩
        have tx := (Tx.refl (upd H2 t (.tup [.str (pre ++ x), .int (b2i fi), .str src2]))).mut (o := .lst (ys ++ [.ref t])) hR3 fun _ z => nomatch z
        refine k _ us2 [.ref t] ((ek2.trans e1.keep).updR _) (by rw [upd_ne hAR]; exact hA3) upd_same ?_ ?_
        · rw [← hgs2]; exact (rus2.ex e1).tx tx
        · rw [← hsrc2]
          exact .one (Rep.tx tx (.tup upd_same (.cons (.str _) (.cons (.int _) (.cons (.str _) .nil)))))
      refine ⟨_, rfl, rfl, _, rfl, ?_⟩
      rw [isnon_o]
      cases cl with
      | none =>
        refine iteF (fin src H1 us gs ek hA1 hR1 rus (by rw [hgs]; exact (List.append_nil _).symm) ?_)
        rw [hsrc]; rfl
      | some z =>
        have lz : z.length ≤ 300 := hsg z (by show z ∈ sg :: (wh.toList ++ [z]); simp)
        refine iteT ⟨_, rfl, .inl ⟨rfl, _, SqL.of hA1⟩, ?_⟩
        refine rd_jc (a := pre ++ x) (c := firstS) rfl (by omega) ?_
        have fiT : ∀ (Q' : VK) (H' : Hp) (σ : L2.St), σ[6]? = some (some (V.int (b2i fi))) → Q' (.str (if fi then Op.one else Op.zero).s) H' → tIf (tTest (tOp rEq (tVar 6) (tC (.int 1)))) (tC (.str "one")) (tC (.str "zero")) σ H' Q' := fun Q' H' σ hs hk => by
          refine ⟨_, hs, rfl, _, rfl, ?_⟩
          rw [eq_int]
          cases fi
          · exact iteF hk
          · exact iteT hk
        refine fiT _ _ _ rfl ⟨sz5 (by simp), fun t ht => ⟨sz5 (by simp), fun t2 ht2 => ?_⟩⟩
        have e1 := (Same.new ht (o := .tup [])).trans (Same.new ht2 (o := .tup [.str (pre ++ x ++ firstS), .str (if fi then Op.one else Op.zero).s, .ref t]))
        have hA2 := e1 _ _ hA1
        refine ⟨A, xs ++ us, _, rfl, rfl, hA2, sz5' (by rw [List.length_append]; omega), ?_⟩
        obtain ⟨hA3, rus3⟩ := gates_snoc hA2 (rus.ex e1) (rep_gate (x := pre ++ x ++ firstS) (o := if fi then Op.one else Op.zero) (args := []) upd_same (Rep.ofStrs (l := []) (Same.new ht2 _ _ upd_same)))
        have ek3 := (ek.trans e1.keep).updA (.lst (xs ++ us ++ [.ref t2]))
        have hR3 : upd (upd (upd H1 t (.tup [])) t2 (.tup [.str (pre ++ x ++ firstS), .str (if fi then Op.one else Op.zero).s, .ref t])) A (.lst (xs ++ us ++ [.ref t2])) R = some (.lst ys) := by rw [upd_ne (Ne.symm hAR)]; exact e1 _ _ hR1
        refine ⟨_, rfl, .inl ⟨rfl, _, SqL.of hA3⟩, ?_⟩
        refine rd_jc (a := pre ++ x) (c := clearS) rfl (by omega) (rd_j2 (a := pre) (b := z) rfl rfl (by omega) ⟨_, rfl, rd_jc (a := pre ++ x) (c := firstS) rfl (by omega) ⟨sz5 (by simp), fun t3 ht3 => ⟨sz5 (by simp), fun t4 ht4 => ?_⟩⟩⟩)
        have e2 := (Same.new ht3 (o := .tup [.str (pre ++ z), .str src, .str (pre ++ x ++ firstS)])).trans (Same.new ht4 (o := .tup [.str (pre ++ x ++ clearS), .str "mux", .ref t3]))
        have hA4 := e2 _ _ hA3
        refine ⟨A, xs ++ (us ++ [V.ref t2]), V.ref t4, rfl, rfl, hA4, sz5' (by rw [List.length_append, List.length_append]; simp; omega), ?_⟩
        obtain ⟨hA5, rus5⟩ := gates_snoc hA4 (rus3.ex e2) (rep_gate (x := pre ++ x ++ clearS) (o := .mux) (args := [pre ++ z, src, pre ++ x ++ firstS]) upd_same (Rep.ofStrs (l := [pre ++ z, src, pre ++ x ++ firstS]) (Same.new ht4 _ _ upd_same)))
        have ek5 := (ek3.trans e2.keep).updA (.lst (xs ++ (us ++ [.ref t2]) ++ [.ref t4]))
        refine rd_jc (a := pre ++ x) (c := clearS) rfl (by omega) (fin _ _ _ _ ek5 hA5 (by rw [upd_ne (Ne.symm hAR)]; exact e2 _ _ hR3) rus5 ?_ rfl)
        rw [hgs, hsrc, List.append_assoc]
        rfl
    refine ⟨_, rfl, rfl, _, rfl, ?_⟩
    rw [isnon_o]
    cases wh with
    | none => exact iteF (key2 (pre ++ sg) H [] [] (by omega) Keep.refl (by rw [List.append_nil]; exact hA) hR .nil (by simp) rfl rfl)
    | some z =>
      have lz : z.length ≤ 300 := hsg z (by show z ∈ sg :: ([z] ++ cl.toList); simp)
      refine iteT ⟨_, rfl, .inl ⟨rfl, _, SqL.of hA⟩, ?_⟩
      refine rd_jc (a := pre ++ x) (c := holdS) rfl (by omega) (rd_j2 (a := pre) (b := z) rfl rfl (by omega) ⟨_, rfl, _, rfl, sz5 (by simp), fun t3 ht3 => ⟨sz5 (by simp), fun t4 ht4 => ?_⟩⟩)
      have e2 := (Same.new ht3 (o := .tup [.str (pre ++ z), .str (pre ++ x), .str (pre ++ sg)])).trans (Same.new ht4 (o := .tup [.str (pre ++ x ++ holdS), .str "mux", .ref t3]))
      have hA4 := e2 _ _ hA
      refine ⟨A, xs, _, rfl, rfl, hA4, sz5' (by omega), ?_⟩
      obtain ⟨hA5, rus5⟩ := gates_snoc (us := []) (gs := []) (xs := xs) (by rw [List.append_nil]; exact hA4) .nil (rep_gate (x := pre ++ x ++ holdS) (o := .mux) (args := [pre ++ z, pre ++ x, pre ++ sg]) upd_same (Rep.ofStrs (l := [pre ++ z, pre ++ x, pre ++ sg]) (Same.new ht4 _ _ upd_same)))
      rw [List.append_nil] at hA5 rus5
      refine rd_jc (a := pre ++ x) (c := holdS) rfl (by omega) (key2 _ _ _ _ (by rw [len_app]; omega) (e2.keep.updA _) hA5 (by rw [upd_ne (Ne.symm hAR)]; exact e2 _ _ hR) rus5 (by simp) rfl rfl)
end
end Wi
set_option maxHeartbeats 4000000
set_option maxRecDepth 100000
namespace Wi
open PySem L2 PySem.Spec PyProof.Rows
theorem sig_len {ds : List Mod} (D : DOk ds) {i : Nat} {m : Mod} (hm : ds[i]? = some m) : ∀ it ∈ m.items, ∀ s ∈ it.sgs, s.length ≤ 300 := by
  intro it hit s hs
  have ok := D.ok i m hm
  have h := ok.sig it hit s hs
  unfold Mod.sigs at h
  rcases List.mem_append.mp h with h | h
  · have : s ∈ m.decl := by
      unfold Mod.plain at h
      unfold Mod.decl
      rcases List.mem_append.mp h with q | q
      · exact List.mem_append_left _ q
      · obtain ⟨j, hj, rfl⟩ := List.mem_map.mp q
        exact List.mem_append_right _ (List.mem_map_of_mem (List.mem_filter.mp hj).1)
    have := name_len (ok.dclN s this)
    omega
  · obtain ⟨j, hj, hsj⟩ := List.mem_flatMap.mp h
    cases j with
    | gate => cases hsj
    | reg => cases hsj
    | use x md sg =>
      cases e : modAt (ds.take i) md with
      | none =>
        have : Item.ports (ds.take i) (.use x md sg) = [] := by
          show (match modAt (ds.take i) md with
            | some u => u.outs.map fun o => x ++ dotS ++ o
            | none => []) = []
          rw [e]
        rw [this] at hsj
        cases hsj
      | some u =>
        rw [ports_some e] at hsj
        obtain ⟨o, ho, rfl⟩ := List.mem_map.mp hsj
        have h1 := (D.nm m (List.mem_of_getElem? hm)).it _ hj
        have h1' : x.length ≤ 100 := h1
        obtain ⟨q, _, hq⟩ := mod_ix e
        have h2 := (D.nm u (List.mem_of_getElem? hq)).out o ho
        rw [len_app, len_app, len_dot]
        omega
theorem item_len {ds : List Mod} (D : DOk ds) {i : Nat} {m : Mod} (hm : ds[i]? = some m) : ∀ it ∈ m.items, it.nm.length ≤ 8 := fun it hit =>
  name_len ((D.ok i m hm).dclN _ (List.mem_append_right _ (List.mem_map_of_mem hit)))
theorem flat_take_le {α β : Type} (f : α → List β) {l : List α} {j : Nat} {x : α} (h : l[j]? = some x) : ((l.take j).flatMap f).length + (f x).length ≤ (l.flatMap f).length := by
  have h1 : l.flatMap f = (l.take (j + 1)).flatMap f ++ (l.drop (j + 1)).flatMap f := by rw [← List.flatMap_append, List.take_append_drop]
  rw [h1, take_succ h, List.flatMap_append]
  simp
section
variable {P : Program} {w : World} {K : PySem.W.Frag} {mg : Str → Option Value} {base : Heap}
theorem sc_visit : FnScope ["module", "prefix", "modules", "gates", "regs", "item", "wire", "signal", "used", "port"] ["module", "prefix", "modules", "gates", "regs"] (defScope (top 43)) :=
  ⟨rfl, rfl, rfl, by decide +kernel, rfl, by decide +kernel, by decide +kernel⟩
def spVisit (k : Nat) : Sp := fun vs H Q _ => ∃ (vm : V) (pre : S) (d A R : Addr) (ds : List Mod) (i : Nat) (m : Mod) (xs ys : List V), vs = [vm, .str pre, .ref d, .ref A, .ref R] ∧ Rep H m.d vm ∧ MDl H d ds ∧ DOk ds ∧ ds[i]? = some m ∧ i < k ∧ A ≠ R ∧ H A = some (.lst xs) ∧ H R = some (.lst ys) ∧
  xs.length + (visG ds k m pre).length ≤ 60000 ∧ ys.length + (visR ds k m pre).length ≤ 60000 ∧ pre.length + 400 * i ≤ 10000 ∧
  ∀ H' us ws, Keep A R H H' → H' A = some (.lst (xs ++ us)) → H' R = some (.lst (ys ++ ws)) → RepL H' ((visG ds k m pre).map Gate.d) us → RepL H' ((visR ds k m pre).map Reg.d) ws → Q .non H'
theorem MDl.keep {H H' : Hp} {d A R : Addr} {ds : List Mod} (h : MDl H d ds) (e : Keep A R H H') {xs ys : List V} (hA : H A = some (.lst xs)) (hR : H R = some (.lst ys)) : MDl H' d ds := by
  obtain ⟨f, h1, h2, h3⟩ := h.ex
  exact ⟨f, h1.keep e hA hR, h2, fun x u hu => let ⟨v, a, b⟩ := h3 x u hu; ⟨v, a, b.tx (e.tx hA hR)⟩⟩
theorem cal_visit0 (F : Df K mg "visit" "visit" 43) : Cal P w K mg base CX0 2 "visit" ["module", "prefix", "modules", "gates", "regs"] (spVisit 0) := by
  refine F.cal sc_visit (fun vs H Q E h => ?_) (fun _ _ _ _ _ _ us hl => match us, hl with | [_, _, _, _, _], _ => rfl) (fun f cdv A outer s H vs Q E hr h => ?_)
  · obtain ⟨_, _, _, _, _, _, _, _, _, _, rfl, _⟩ := h
    rfl
  · obtain ⟨_, _, _, _, _, _, _, _, _, _, _, _, _, _, _, h, _⟩ := h
    exact absurd h (Nat.not_lt_zero _)
theorem cal_visit_succ (F : Df K mg "visit" "visit" 43) (B : Bl mg) (C_add_reg : Cal P w K mg base CX0 1 "add_reg" ["item", "prefix", "gates", "regs"] spAddR) (k0 : Nat) (C_visit : Cal P w K mg base CX0 (2 + k0) "visit" ["module", "prefix", "modules", "gates", "regs"] (spVisit k0)) : Cal P w K mg base CX0 (2 + k0 + 1) "visit" ["module", "prefix", "modules", "gates", "regs"] (spVisit (k0 + 1)) := by
  have C_add_reg := C_add_reg.mono (show 1 ≤ 2 + k0 by omega)
  refine F.cal sc_visit (fun vs H Q E h => ?_) (fun _ _ _ _ _ _ us hl => match us, hl with | [_, _, _, _, _], _ => rfl) (fun f cdv A_ outer s H vs Q E hr h => ?_)
  · obtain ⟨_, _, _, _, _, _, _, _, _, _, rfl, _⟩ := h
    rfl
  · obtain ⟨vm, pre, d, A, R, ds, i, m, xs, ys, rfl, rv, md, D, hm, hik, hAR, hA, hR, hgz, hrz, hpre, k⟩ := h
    refine ⟨_, (pss_one (ps_for PassesOwn.never rfl (pi_tup (pe_ix (r := rIxT K) ix_tup (pv 0) pe_int (fun _ _ => rfl))) (pg_name (i := 5) sc_visit.nd rfl (Or.inl rfl))
        (pss_cons (ps_set (i := 6) sc_visit.nd rfl (Or.inl rfl) (pe_joined (.cons (pe_fmt (pv 1)) (.cons (pe_fmt (pe_ix (r := rIxT K) ix_tup (pv 5) pe_int (fun _ _ => rfl))) .nil))))
        (pss_one (ps_if (pt_cmpR op_eq (pe_ix (r := rIxT K) ix_tup (pv 5) pe_int (fun _ _ => rfl)) pe_str (nomark _))
          (pss_one (ps_expr (pe_bm PySem.F.plainAttrs_list PySem.F.slot_list_append PySem.F.type_list_append mt_append (pv 3) (pa_cons (pe_tup (pa_cons (pv 6) (pa_cons (pe_ix (r := rIxT K) ix_tup (pv 5) pe_int (fun _ _ => rfl)) (pa_cons (pe_callTy call_tuple_of rfl B.tuple (by decide +kernel) (pa_cons (pe_lc (own := [("signal", 7)]) rfl sc_visit.nd (pi_tup (pe_ix (r := rIxT K) ix_tup (pv 5) pe_int (fun _ _ => rfl))) (blkOk_by (N := ["module", "prefix", "modules", "gates", "regs", "item", "wire", "signal", "used", "port"]) (sc := defScope (top 43)) (own := [("signal", 7)]) (by decide +kernel)) (fun _ _ _ _ _ => (pg_name (i := 7) sc_visit.nd rfl (Or.inl rfl))) (fun _ _ _ _ _ => pts_nil) (fun _ _ _ _ _ => (pe_joined (.cons (pe_fmt (pv 1)) (.cons (pe_fmt (pv 7)) .nil))))) pa_nil)) pa_nil)))) pa_nil))))
          (pss_one (ps_if (pt_cmpR op_eq (pe_ix (r := rIxT K) ix_tup (pv 5) pe_int (fun _ _ => rfl)) pe_str (nomark _))
            (pss_one (ps_expr (pe_callC C_add_reg (hr.mono (Nat.le_refl _)) rfl pass0 (pa_cons (pv 5) (pa_cons (pv 1) (pa_cons (pv 3) (pa_cons (pv 4) pa_nil)))))))
            (pss_cons (ps_set (i := 8) sc_visit.nd rfl (Or.inl rfl) (pe_dget (hu_of hr) (pv 2) (pe_ix (r := rIxT K) ix_tup (pv 5) pe_int (fun _ _ => rfl)) (fun _ _ => rfl)))
            (pss_cons (ps_for PassesOwn.never rfl (RZ.pi_zipA rfl B.zip (pa_cons (pe_ix (r := rIxT K) ix_tup (pv 8) pe_int (fun _ _ => rfl)) (pa_cons (pe_ix (r := rIxT K) ix_tup (pv 5) pe_int (fun _ _ => rfl)) pa_nil))) (pg_tup rfl (pgs_cons (pg_name (i := 9) sc_visit.nd rfl (Or.inl rfl)) (pgs_cons (pg_name (i := 7) sc_visit.nd rfl (Or.inl rfl)) pgs_nil)))
              (pss_one (ps_expr (pe_bm PySem.F.plainAttrs_list PySem.F.slot_list_append PySem.F.type_list_append mt_append (pv 3) (pa_cons (pe_tup (pa_cons (pe_joined (.cons (pe_fmt (pv 6)) (.cons pe_str (.cons (pe_fmt (pv 9)) .nil)))) (pa_cons pe_str (pa_cons (pe_tup (pa_cons (pe_joined (.cons (pe_fmt (pv 1)) (.cons (pe_fmt (pv 7)) .nil))) pa_nil)) pa_nil)))) pa_nil)))))
            (pss_one (ps_expr (pe_callC C_visit hr rfl pass0 (pa_cons (pv 8) (pa_cons (pe_joined (.cons (pe_fmt (pv 6)) (.cons pe_str .nil))) (pa_cons (pv 2) (pa_cons (pv 3) (pa_cons (pv 4) pa_nil))))))))))))))))), ?_⟩
    have ok := D.ok i m hm
    have hsl := sig_len D hm
    have hil := item_len D hm
    obtain ⟨p, p1, p2, p3, us0, rfl, hp, h1, h2, h3, ru, lu⟩ := rv.modT
    have hgv : visG ds (k0 + 1) m pre = m.items.flatMap (itemG ds (visG ds k0) pre) := rfl
    have hrv : visR ds (k0 + 1) m pre = m.items.flatMap (itemR ds (visR ds k0) pre) := rfl
    rw [hgv] at hgz k
    rw [hrv] at hrz k
    have nA : ∀ {a : Addr} {zs : List V}, H a = some (.tup zs) → a ≠ A := fun h z => by rw [z, hA] at h; cases h
    have nR : ∀ {a : Addr} {zs : List V}, H a = some (.tup zs) → a ≠ R := fun h z => by rw [z, hR] at h; cases h
    refine ⟨_, rfl, p, _, _, _, rfl, rfl, SqT.of hp, rfl, p3, rfl, ⟨_, SqT.of h3⟩, ?_⟩
    refine for_it (walk_tup (xs := us0)) (fun j σ H' => Keep A R H H' ∧ (∃ us ws, H' A = some (.lst (xs ++ us)) ∧ H' R = some (.lst (ys ++ ws)) ∧ RepL H' (((m.items.take j).flatMap (itemG ds (visG ds k0) pre)).map Gate.d) us ∧ RepL H' (((m.items.take j).flatMap (itemR ds (visR ds k0) pre)).map Reg.d) ws) ∧ ∃ o5 o6 o8 o9 o7, σ = [some (.ref p), some (.str pre), some (.ref d), some (.ref A), some (.ref R), o5, o6, o7, o8, o9])
      ⟨Keep.refl, ⟨[], [], by rw [List.append_nil]; exact hA, by rw [List.append_nil]; exact hR, .nil, .nil⟩, _, _, _, _, _, rfl⟩ (fun j σ H' _ h => SqT.of (h.1 _ _ h3 (nA h3) (nR h3))) ?_ ?_
    · rintro j y σ _ H1 hj ⟨ek, ⟨us, ws, hA1, hR1, rus, rws⟩, o5, o6, o8, o9, o7, rfl⟩ ⟨rfl, hy⟩
      obtain ⟨it, hit, rit0⟩ := ru.at hy
      have him := List.mem_of_getElem? hit
      have rit := rit0.tx (ek.tx hA hR)
      have lus := rus.len
      have lws := rws.len
      rw [List.length_map] at lus lws
      have bg := flat_take_le (itemG ds (visG ds k0) pre) hit
      have br := flat_take_le (itemR ds (visR ds k0) pre) hit
      have hx8 := hil it him
      have hxs := hsl it him
      obtain ⟨q, a, b, r, rfl, hq⟩ := rit.itemT
      have lpx := len_app pre it.nm
      -- what comes next
      have nxt : ∀ (H2 : Hp) (us2 ws2 : List V) (o8' o9' o7' : Option V), Keep A R H H2 → H2 A = some (.lst (xs ++ (us ++ us2))) → H2 R = some (.lst (ys ++ (ws ++ ws2))) → RepL H2 (((m.items.take j).flatMap (itemG ds (visG ds k0) pre)).map Gate.d) us → RepL H2 (((m.items.take j).flatMap (itemR ds (visR ds k0) pre)).map Reg.d) ws →
          RepL H2 ((itemG ds (visG ds k0) pre it).map Gate.d) us2 → RepL H2 ((itemR ds (visR ds k0) pre it).map Reg.d) ws2 → Keep A R H H2 ∧ (∃ us ws, H2 A = some (.lst (xs ++ us)) ∧ H2 R = some (.lst (ys ++ ws)) ∧ RepL H2 (((m.items.take (j + 1)).flatMap (itemG ds (visG ds k0) pre)).map Gate.d) us ∧ RepL H2 (((m.items.take (j + 1)).flatMap (itemR ds (visR ds k0) pre)).map Reg.d) ws) ∧ ∃ p5 p6 p8 p9 p7, ([some (.ref p), some (.str pre), some (.ref d), some (.ref A), some (.ref R), some (.ref q), some (.str (pre ++ it.nm)), o7', o8', o9'] : L2.St) = [some (.ref p), some (.str pre), some (.ref d), some (.ref A), some (.ref R), p5, p6, p7, p8, p9] := by
        intro H2 us2 ws2 o8' o9' o7' e2 a2 b2 c2 d2 f2 g2
        refine ⟨e2, ⟨us ++ us2, ws ++ ws2, a2, b2, ?_, ?_⟩, _, _, _, _, _, rfl⟩
        · rw [take_succ hit, List.flatMap_append, List.map_append]
          exact c2.app (by simpa using f2)
        · rw [take_succ hit, List.flatMap_append, List.map_append]
          exact d2.app (by simpa using g2)
      refine ⟨_, rfl, .inl ⟨pre, rfl, sz5 (by omega), pre, rfl, by rw [S.nil_app]; exact sz5 (by omega), _, rfl, q, _, _, _, rfl, rfl, SqT.of hq, atI_nat (j := 1) rfl, .inl ⟨it.nm, rfl, sz5 (by omega), it.nm, rfl, by rw [S.nil_app]; exact sz5 (by omega), ?_⟩⟩⟩
      rw [S.nil_app]
      refine ⟨_, rfl, q, _, _, _, rfl, rfl, SqT.of hq, atI_nat (j := 0) rfl, rfl, _, rfl, ?_⟩
      cases it with
      | gate x o sg =>
        obtain ⟨q', qs, hqe, hq', hqs⟩ := itemGate rit
        cases hqe
        have bg : ((m.items.take j).flatMap (itemG ds (visG ds k0) pre)).length + 1 ≤ (m.items.flatMap (itemG ds (visG ds k0) pre)).length := bg
        refine ifT kGG ⟨_, rfl, .inl ⟨rfl, _, SqL.of hA1⟩, ?_⟩
        refine ⟨_, rfl, _, rfl, q, _, _, _, rfl, rfl, SqT.of hq', rfl, _, rfl, q, _, _, _, rfl, rfl, SqT.of hq', rfl, qs, rfl, ⟨_, SqT.of hqs⟩, fun L hL => ?_⟩
        have hsg : sg.length ≤ 3 := by
          have : sg.length = o.ar := ok.ok _ him
          rw [this]; exact ar_le o
        refine lc_data (te := fun σ H Q => tJs [tFmt (tVar 1), tFmt (tVar 7)] PySem.Str.empty σ H fun out H1 => Q (.str out) H1) (walk_tup (xs := sg.map V.str)) ((sg.map fun s => pre ++ s).map Wi.D.str) (by rw [List.length_map, List.length_map, List.length_map]) (by rw [List.length_map]; omega) hL (fun H2 e => SqT.of (e _ _ hqs)) ?_ ?_
        · rintro i' z dd _ H2 Q' hi' e ⟨rfl, hz⟩ hd qk
          obtain ⟨c, hc, rfl⟩ := strs_get hz
          rw [List.getElem?_map, List.getElem?_map, hc] at hd
          cases hd
          have := hxs c (List.mem_of_getElem? hc)
          exact ⟨rfl, rd_j2 (a := pre) (b := c) rfl rfl (by omega) (qk _ _ (Same.refl _) (.str _))⟩
        · intro H2 us' e2 hL2 ru'
          rw [ru'.strs] at hL2
          refine ⟨L, _, rfl, .inl ⟨SqL.of hL2, fun t ht => ⟨sz5 (by simp), fun t2 ht2 => ?_⟩⟩⟩
          have e3 := e2.trans ((Same.new ht (o := .tup ((sg.map fun s => pre ++ s).map V.str))).trans (Same.new ht2 (o := .tup [.str (pre ++ x), .str o.s, .ref t])))
          have hA3 := e3 _ _ hA1
          refine ⟨A, xs ++ us, V.ref t2, rfl, rfl, hA3, sz5' (by rw [List.length_append]; omega), ?_⟩
          have tx := (Tx.refl (upd (upd H2 t (.tup ((sg.map fun s => pre ++ s).map V.str))) t2 (.tup [.str (pre ++ x), .str o.s, .ref t]))).mut (o := .lst (xs ++ us ++ [.ref t2])) hA3 fun _ z => nomatch z
          refine nxt _ [.ref t2] [] _ _ _ ((ek.trans e3.keep).updA _) (by rw [upd_same, List.append_assoc]) (by rw [upd_ne (Ne.symm hAR), List.append_nil]; exact e3 _ _ hR1) ((rus.ex e3).tx tx) ((rws.ex e3).tx tx) ?_ .nil
          exact .one (Rep.tx tx (rep_gate (x := pre ++ x) (o := o) (args := sg.map fun s => pre ++ s) upd_same (Rep.ofStrs (Same.new ht2 _ _ upd_same))))
      | reg x fi sg wh cl =>
        obtain ⟨q', hqe, hq'⟩ := itemReg rit
        cases hqe
        have br : ((m.items.take j).flatMap (itemR ds (visR ds k0) pre)).length + 1 ≤ (m.items.flatMap (itemR ds (visR ds k0) pre)).length := br
        refine ifF kRG ⟨_, rfl, q, _, _, _, rfl, rfl, SqT.of hq', rfl, rfl, _, rfl, ifT kRR ?_⟩
        refine ⟨_, rfl, _, rfl, _, rfl, _, rfl, _, pre, A, R, x, sg, fi, wh, cl, xs ++ us, ys ++ ws, rfl, rit, hAR, hA1, hR1, by rw [List.length_append]; omega, by rw [List.length_append]; omega, by omega, (by have : x.length ≤ 8 := hx8; omega), hxs, fun H2 us2 ws2 e2 a2 b2 c2 d2 => ?_⟩
        exact nxt H2 us2 ws2 _ _ _ (ek.trans e2) (by rw [← List.append_assoc]; exact a2) (by rw [← List.append_assoc]; exact b2) (rus.tx (e2.tx hA1 hR1)) (rws.tx (e2.tx hA1 hR1)) c2 d2
      | use x md' sg =>
        obtain ⟨q', qs, hqe, hq', hqs⟩ := itemUse rit
        cases hqe
        have hx8' : x.length ≤ 8 := hx8
        obtain ⟨u, hmd, hsl2⟩ := ok.ok _ him
        have hmd' := modAt_take hmd
        obtain ⟨j', hj', hdj⟩ := mod_ix hmd
        have md1 := md.keep ek hA hR
        obtain ⟨vu, hvu, rvu⟩ := md1.getS hmd'
        obtain ⟨pu, pu1, pu2, pu3, uus, rfl, hpu, hu1, hu2, hu3, ruu, luu⟩ := rvu.modT
        rw [itemG_use hmd', List.length_append] at bg
        rw [itemR_use hmd'] at br
        have lpg : (portG pre x u.ins sg).length = u.ins.length := by unfold portG; rw [List.length_map, List.length_zip, hsl2, Nat.min_self]
        refine ifF kUG ⟨_, rfl, q, _, _, _, rfl, rfl, SqT.of hq', rfl, rfl, _, rfl, ifF kUR ?_⟩
        refine ⟨_, rfl, _, rfl, q, _, _, _, rfl, rfl, SqT.of hq', rfl, d, _, rfl, hvu, ?_⟩
        refine ⟨_, rfl, pu, _, _, _, rfl, rfl, SqT.of hpu, rfl, _, rfl, q, _, _, _, rfl, rfl, SqT.of hq', rfl, pu1, qs, _, _, rfl, .inr ⟨SqT.of hu1, SqT.of hqs, ?_⟩⟩
        have nA1 : ∀ {a : Addr} {zs : List V}, H1 a = some (.tup zs) → a ≠ A := fun h z => by rw [z, hA1] at h; cases h
        have nR1 : ∀ {a : Addr} {zs : List V}, H1 a = some (.tup zs) → a ≠ R := fun h z => by rw [z, hR1] at h; cases h
        refine for_it (walk_zipT (n := u.ins.length) (by rw [List.length_map, List.length_map, hsl2, Nat.min_self])) (fun j2 σ H' => Keep A R H1 H' ∧ (∃ us2, H' A = some (.lst (xs ++ us ++ us2)) ∧ H' R = some (.lst (ys ++ ws)) ∧ RepL H' (((portG pre x u.ins sg).take j2).map Gate.d) us2) ∧ ∃ o7 o9, σ = [some (.ref p), some (.str pre), some (.ref d), some (.ref A), some (.ref R), some (.ref q), some (.str (pre ++ x)), o7, some (.ref pu), o9])
          ⟨Keep.refl, ⟨[], by rw [List.append_nil]; exact hA1, hR1, .nil⟩, _, _, rfl⟩ (fun j2 σ H' _ h => ⟨SqT.of (h.1 _ _ hu1 (nA1 hu1) (nR1 hu1)), SqT.of (h.1 _ _ hqs (nA1 hqs) (nR1 hqs))⟩) ?_ ?_
        · rintro j2 y σ H2 H3 hj2 ⟨e2, ⟨us2, hA2, hR2, rus2⟩, o7, o9, rfl⟩ ⟨T, a1, b1, rfl, hT, rfl, ha1, hb1⟩
          obtain ⟨pt, hpt, rfl⟩ := strs_get ha1
          obtain ⟨sgn, hsgn, rfl⟩ := strs_get hb1
          have hpt8 : pt.length ≤ 8 := name_len ((D.ok j' u hdj).dclN _ (List.mem_append_left _ (List.mem_of_getElem? hpt)))
          have hsg3 := hxs sgn (List.mem_of_getElem? hsgn)
          have e3 := Same.new hT (o := .tup [.str pt, .str sgn])
          have hA3 := e3 _ _ hA2
          have l2 := rus2.len
          rw [List.length_map, List.length_take, lpg] at l2
          have hpx : (pre ++ x).length = pre.length + x.length := len_app pre x
          refine ⟨T, _, rfl, SqT.of upd_same, rfl, _, _, rfl, _, _, rfl, rfl, ?_⟩
          refine ⟨_, rfl, .inl ⟨rfl, _, SqL.of hA3⟩, rd_jcj (a := pre ++ x) (c := dotS) (b := pt) rfl rfl (by rw [len_dot]; omega) (rd_j2 (a := pre) (b := sgn) rfl rfl (by omega) ⟨sz5 (by simp), fun t ht => ⟨sz5 (by simp), fun t2 ht2 => ?_⟩⟩)⟩
          have e4 := e3.trans ((Same.new ht (o := .tup [.str (pre ++ sgn)])).trans (Same.new ht2 (o := .tup [.str (pre ++ x ++ dotS ++ pt), .str "buf", .ref t])))
          have hA4 := e4 _ _ hA2
          refine ⟨A, xs ++ us ++ us2, V.ref t2, rfl, rfl, hA4, sz5' (by rw [List.length_append, List.length_append]; omega), ?_⟩
          have hgt : (portG pre x u.ins sg)[j2]? = some ⟨pre ++ x ++ dotS ++ pt, .buf, [pre ++ sgn]⟩ := by
            unfold portG
            have hz : (u.ins.zip sg)[j2]? = some (pt, sgn) := by
              rw [List.getElem?_zip_eq_some]
              exact ⟨hpt, hsgn⟩
            rw [List.getElem?_map, hz]
            rfl
          have tx := (Tx.refl (upd (upd (upd H2 T (.tup [.str pt, .str sgn])) t (.tup [.str (pre ++ sgn)])) t2 (.tup [.str (pre ++ x ++ dotS ++ pt), .str "buf", .ref t]))).mut (o := .lst (xs ++ us ++ us2 ++ [.ref t2])) hA4 fun _ z => nomatch z
          refine ⟨(e2.trans e4.keep).updA _, ⟨us2 ++ [.ref t2], by rw [upd_same, List.append_assoc (xs ++ us)], by rw [upd_ne (Ne.symm hAR)]; exact e4 _ _ hR2, ?_⟩, _, _, rfl⟩
          rw [take_succ hgt, List.map_append]
          exact (((rus2.ex e4).snoc (rep_gate (x := pre ++ x ++ dotS ++ pt) (o := .buf) (args := [pre ++ sgn]) upd_same (Rep.ofStrs (l := [pre ++ sgn]) (Same.new ht2 _ _ upd_same)))).tx tx)
        · rintro σ H2 ⟨e2, ⟨us2, hA2, hR2, rus2⟩, o7, o9, rfl⟩
          rw [show u.ins.length = (portG pre x u.ins sg).length from lpg.symm, List.take_length] at rus2
          have l2 := rus2.len
          rw [List.length_map, lpg] at l2
          have hpx : (pre ++ x).length = pre.length + x.length := len_app pre x
          refine ⟨_, rfl, rd_jc (a := pre ++ x) (c := dotS) rfl (by rw [len_dot]; omega) ⟨_, rfl, _, rfl, _, rfl, _, pre ++ x ++ dotS, d, A, R, ds, j', u, xs ++ us ++ us2, ys ++ ws, rfl, rvu.tx (e2.tx hA1 hR1), md1.keep e2 hA1 hR1, D, hdj, by omega, hAR, hA2, hR2, by rw [List.length_append, List.length_append]; omega, by rw [List.length_append]; omega, by rw [len_app, len_dot]; omega, fun H3 us3 ws3 e3 a3 b3 c3 d3 => ?_⟩⟩
          have e13 := e2.trans e3
          refine nxt H3 (us2 ++ us3) ws3 _ _ _ (ek.trans e13) (by rw [a3]; simp only [List.append_assoc]) (by rw [b3, List.append_assoc]) (rus.tx (e13.tx hA1 hR1)) (rws.tx (e13.tx hA1 hR1)) ?_ ?_
          · rw [itemG_use hmd', List.map_append]
            exact (rus2.tx (e3.tx hA2 hR2)).app c3
          · rw [itemR_use hmd']
            exact d3
    · rintro σ H1 ⟨ek, ⟨us, ws, hA1, hR1, rus, rws⟩, o5, o6, o8, o9, o7, rfl⟩
      rw [lu, List.take_length] at rus rws
      exact k H1 us ws ek hA1 hR1 rus rws
theorem cal_visit (F : Df K mg "visit" "visit" 43) (B : Bl mg) (C_add_reg : Cal P w K mg base CX0 1 "add_reg" ["item", "prefix", "gates", "regs"] spAddR) : ∀ k, Cal P w K mg base CX0 (2 + k) "visit" ["module", "prefix", "modules", "gates", "regs"] (spVisit k)
  | 0 => cal_visit0 F
  | k + 1 => cal_visit_succ F B C_add_reg k (cal_visit F B C_add_reg k)
end
end Wi
set_option maxHeartbeats 4000000
set_option maxRecDepth 100000
namespace Wi
open PySem L2 PySem.Spec PyProof.Rows NdefX
section
variable {P : Program} {w : World} {K : PySem.W.Frag} {mg : Str → Option Value} {base : Heap} {CX : CXT}
/-- UnknownName.__init__ -/
def spUN (C : Addr) : Sp := fun vs H Q _ => ∃ (a : Addr) (t : Str), vs = [.ref a, .str t] ∧ H a = some (exo a C none) ∧ t.length ≤ 300 ∧ ∀ d, H d = none → d ≠ a → Q .non (upd (upd H d (exd d [("name", .str t)])) a (exo a C (some d)))
theorem fn_UN {C cc c fI : Addr} {fd : FuncData} (T : SupC P K "__init__" "UnknownName.__init__" (defArgs (ctop 9 0)) (defBody (ctop 9 0)) (defScope (ctop 9 0)) C cc c fI fd) (hm : mg "super" = none) (hno : PySem.W.findIn K (.ref C) "name" = some none) :
    FnOk P w K mg base CX 1 fI fd ["self", "name"] (spUN C) := by
  refine fn_sup (N := ["self", "name", "__class__"]) (k := 0) T hm (nscope_by (by decide +kernel)) rfl rfl rfl rfl rfl (fun _ => rfl) (fun _ => rfl) (fun _ => rfl) ?_ ?_
  · rintro vs H Q E ⟨a, t, rfl, _⟩
    rfl
  · rintro A outer s H vs Q E hr ⟨a, t, rfl, ha, ht, k⟩
    refine ⟨_, _, a, rfl, ha, (pe_joined (.cons pe_str (.cons (pe_fmt (pv 1)) .nil))), (pss_one (ps_ost (pv 0) (pv 1))), ?_⟩
    refine ⟨_, rfl, sz5 (by decide), _, rfl, .inl ⟨t, rfl, sz5 (by omega), t, rfl, sz_app (by rw [S.nil_app, show PySem.Str.length (Str.ofString "unknown name: ") = 14 from by decide]; omega), ha, ?_⟩⟩
    exact ⟨_, rfl, _, rfl, a, C, rfl, T.ox, hno, .inl ⟨ha, fun d hd hda => k d hd hda⟩⟩
/-- TooLarge.__init__ -/
def spTL (C : Addr) : Sp := fun vs H Q _ => ∃ (a : Addr), vs = [.ref a, .str "gates", .int 200] ∧ H a = some (exo a C none) ∧ ∀ d H1, H d = none → d ≠ a → H1 = upd (upd H d (exd d [("what", .str "gates")])) a (exo a C (some d)) → Q .non (upd H1 d (exd d [("most", .int 200), ("what", .str "gates")]))
theorem fn_TL {C cc c fI : Addr} {fd : FuncData} (T : SupC P K "__init__" "TooLarge.__init__" (defArgs (ctop 10 0)) (defBody (ctop 10 0)) (defScope (ctop 10 0)) C cc c fI fd) (hm : mg "super" = none) (hno : PySem.W.findIn K (.ref C) "what" = some none) (hno2 : PySem.W.findIn K (.ref C) "most" = some none) :
    FnOk P w K mg base CX 1 fI fd ["self", "what", "most"] (spTL C) := by
  refine fn_sup (N := ["self", "what", "most", "__class__"]) (k := 0) T hm (nscope_by (by decide +kernel)) rfl rfl rfl rfl rfl (fun _ => rfl) (fun _ => rfl) (fun _ => rfl) ?_ ?_
  · rintro vs H Q E ⟨a, rfl, _⟩
    rfl
  · rintro A outer s H vs Q E hr ⟨a, rfl, ha, k⟩
    refine ⟨_, _, a, rfl, ha, (pe_joined (.cons (pe_fmt (pv 1)) (.cons pe_str (.cons (pe_fmt (pv 2)) .nil)))), (pss_cons (ps_ost (pv 0) (pv 1)) (pss_one (ps_ost (pv 0) (pv 2)))), ?_⟩
    refine ⟨_, rfl, .inl ⟨_, rfl, sz5 (by decide), _, rfl, sz5 (by decide), _, rfl, sz5 (by decide), _, rfl, .inr ⟨200, rfl, by decide, _, rfl, sz5 (by decide), ha, ?_⟩⟩⟩
    refine ⟨_, rfl, _, rfl, a, C, rfl, T.ox, hno, .inl ⟨ha, fun d hd hda => ?_⟩⟩
    refine ⟨_, rfl, _, rfl, a, C, rfl, T.ox, hno2, .inr ⟨d, _, upd_same, (by rw [upd_ne hda, upd_same]), (by show 1 ≤ 900; decide), k d _ hd hda rfl⟩⟩
end
end Wi
set_option maxHeartbeats 4000000
set_option maxRecDepth 100000
namespace Wi
open PySem L2 PySem.Spec PyProof.Rows NdefX
/-- what the written part says of UnknownName -/
structure UNC (K : PySem.W.Frag) (mg : Str → Option Value) (C : Addr) : Prop where
  ex : ∃ cc c fI fd, (∀ P : Program, P = PySem.Challenge.pw_wirewatch_k95_whole_flat_and_rewritten → SupC P K "__init__" "UnknownName.__init__" (defArgs (ctop 9 0)) (defBody (ctop 9 0)) (defScope (ctop 9 0)) C cc c fI fd) ∧
    PySem.W.findIn K (.ref C) "__init__" = some (some (.ref fI)) ∧ PySem.W.typeIn K (.ref fI) = some (.type "function") ∧ Binds K fd ["self", "name"] []
  gl : mg "UnknownName" = some (.ref C)
  sup : mg "super" = none
  no : PySem.W.findIn K (.ref C) "name" = some none
/-- what the written part says of TooLarge -/
structure TLC (K : PySem.W.Frag) (mg : Str → Option Value) (C : Addr) : Prop where
  ex : ∃ cc c fI fd, (∀ P : Program, P = PySem.Challenge.pw_wirewatch_k95_whole_flat_and_rewritten → SupC P K "__init__" "TooLarge.__init__" (defArgs (ctop 10 0)) (defBody (ctop 10 0)) (defScope (ctop 10 0)) C cc c fI fd) ∧
    PySem.W.findIn K (.ref C) "__init__" = some (some (.ref fI)) ∧ PySem.W.typeIn K (.ref fI) = some (.type "function") ∧ Binds K fd ["self", "what", "most"] []
  gl : mg "TooLarge" = some (.ref C)
  sup : mg "super" = none
  no : PySem.W.findIn K (.ref C) "what" = some none
  no2 : PySem.W.findIn K (.ref C) "most" = some none
section
variable {X : Cx} {C : Addr} {ta : TA} {e : Expr} {es : List Expr} {p pos : Pos}
theorem pmk_un (U : UNC X.K X.mg C) (hP : X.prog = PySem.Challenge.pw_wirewatch_k95_whole_flat_and_rewritten) (hr : Room 2 X.A) (hg : Gl X "UnknownName") (ha : PA X (e :: es) ta)
    (he : starEach (e :: es) X.env = (false, eval e X.env) :: starEach es X.env := by rfl) (hpl : (backTo pos (starEach es X.env)).any (·.1) = false := by rfl) :
    PMk X (.Call (.Name "UnknownName" p) (e :: es) [] pos) (tMkO C (spUN C) [] ta) := by
  obtain ⟨cc, c, fI, fd, h1, h2, h3, h4⟩ := U.ex
  exact pmk_oex (h1 _ hP).ox h2 h3 (fn_UN (CX := CX0) (h1 _ hP) U.sup U.no) hr h4 .nil pass0 hg U.gl ha (by decide) he hpl
theorem pmk_tl (U : TLC X.K X.mg C) (hP : X.prog = PySem.Challenge.pw_wirewatch_k95_whole_flat_and_rewritten) (hr : Room 2 X.A) (hg : Gl X "TooLarge") (ha : PA X (e :: es) ta)
    (he : starEach (e :: es) X.env = (false, eval e X.env) :: starEach es X.env := by rfl) (hpl : (backTo pos (starEach es X.env)).any (·.1) = false := by rfl) :
    PMk X (.Call (.Name "TooLarge" p) (e :: es) [] pos) (tMkO C (spTL C) [] ta) := by
  obtain ⟨cc, c, fI, fd, h1, h2, h3, h4⟩ := U.ex
  exact pmk_oex (h1 _ hP).ox h2 h3 (fn_TL (CX := CX0) (h1 _ hP) U.sup U.no U.no2) hr h4 .nil pass0 hg U.gl ha (by decide) he hpl
end
/-- UnknownName(t) in flight -/
def unkE (C : Addr) (t : S) (H : Hp) (E : XK) : Prop := ∀ d H', Same H H' → H' d = some (.xd [("name", .str t)]) → E (.ref C) (some d) H'
def lrgE (C : Addr) (H : Hp) (E : XK) : Prop := ∀ d H', Same H H' → H' d = some (.xd [("most", .int 200), ("what", .str "gates")]) → E (.ref C) (some d) H'
theorem exo_same {H H2 : Hp} {a d : Addr} {o : HO} (ha : H a = none) (hd : H d = none) (h : ∀ b, b ≠ a → b ≠ d → H2 b = H b) : Same H (upd (del H2 a) d o) := fun b u e => by
  have h1 : b ≠ a := fun z => by rw [z, ha] at e; cases e
  have h2 : b ≠ d := fun z => by rw [z, hd] at e; cases e
  rw [upd_ne h2, del_ne h1, h b h1 h2]
  exact e
theorem un_end {C : Addr} {H : Hp} {t : S} {Q : XK} (ht : t.length ≤ 300) (k : unkE C t H Q) : ([V.str t] : List V).length ≤ 1000 ∧ ∀ a, H a = none → spUN C (.ref a :: ([V.str t] ++ [])) (upd H a (exo a C none))
    (fun v H2 => v = .non ∧ ∃ (d : Addr) (fs : List (Str × V)), H2 a = some (exo a C (some d)) ∧ H2 d = some (exd d fs) ∧ H d = none ∧ Q (.ref C) (some d) (upd (del H2 a) d (.xd fs))) (fun _ _ _ => False) := by
  refine ⟨by show 1 ≤ 1000; decide, fun a ha => ⟨a, t, rfl, upd_same, ht, fun d hd hda => ⟨rfl, d, _, upd_same, by rw [upd_ne hda, upd_same], by rwa [upd_ne hda] at hd, k d _ (exo_same ha (by rwa [upd_ne hda] at hd) fun b hb hb2 => by rw [upd_ne hb, upd_ne hb2, upd_ne hb]) upd_same⟩⟩⟩
theorem tl_end {C : Addr} {H : Hp} {Q : XK} (k : lrgE C H Q) : ([V.str "gates", V.int 200] : List V).length ≤ 1000 ∧ ∀ a, H a = none → spTL C (.ref a :: ([V.str "gates", V.int 200] ++ [])) (upd H a (exo a C none))
    (fun v H2 => v = .non ∧ ∃ (d : Addr) (fs : List (Str × V)), H2 a = some (exo a C (some d)) ∧ H2 d = some (exd d fs) ∧ H d = none ∧ Q (.ref C) (some d) (upd (del H2 a) d (.xd fs))) (fun _ _ _ => False) := by
  refine ⟨by show 2 ≤ 1000; decide, fun a ha => ⟨a, rfl, upd_same, fun d H1 hd hda e1 => ?_⟩⟩
  subst e1
  exact ⟨rfl, d, _, by rw [upd_ne (Ne.symm hda), upd_same], upd_same, by rwa [upd_ne hda] at hd, k d _ (exo_same ha (by rwa [upd_ne hda] at hd) fun b hb hb2 => by rw [upd_ne hb2, upd_ne hb, upd_ne hb2, upd_ne hb]) upd_same⟩
section
variable {P : Program} {w : World} {K : PySem.W.Frag} {mg : Str → Option Value} {base : Heap}
/-- THE RULE of a def that may raise -/
theorem Df.calX {g x : Str} {i k : Nat} {N ps : List Str} {sp : Sp} (D : Df K mg g x i) (S : FnScope N ps (defScope (top i))) (len : ∀ vs H Q E, sp vs H Q E → vs.length = ps.length)
    (hb : ∀ (kV doc pm : Value) (an : Option Addr) (cdv ct : Value) (us : List Value), us.length = ps.length → bindArgs (PySem.W.fnOf x x (defArgs (top i)) (defBody (top i)) (defScope (top i)) .none kV doc pm an cdv ct) ⟨us, []⟩ = pure (ps.zip us))
    (hbody : ∀ (f : Addr) (cdv : Value) (A : Around) (outer : List Env) (s : Shared) (H : Hp) (vs : List V) (Q : VK) (E : XK), Room k (A.deeper (envOfC x (defScope (top i)) s.heap.objs.size f cdv)) → sp vs H Q E →
      ∃ t, PSs (cxOf (L2.CX P w) P w K mg base N x (defScope (top i)) f cdv A outer s H E) (defBody (top i)) t ∧ t { nx := fun _ H' => Q .non H', rt := Q } (start N vs) H) : Cal P w K mg base (L2.CX P w) (k + 1) g ps sp := by
  obtain ⟨f, fd, F, hg⟩ := D.ex
  exact ⟨f, fd, F.ok S len fun cdv A outer s H vs Q E hr h => hbody f cdv A outer s H vs Q E hr h, hg, F.kp, F.bindsN hb⟩
theorem DfK.calX {g x : Str} {i k : Nat} {kws : List (Str × V)} {N ps : List Str} {sp : Sp} (D : DfK K mg g x i kws) (S : FnScope N ps (defScope (top i))) (len : ∀ vs H Q E, sp vs H Q E → vs.length = ps.length)
    (hbody : ∀ (f : Addr) (cdv : Value) (A : Around) (outer : List Env) (s : Shared) (H : Hp) (vs : List V) (Q : VK) (E : XK), Room k (A.deeper (envOfC x (defScope (top i)) s.heap.objs.size f cdv)) → sp vs H Q E →
      ∃ t, PSs (cxOf (L2.CX P w) P w K mg base N x (defScope (top i)) f cdv A outer s H E) (defBody (top i)) t ∧ t { nx := fun _ H' => Q .non H', rt := Q } (start N vs) H) : CalF P w K mg base (L2.CX P w) (k + 1) g x i kws ps sp := by
  obtain ⟨f, fd, F, hg⟩ := D.ex
  exact ⟨f, fd, F, F.ok S len fun cdv A outer s H vs Q E hr h => hbody f cdv A outer s H vs Q E hr h, hg⟩
end
section
variable {w : World} {K : PySem.W.Frag} {mg : Str → Option Value} {base : Heap}
/-- the top that is meant -/
def selT (ds : List Mod) : Option S → Option S
  | none => ds.getLast?.map (·.nm)
  | some t => if t ∈ ds.map (·.nm) then some t else none
theorem sc_top_name : FnScope ["design", "top", "module"] ["design", "top"] (defScope (top 39)) :=
  ⟨rfl, rfl, rfl, by decide +kernel, rfl, by decide +kernel, by decide +kernel⟩
def spTop (CU : Addr) : Sp := fun vs H Q E => ∃ (ds : List Mod) (v : V) (o : Option S), vs = [v, oV o] ∧ Rep H (desD ds) v ∧ ds ≠ [] ∧ (∀ t, o = some t → t.length ≤ 300) ∧ (∀ m H', Same H H' → selT ds o = some m → Q (.str m) H') ∧ (∀ t, o = some t → t ∉ ds.map (·.nm) → unkE CU t H E)
theorem cal_top_name {CU : Addr} (F : Df K mg "top_name" "top_name" 39) (B : Bl mg) (U : UNC K mg CU) : Cal PySem.Challenge.pw_wirewatch_k95_whole_flat_and_rewritten w K mg base (L2.CX PySem.Challenge.pw_wirewatch_k95_whole_flat_and_rewritten w) 3 "top_name" ["design", "top"] (spTop CU) := by
  refine F.calX sc_top_name (fun vs H Q E h => ?_) (fun _ _ _ _ _ _ us hl => match us, hl with | [_, _], _ => rfl) (fun f cdv A outer s H vs Q E hr h => ?_)
  · obtain ⟨_, _, _, rfl, _⟩ := h
    rfl
  · obtain ⟨ds, v, o, rfl, rv, hne, ho, k1, k2⟩ := h
    refine ⟨_, (pss_cons (ps_if (pt_cmpR op_isN (pv 1) pe_non (nomark _))
        (pss_cons (ps_if (pt_cmpR op_eq (pe_callB call_len_seq rfl B.len PySem.boot_len (pa_cons (pv 0) pa_nil)) pe_int (nomark _))
          pss_never
          pss_nil)
        (pss_one (ps_ret (pe_ix (r := rIxT K) ix_tup (pe_ix (r := rIxT K) ix_tup (pv 0) (pe_un un_neg pe_int) (fun _ _ => rfl)) pe_int (fun _ _ => rfl)))))
        pss_nil)
      (pss_cons (ps_for (passes_of rfl) rfl (pi_tup (pv 0)) (pg_name (i := 2) sc_top_name.nd rfl (Or.inl rfl))
        (pss_one (ps_if (pt_cmpR op_eq (pe_ix (r := rIxT K) ix_tup (pv 2) pe_int (fun _ _ => rfl)) (pv 1) (nomark _))
          (pss_one (ps_ret (pv 1)))
          pss_nil)))
      (pss_one (ps_raise rfl (takes_of rfl rfl rfl rfl) (pmk_un U rfl (hr.mono (by decide)) rfl (pa_cons (pv 1) pa_nil)))))), ?_⟩
    obtain ⟨p, us, rfl, hp, ru⟩ := rv.eTup
    have lu := ru.len
    rw [List.length_map] at lu
    have hl0 : 0 < ds.length := List.length_pos_iff.mpr hne
    have hu0 : 0 < us.length := by omega
    cases o with
    | none =>
      obtain ⟨m, hm⟩ : ∃ m, ds.getLast? = some m := Option.isSome_iff_exists.mp (by rw [List.getLast?_isSome]; exact hne)
      have hix : ds[ds.length - 1]? = some m := by rw [← List.getLast?_eq_getElem?]; exact hm
      obtain ⟨u, hu, rvu⟩ := ru.get (i := ds.length - 1) (d := m.d) (by rw [List.getElem?_map, hix]; rfl)
      obtain ⟨q, p1, p2, p3, ws, rfl, hq, h1, h2, h3, rw', lw⟩ := rvu.modT
      refine ⟨_, rfl, rfl, _, rfl, ifT rfl ?_⟩
      refine ⟨_, rfl, p, us, rfl, .inr (SqT.of hp), rfl, _, rfl, ifF (decide_eq_false fun z => by have := V.int.inj z; omega) ?_⟩
      have hat : atI us (-1) = some (V.ref q) := by
        unfold atI
        rw [show ixN us.length (-1) = some (us.length - 1) from by unfold ixN; rw [if_neg (by decide), if_pos (by omega)]; congr 1; omega]
        show us[us.length - 1]? = _
        rw [← lu]
        exact hu
      exact ⟨_, rfl, _, rfl, p, us, _, _, rfl, rfl, SqT.of hp, hat, q, _, _, _, rfl, rfl, SqT.of hq, rfl, k1 _ H (Same.refl H) (by unfold selT; rw [hm]; rfl)⟩
    | some t =>
      refine ⟨_, rfl, rfl, _, rfl, ifF rfl ?_⟩
      refine ⟨_, rfl, p, rfl, ⟨_, SqT.of hp⟩, for_it (walk_tup (xs := us)) (fun i σ H' => H' = H ∧ t ∉ (ds.take i).map (·.nm) ∧ ∃ o3, σ = [some (.ref p), some (.str t), o3]) ⟨rfl, by simp, _, rfl⟩ (fun i σ H' _ h => by rw [h.1]; exact SqT.of hp) ?_ ?_⟩
      · rintro i y σ _ H1 hi ⟨e1, hno, o3, rfl⟩ ⟨rfl, hy⟩
        subst e1
        obtain ⟨m, hm, rvm⟩ := ru.at hy
        obtain ⟨q, p1, p2, p3, ws, rfl, hq, h1, h2, h3, rw', lw⟩ := rvm.modT
        refine ⟨_, rfl, q, _, _, _, rfl, rfl, SqT.of hq, rfl, _, rfl, rfl, _, rfl, ?_⟩
        rw [eq_str]
        by_cases z : m.nm = t
        · refine ifT (decide_eq_true z) ⟨_, rfl, k1 _ _ (Same.refl _) ?_⟩
          exact if_pos (List.mem_map.mpr ⟨m, List.mem_of_getElem? hm, z⟩)
        · refine ifF (decide_eq_false z) ⟨rfl, ?_, _, rfl⟩
          rw [take_succ hm, List.map_append, List.mem_append]
          rintro (c | c)
          · exact hno c
          · exact z (List.mem_singleton.mp c).symm
      · rintro σ H1 ⟨e1, hno, o3, rfl⟩
        subst e1
        rw [← lu, List.take_length] at hno
        exact ⟨_, rfl, un_end (ho t rfl) (k2 t rfl hno)⟩
end
end Wi
set_option maxHeartbeats 4000000
set_option maxRecDepth 100000
namespace Wi
open PySem L2 PySem.Spec PyProof.Rows NdefX
/-! ### sizes -/
theorem itemSz_congr {ds : List Mod} {f g : Mod → Nat} {it : Item} (h : ∀ x md sg u, it = .use x md sg → modAt ds md = some u → f u = g u) : itemSz ds f it = itemSz ds g it := by
  cases it with
  | gate => rfl
  | reg => rfl
  | use x md sg =>
    show (match modAt ds md with
      | some u => u.ins.length + f u
      | none => 0) = (match modAt ds md with
      | some u => u.ins.length + g u
      | none => 0)
    cases e : modAt ds md with
    | none => rfl
    | some u => show u.ins.length + f u = u.ins.length + g u; rw [h x md sg u rfl e]
theorem sizeV_fuel {ds : List Mod} (D : DesOk ds) : ∀ (k i : Nat) (m : Mod), i < k → ds[i]? = some m → sizeV ds (k + 1) m = sizeV ds k m
  | 0, i, m, h, _ => absurd h (Nat.not_lt_zero _)
  | k + 1, i, m, h, hm => by
    show (m.items.map (itemSz ds (sizeV ds (k + 1)))).sum = (m.items.map (itemSz ds (sizeV ds k))).sum
    congr 1
    refine List.map_congr_left fun it hi => itemSz_congr fun x md sg u e hu => ?_
    subst e
    obtain ⟨u', hu', _⟩ := (D i m hm).ok _ hi
    obtain ⟨j, hj, hju⟩ := mod_ix hu'
    have := (modAt_take hu').symm.trans hu
    cases this
    exact sizeV_fuel D k j u (by omega) hju
theorem itemSz_take {ds : List Mod} {i : Nat} {f : Mod → Nat} {it : Item} (h : ItemOk (ds.take i) it) : itemSz (ds.take i) f it = itemSz ds f it := by
  cases it with
  | gate => rfl
  | reg => rfl
  | use x md sg =>
    obtain ⟨u, hu, _⟩ := h
    show (match modAt (ds.take i) md with
      | some u => u.ins.length + f u
      | none => 0) = (match modAt ds md with
      | some u => u.ins.length + f u
      | none => 0)
    rw [hu, modAt_take hu]
theorem des_nodup {ds : List Mod} (D : DesOk ds) : ∀ (i j : Nat) (m u : Mod), i < j → ds[i]? = some m → ds[j]? = some u → m.nm ≠ u.nm := fun i j m u h hm hu z => by
  have h1 := (D j u hu).nmNew
  have : m ∈ ds.take j := List.mem_of_getElem? (i := i) (by rw [List.getElem?_take, if_pos h]; exact hm)
  exact h1 (z ▸ List.mem_map_of_mem this)
theorem modAt_nm {ds : List Mod} (D : DesOk ds) {i : Nat} {m : Mod} (hm : ds[i]? = some m) : modAt ds m.nm = some m := by
  cases e : modAt ds m.nm with
  | none =>
    have := List.find?_eq_none.mp e m (List.mem_of_getElem? hm)
    simp at this
  | some u =>
    obtain ⟨hu, he⟩ := modAt_some e
    obtain ⟨j, hj⟩ := List.mem_iff_getElem?.mp hu
    rcases Nat.lt_trichotomy i j with c | c | c
    · exact absurd he.symm (des_nodup D i j m u c hm hj)
    · rw [c, hj] at hm; exact hm
    · exact absurd he (des_nodup D j i u m c hj hm)
theorem modAt_snoc (ds : List Mod) (m : Mod) (x : S) : modAt (ds ++ [m]) x = (modAt ds x).or (if m.nm = x then some m else none) := by
  unfold modAt
  rw [List.find?_append]
  congr 1
  by_cases e : m.nm = x <;> simp [e]
theorem sum_cast {α : Type} (f : α → Nat) (l : List α) : (l.map fun x => ((f x : Nat) : Int)).sum = (((l.map f).sum : Nat) : Int) := by
  induction l with
  | nil => rfl
  | cons a r ih => rw [List.map_cons, List.map_cons, List.sum_cons, List.sum_cons, ih]; omega
/-- the module that is meant -/
def selM (ds : List Mod) : Option S → Option Mod
  | none => ds.getLast?
  | some t => modAt ds t
theorem selM_mem {ds : List Mod} {o : Option S} {m : Mod} (h : selM ds o = some m) : ∃ i : Nat, ds[i]? = some m := by
  cases o with
  | none => exact List.mem_iff_getElem?.mp (List.mem_of_getLast? h)
  | some t => exact List.mem_iff_getElem?.mp (modAt_some h).1
theorem selT_M {ds : List Mod} (D : DesOk ds) {o : Option S} {x : S} (h : selT ds o = some x) : ∃ (m : Mod) (i : Nat), selM ds o = some m ∧ ds[i]? = some m ∧ m.nm = x := by
  cases o with
  | none =>
    obtain ⟨m, h1, h2⟩ := Option.map_eq_some_iff.mp (show ds.getLast?.map (·.nm) = some x from h)
    obtain ⟨i, hi⟩ := selM_mem (o := none) h1
    exact ⟨m, i, h1, hi, h2⟩
  | some t =>
    have h' : (if t ∈ ds.map (·.nm) then some t else none) = some x := h
    by_cases c : t ∈ ds.map (·.nm)
    · rw [if_pos c] at h'
      cases h'
      obtain ⟨m, hm, e⟩ := List.mem_map.mp c
      obtain ⟨i, hi⟩ := List.mem_iff_getElem?.mp hm
      have := modAt_nm D hi
      rw [e] at this
      exact ⟨m, i, this, hi, e⟩
    · rw [if_neg c] at h'
      cases h'
section
variable {w : World} {K : PySem.W.Frag} {mg : Str → Option Value} {base : Heap}
theorem sc_flat_size : FnScope ["design", "top", "chosen", "modules", "sizes", "module", "name", "item"] ["design", "top"] (defScope (top 41)) :=
  ⟨rfl, rfl, rfl, by decide +kernel, rfl, by decide +kernel, by decide +kernel⟩
def spFSize (CU : Addr) : Sp := fun vs H Q E => ∃ (ds : List Mod) (v : V) (o : Option S), vs = [v, oV o] ∧ Rep H (desD ds) v ∧ DOk ds ∧ ds ≠ [] ∧ (∀ t, o = some t → t.length ≤ 300) ∧ (∀ m H', Same H H' → selM ds o = some m → Q (.int (sizeV ds 10 m : Nat)) H') ∧ (∀ t H', Same H H' → o = some t → t ∉ ds.map (·.nm) → unkE CU t H' E)
theorem cal_flat_size {CU : Addr} (F : DfK K mg "flat_size" "flat_size" 41 [("top", .non)]) (B : Bl mg) (C_check_design : Cal PySem.Challenge.pw_wirewatch_k95_whole_flat_and_rewritten w K mg base CX0 6 "check_design" ["design"] (spDes rNonD)) (C_item_size : Cal PySem.Challenge.pw_wirewatch_k95_whole_flat_and_rewritten w K mg base CX0 1 "item_size" ["item", "modules", "sizes"] spISize)
    (C_top_name : Cal PySem.Challenge.pw_wirewatch_k95_whole_flat_and_rewritten w K mg base (L2.CX PySem.Challenge.pw_wirewatch_k95_whole_flat_and_rewritten w) 3 "top_name" ["design", "top"] (spTop CU)) : CalF PySem.Challenge.pw_wirewatch_k95_whole_flat_and_rewritten w K mg base (L2.CX PySem.Challenge.pw_wirewatch_k95_whole_flat_and_rewritten w) 7 "flat_size" "flat_size" 41 [("top", .non)] ["design", "top"] (spFSize CU) := by
  refine F.calX sc_flat_size (fun vs H Q E h => ?_) (fun f cdv A outer s H vs Q E hr h => ?_)
  · obtain ⟨_, _, _, rfl, _⟩ := h
    rfl
  · obtain ⟨ds, v, o, rfl, rv, hd, hne, ho, k1, k2⟩ := h
    refine ⟨_, (pss_cons (ps_expr (pe_callC C_check_design (hr.mono (by decide)) rfl pass0 (pa_cons (pv 0) pa_nil)))
      (pss_cons (ps_set (i := 2) sc_flat_size.nd rfl (Or.inl rfl) (pe_callC (E := E) C_top_name (hr.mono (by decide)) rfl (passes_call (takes_of rfl rfl rfl rfl) (fun _ _ _ _ h => h)) (pa_cons (pv 0) (pa_cons (pv 1) pa_nil))))
      (pss_cons (ps_set (i := 3) sc_flat_size.nd rfl (Or.inr rfl) pe_dnewK)
      (pss_cons (ps_set (i := 4) sc_flat_size.nd rfl (Or.inr rfl) pe_dnewK)
      (pss_cons (ps_for (passes_of rfl) rfl (pi_tup (pv 0)) (pg_name (i := 5) sc_flat_size.nd rfl (Or.inl rfl))
        (pss_cons (ps_set (i := 6) sc_flat_size.nd rfl (Or.inl rfl) (pe_ix (r := rIxT K) ix_tup (pv 5) pe_int (fun _ _ => rfl)))
        (pss_cons (ps_dput (hu_of hr) (pv 4) (pv 6) (pe_callB (cr_sum rfl) rfl B.sum (by decide +kernel) (pa_cons (pe_lc (own := [("item", 7)]) rfl sc_flat_size.nd (pi_tup (pe_ix (r := rIxT K) ix_tup (pv 5) pe_int (fun _ _ => rfl))) (blkOk_by (N := ["design", "top", "chosen", "modules", "sizes", "module", "name", "item"]) (sc := defScope (top 41)) (own := [("item", 7)]) (by decide +kernel)) (fun _ _ _ _ _ => (pg_name (i := 7) sc_flat_size.nd rfl (Or.inl rfl))) (fun _ _ _ _ _ => pts_nil) (fun _ _ _ _ _ => (pe_callC C_item_size (hr.mono (by decide)) rfl pass0 (pa_cons (pv 7) (pa_cons (pv 3) (pa_cons (pv 4) pa_nil)))))) pa_nil)) rfl)
        (pss_one (ps_dput (hu_of hr) (pv 3) (pv 6) (pv 5) rfl)))))
      (pss_one (ps_ret (pe_dget (hu_of hr) (pv 4) (pv 2) (fun _ _ => rfl))))))))), ?_⟩
    obtain ⟨p, us, rfl, hp, ru⟩ := rv.eTup
    have lu := ru.len
    rw [List.length_map] at lu
    have hsz := hd.sz
    refine ⟨_, rfl, ds, _, rfl, rv, hd, fun H1 e1 => ?_⟩
    refine ⟨_, rfl, _, rfl, ds, _, o, rfl, rv.ex e1, hne, ho, fun x H2 e2 hx => ?_, fun t ht hn => k2 t H1 e1 ht hn⟩
    obtain ⟨m, i, hsm, him, hnm⟩ := selT_M hd.ok hx
    have e02 := e1.trans e2
    intro d hd0 e he0
    have hde : e ≠ d := fun z => by rw [z, upd_same] at he0; cases he0
    have he2 : H2 e = none := by rwa [upd_ne hde] at he0
    have ee : Same H2 (upd (upd H2 d (.dK [])) e (.dK [])) := (Same.new hd0).mut he2
    refine ⟨_, rfl, p, rfl, ⟨_, SqT.of (ee _ _ (e02 _ _ hp))⟩, ?_⟩
    refine for_it (walk_tup (xs := us)) (fun i σ H' => Same H2 H' ∧ (∃ f, SD H' d (ds.take i).length f ∧ (∀ x, modAt (ds.take i) x = none → f x = none) ∧ ∀ x u, modAt (ds.take i) x = some u → ∃ v, f x = some v ∧ Rep H' u.d v) ∧
      (∃ g, SD H' e (ds.take i).length g ∧ ∀ x u, modAt (ds.take i) x = some u → g x = some (.int (sizeV ds 10 u : Nat))) ∧ ∃ o5 o6 o7, σ = [some (.ref p), some (oV o), some (.str x), some (.ref d), some (.ref e), o5, o6, o7])
      ⟨ee, ⟨_, by simpa using (SD.new.at (upd_ne (Ne.symm hde))), fun _ _ => rfl, fun x u h => by simp [modAt] at h⟩, ⟨_, by simpa using SD.new, fun x u h => by simp [modAt] at h⟩, _, _, _, rfl⟩ (fun i σ H' _ h => SqT.of (h.1 _ _ (e02 _ _ hp))) ?_ ?_
    · rintro j y σ _ H3 hj ⟨e3, hk, hg, o5, o6, o7, rfl⟩ ⟨rfl, hy⟩
      obtain ⟨u, hu, ru3⟩ := ru.at hy
      have ok := hd.ok j u hu
      have hlt : (ds.take j).length ≤ 9 := by rw [List.length_take]; omega
      have e03 := e02.trans e3
      obtain ⟨pm, q1, q2, q3, uus, rfl, hpm, hq1, hq2, hq3, rui, lui⟩ := (ru3.ex e03).modT
      have zi := (hd.nm u (List.mem_of_getElem? hu)).sz.items
      refine ⟨_, rfl, pm, _, _, _, rfl, rfl, SqT.of hpm, rfl, ?_⟩
      refine ⟨_, rfl, pm, _, _, _, rfl, rfl, SqT.of hpm, rfl, q3, rfl, ⟨_, SqT.of hq3⟩, fun L hL => ?_⟩
      refine lc_data (walk_tup (xs := uus)) ((u.items.map fun it => ((itemSz ds (sizeV ds 10) it : Nat) : Int)).map D.int) (by rw [List.length_map, List.length_map]; exact lui.symm) (by omega) hL (fun H4 e4 => SqT.of (e4 _ _ hq3)) ?_ ?_
      · rintro a y dd H4 _ Q4 ha e4 ⟨rfl, hy4⟩ hdd kk
        obtain ⟨it, hit, rit⟩ := (rui.ex e4).at hy4
        rw [List.map_map, List.getElem?_map, hit] at hdd
        cases hdd
        obtain ⟨f0, s1, s2, s3⟩ := hk
        obtain ⟨g0, t1, t2⟩ := hg
        have oki := ok.ok it (List.mem_of_getElem? hit)
        refine ⟨rfl, _, rfl, _, rfl, _, rfl, it, y, d, e, ds.take j, sizeV ds 10, rfl, rit, ⟨f0, (s1.mono (by omega)).same e4, s2, fun x u h => let ⟨v, a, b⟩ := s3 x u h; ⟨v, a, b.ex e4⟩⟩, oki, fun x' u' h' => ?_, ?_⟩
        · have := (t1.same e4).get x'
          rwa [t2 x' u' h'] at this
        · rw [itemSz_take oki]
          exact kk _ _ (Same.refl _) (.int _)
      · intro H4 ws e4 hL4 rws
        obtain rfl := rws.ints
        obtain ⟨f0, s1, s2, s3⟩ := hk
        obtain ⟨g0, t1, t2⟩ := hg
        have e04 := e03.trans e4
        refine ⟨L, _, rfl, SqL.of hL4, ?_⟩
        obtain ⟨kvs, a1, a2, a3⟩ := (t1.same e4).put (by omega) u.nm (.int (u.items.map fun it => ((itemSz ds (sizeV ds 10) it : Nat) : Int)).sum)
        refine ⟨_, rfl, _, rfl, e, _, rfl, a2, ?_⟩
        have e24 : Same H2 H4 := e3.trans e4
        have e25 := e24.mut (o := .dK (putK kvs (Sum.inr u.nm) (.int (u.items.map fun it => ((itemSz ds (sizeV ds 10) it : Nat) : Int)).sum))) he2
        generalize hH5 : upd H4 e (.dK (putK kvs (Sum.inr u.nm) (.int (u.items.map fun it => ((itemSz ds (sizeV ds 10) it : Nat) : Int)).sum))) = H5 at a2 a3 e25 ⊢
        have hd5 : H5 d = H4 d := by rw [← hH5, upd_ne (Ne.symm hde)]
        have tx5 : Tx H4 H5 := by rw [← hH5]; exact (Tx.refl H4).mut a1 fun _ z => nomatch z
        have hlt2 : j < ds.length := by omega
        obtain ⟨kv2, b1, b2, f', c1, c2, c3⟩ := putMDl (n := 0) (v := V.ref pm) ⟨f0, ((s1.mono (by omega)).same e4).at hd5, s2, fun x u h => let ⟨v, a, b⟩ := s3 x u h; ⟨v, a, (b.ex e4).tx tx5⟩⟩ hlt ok.nmNew (((ru3.ex e03).ex e4).tx tx5) ⟨f0, (s1.same e4).at hd5, s2, fun x u h => let ⟨v, a, b⟩ := s3 x u h; ⟨v, a, (b.ex e4).tx tx5⟩⟩
        refine ⟨_, rfl, _, rfl, _, rfl, d, _, rfl, b2, e25.mut hd0, ⟨f', ?_, ?_, ?_⟩, ⟨(fun y => if y = u.nm then some (.int (u.items.map fun it => ((itemSz ds (sizeV ds 10) it : Nat) : Int)).sum) else g0 y), ?_, fun x' u' h' => ?_⟩, _, _, _, rfl⟩
        · rw [take_succ hu]; exact c1
        · rw [take_succ hu]; exact c2
        · rw [take_succ hu]; exact c3
        · rw [take_succ hu, List.length_append]
          exact a3.at (upd_ne hde)
        · rw [take_succ hu, modAt_snoc] at h'
          show (if x' = u.nm then _ else g0 x') = _
          cases hm' : modAt (ds.take j) x' with
          | some u2 =>
            rw [hm'] at h'
            cases h'
            have : ¬ x' = u.nm := fun z => by
              have h7 := modAt_some hm'
              exact ok.nmNew (List.mem_map.mpr ⟨_, h7.1, h7.2.trans z⟩)
            rw [if_neg this]
            exact t2 _ _ hm'
          | none =>
            rw [hm'] at h'
            by_cases q : u.nm = x'
            · rw [show (none : Option Mod).or (if u.nm = x' then some u else none) = some u from by rw [if_pos q]; rfl] at h'
              cases h'
              rw [if_pos q.symm, sum_cast, ← sizeV_fuel hd.ok 10 j u (by omega) hu]
              rfl
            · rw [show (none : Option Mod).or (if u.nm = x' then some u else none) = none from by rw [if_neg q]; rfl] at h'
              cases h'
    · rintro σ H3 ⟨e3, _, ⟨g0, t1, t2⟩, o5, o6, o7, rfl⟩
      have e03 := e02.trans e3
      have hmo : modAt (ds.take us.length) x = some m := by
        rw [← lu, List.take_length, ← hnm]
        exact modAt_nm hd.ok him
      have hg := t1.get x
      rw [t2 x m hmo] at hg
      exact ⟨_, rfl, _, rfl, e, _, rfl, hg, k1 m _ e03 hsm⟩
end
end Wi
set_option maxHeartbeats 4000000
set_option maxRecDepth 100000
namespace Wi
open PySem L2 PySem.Spec PyProof.Rows NdefX
section
variable {X : Cx} {CX : CXT} {k : Nat} {g x : Str} {i : Nat} {kws : List (Str × V)} {ps : List Str} {sp : Sp} {E : XK} {p pos : Pos} {e : Expr} {t tk : TA} {kwE : List Keyword}
/-- f(e, q = v) -/
theorem pe_callT (q : Str) (C : CalF X.prog X.w X.K X.mg X.base CX k g x i kws ps sp) (hkws : kws ≠ []) (hr : Room k X.A) (hg : Gl X g) (hx : Passes CX X E)
    (hb : ∀ (D : Addr) (doc pm : Value) (an : Option Addr) (cdv ct : Value) (us ws : List Value), us.length = 1 → ws.length = 1 → bindArgs (PySem.W.fnOf x x (defArgs (top i)) (defBody (top i)) (defScope (top i)) .none (.ref D) doc pm an cdv ct) ⟨us, [q].zip ws⟩ = pure (ps.zip (us ++ ws)))
    (ha : PA X [e] t) (hkw : PK X kwE tk) (hall : (backToKw pos (keywordEach kwE X.env)).all (·.1.isSome) = true := by rfl) (hks : (backToKw pos (keywordEach kwE X.env)).filterMap (·.1) = [q] := by rfl)
    (hdb : (g == ("__debug__" : Str)) = false := by decide) (he : starEach [e] X.env = (false, eval e X.env) :: starEach [] X.env := by rfl)
    (hpl : ((backTo pos (starEach [e] X.env)).any (·.1) || (backToKw pos (keywordEach kwE X.env)).any (·.1.isNone)) = false := by rfl) :
    PE X (.Call (.Name g p) [e] kwE pos) (tCallN 1 1 sp (fun vs zs => vs ++ zs) E t tk) := pe_callF C hkws hr hg hx 1 [q] hb ha hkw hall hks hdb he hpl
end
section
variable {w : World} {K : PySem.W.Frag} {mg : Str → Option Value} {base : Heap}
theorem sc_flatten : FnScope ["design", "top", "modules", "module", "chosen", "gates", "regs"] ["design", "top"] (defScope (top 44)) :=
  ⟨rfl, rfl, rfl, by decide +kernel, rfl, by decide +kernel, by decide +kernel⟩
def spFlat (CU CT : Addr) : Sp := fun vs H Q E => ∃ (ds : List Mod) (v : V) (o : Option S), vs = [v, oV o] ∧ Rep H (desD ds) v ∧ DOk ds ∧ ds ≠ [] ∧ (∀ t, o = some t → t.length ≤ 300) ∧
  (∀ m v' H', Same H H' → selM ds o = some m → sizeV ds 10 m ≤ 200 → Rep H' (flatN ds 10 m).d v' → Q v' H') ∧ (∀ m H', Same H H' → selM ds o = some m → 200 < sizeV ds 10 m → lrgE CT H' E) ∧ (∀ t H', Same H H' → o = some t → t ∉ ds.map (·.nm) → unkE CU t H' E)
theorem cal_flatten {CU CT : Addr} (F : DfK K mg "flatten" "flatten" 44 [("top", .non)]) (B : Bl mg) (G : GC K w mg) (UT : TLC K mg CT) (C_flat_size : CalF PySem.Challenge.pw_wirewatch_k95_whole_flat_and_rewritten w K mg base (L2.CX PySem.Challenge.pw_wirewatch_k95_whole_flat_and_rewritten w) 7 "flat_size" "flat_size" 41 [("top", .non)] ["design", "top"] (spFSize CU))
    (C_top_name : Cal PySem.Challenge.pw_wirewatch_k95_whole_flat_and_rewritten w K mg base (L2.CX PySem.Challenge.pw_wirewatch_k95_whole_flat_and_rewritten w) 3 "top_name" ["design", "top"] (spTop CU)) (C_visit : Cal PySem.Challenge.pw_wirewatch_k95_whole_flat_and_rewritten w K mg base CX0 12 "visit" ["module", "prefix", "modules", "gates", "regs"] (spVisit 10)) : CalF PySem.Challenge.pw_wirewatch_k95_whole_flat_and_rewritten w K mg base (L2.CX PySem.Challenge.pw_wirewatch_k95_whole_flat_and_rewritten w) 13 "flatten" "flatten" 44 [("top", .non)] ["design", "top"] (spFlat CU CT) := by
  refine F.calX sc_flatten (fun vs H Q E h => ?_) (fun f cdv A outer s H vs Q E hr h => ?_)
  · obtain ⟨_, _, _, rfl, _⟩ := h
    rfl
  · obtain ⟨ds, v, o, rfl, rv, hd, hne, ho, k1, k2, k3⟩ := h
    refine ⟨_, (pss_cons (ps_if (pt_cmpR op_gt (pe_callT (E := E) "top" C_flat_size (by decide) (hr.mono (by decide)) rfl (passes_call (takes_of rfl rfl rfl rfl) (fun _ _ _ _ h => h)) (fun _ _ _ _ _ _ us ws h1 h2 => match us, ws, h1, h2 with | [_], [_], _, _ => rfl) (pa_cons (pv 0) pa_nil) (pk_cons (pv 1) pk_nil)) (pe_globI rfl G.MOST_GATES) (nomark _))
        (pss_one (ps_raise rfl (takes_of rfl rfl rfl rfl) (pmk_tl UT rfl (hr.mono (by decide)) rfl (pa_cons pe_str (pa_cons (pe_globI rfl G.MOST_GATES) pa_nil)))))
        pss_nil)
      (pss_cons (ps_setDc (i := 2) (own := [("module", 3)]) rfl sc_flatten.nd rfl rfl (sw_trueD rfl rfl rfl (by decide +kernel)) (pi_tup (pv 0)) (blkOk_by (N := ["design", "top", "modules", "module", "chosen", "gates", "regs"]) (sc := defScope (top 44)) (own := [("module", 3)]) (by decide +kernel)) (fun _ _ _ _ _ => (pg_name (i := 3) sc_flatten.nd rfl (Or.inl rfl))) (fun _ _ _ _ _ => pts_nil) (fun _ _ _ _ _ => (pe_ix (r := rIxT K) ix_tup (pv 3) pe_int (fun _ _ => rfl))) (fun _ _ _ _ _ => (pv 3)))
      (pss_cons (ps_set (i := 4) sc_flatten.nd rfl (Or.inl rfl) (pe_dget (hu_of hr) (pv 2) (pe_callC (E := E) C_top_name (hr.mono (by decide)) rfl (passes_call (takes_of rfl rfl rfl rfl) (fun _ _ _ _ h => h)) (pa_cons (pv 0) (pa_cons (pv 1) pa_nil))) (fun _ _ => rfl)))
      (pss_cons (ps_set (i := 5) sc_flatten.nd rfl (Or.inl rfl) (pe_lst pa_nil))
      (pss_cons (ps_set (i := 6) sc_flatten.nd rfl (Or.inl rfl) (pe_lst pa_nil))
      (pss_cons (ps_expr (pe_callC C_visit (hr.mono (by decide)) rfl pass0 (pa_cons (pv 4) (pa_cons pe_str (pa_cons (pv 2) (pa_cons (pv 5) (pa_cons (pv 6) pa_nil)))))))
      (pss_one (ps_ret (pe_tup (pa_cons (pe_ix (r := rIxT K) ix_tup (pv 4) pe_int (fun _ _ => rfl)) (pa_cons (pe_callTy call_tuple_of rfl B.tuple (by decide +kernel) (pa_cons (pv 5) pa_nil)) (pa_cons (pe_callTy call_tuple_of rfl B.tuple (by decide +kernel) (pa_cons (pv 6) pa_nil)) (pa_cons (pe_ix (r := rIxT K) ix_tup (pv 4) pe_int (fun _ _ => rfl)) pa_nil))))))))))))), ?_⟩
    obtain ⟨p, us, rfl, hp, ru⟩ := rv.eTup
    have lu := ru.len
    rw [List.length_map] at lu
    have hsz := hd.sz
    refine ⟨_, rfl, _, rfl, rfl, rfl, ds, _, o, rfl, rv, hd, hne, ho, fun m H1 e1 hsm => ?_, fun t H1 e1 ht hn => k3 t H1 e1 ht hn⟩
    obtain ⟨im, him⟩ := selM_mem hsm
    have hil : im < ds.length := by
      obtain ⟨h, _⟩ := List.getElem?_eq_some_iff.mp him
      exact h
    have hso := size_ok hd.ok 10 im m PySem.Str.empty (by omega) him
    refine ⟨_, _, rfl, rfl, _, rfl, ?_⟩
    refine if2 (fun hb => ?_) fun hb => ?_
    · have hgt : 200 < sizeV ds 10 m := by have := of_decide_eq_true hb; omega
      exact tl_end (k2 m H1 e1 hsm hgt)
    have hle : sizeV ds 10 m ≤ 200 := by have := of_decide_eq_false hb; omega
    have hnds : ∀ (j : Nat) (u : Mod), ds[j]? = some u → u.nm ∉ (ds.take j).map (·.nm) := fun j u hu => (hd.ok j u hu).nmNew
    refine ⟨_, rfl, p, rfl, ⟨_, SqT.of (e1 _ _ hp)⟩, fun D hD => ?_⟩
    refine dc_it (walk_tup (xs := us)) (tt := tYes) (fun j H' => Same H1 H' ∧ ∃ f, SD H' D (ds.take j).length f ∧ (∀ x, modAt (ds.take j) x = none → f x = none) ∧ ∀ x u, modAt (ds.take j) x = some u → ∃ v, f x = some v ∧ Rep H' u.d v) ⟨(Same.refl H1).mut hD, _, by simpa using SD.new, fun _ _ => rfl, fun x u h => by simp [modAt] at h⟩ (fun j H' _ h => SqT.of (h.1 _ _ (e1 _ _ hp))) ?_ ?_
    · rintro j y _ H2 hj ⟨e2, hk⟩ ⟨rfl, hy⟩
      obtain ⟨u, hu, ru2⟩ := ru.at hy
      have e02 := e1.trans e2
      obtain ⟨pm, q1, q2, q3, uus, rfl, hpm, hq1, hq2, hq3, rui, lui⟩ := (ru2.ex e02).modT
      obtain ⟨f0, s1, s2, s3⟩ := hk
      have hlt : (ds.take j).length ≤ 9 := by rw [List.length_take]; omega
      obtain ⟨kvs, b1, b2, f', c1, c2, c3⟩ := putMDl (n := 0) (v := V.ref pm) ⟨f0, s1.mono (by omega), s2, s3⟩ hlt (hnds j u hu) (ru2.ex e02) ⟨f0, s1, s2, s3⟩
      have hlen : kvs.length < sizeLine := by
        obtain ⟨kvs', z1, z2, _⟩ := s1.ex
        rw [b1] at z1
        cases z1
        exact sz5' (by omega)
      refine ⟨rfl, _, rfl, pm, _, _, _, rfl, rfl, SqT.of hpm, rfl, _, rfl, kvs, Sum.inr u.nm, rfl, b1, hlen, e2.mut hD, f', ?_, ?_, ?_⟩
      · rw [take_succ hu]; exact c1
      · rw [take_succ hu]; exact c2
      · rw [take_succ hu]; exact c3
    · rintro H2 ⟨e2, f0, s1, s2, s3⟩
      rw [← lu, List.take_length] at s1 s2 s3
      have mdl : MDl H2 D ds := ⟨f0, s1.mono (by omega), s2, s3⟩
      have e02 := e1.trans e2
      refine ⟨_, rfl, _, rfl, _, rfl, ds, _, o, rfl, rv.ex e02, hne, ho, fun x H3 e3 hx => ?_, fun t ht hn => ?_⟩
      · obtain ⟨m', i', hsm', him', hnm⟩ := selT_M hd.ok hx
        have : m' = m := Option.some.inj (hsm'.symm.trans hsm)
        subst this
        obtain ⟨vm, hg, rm⟩ := (mdl.same e3).getS (x := x) (u := m') (by rw [← hnm]; exact modAt_nm hd.ok him)
        refine ⟨D, _, rfl, hg, ?_⟩
        refine ⟨sz5 (by simp), fun A hA => ⟨sz5 (by simp), fun R hR => ?_⟩⟩
        have hAR : A ≠ R := fun z => by rw [← z, upd_same] at hR; cases hR
        have e35 : Same H3 (upd (upd H3 A (.lst [])) R (.lst [])) := (Same.new hA).mut (by rwa [upd_ne (Ne.symm hAR)] at hR)
        refine ⟨_, rfl, _, rfl, _, rfl, _, rfl, vm, PySem.Str.empty, D, A, R, ds, im, m', [], [], rfl, rm.ex e35, (mdl.same e3).same e35, hd, him, by omega, hAR, by rw [upd_ne hAR, upd_same], upd_same, by simp only [List.length_nil]; omega, by simp only [List.length_nil]; omega, by show 0 + 400 * im ≤ 10000; omega, fun H6 us6 ws6 e6 hA6 hR6 r6 w6 => ?_⟩
        have n3 : ∀ {b : Addr} {oo : HO}, H3 b = some oo → b ≠ A ∧ b ≠ R := fun h => ⟨fun z => (by rw [z, hA] at h; cases h), fun z => (by
          have hR3 : H3 R = none := by rwa [upd_ne (Ne.symm hAR)] at hR
          rw [z, hR3] at h; cases h)⟩
        have e36 : Same H3 H6 := fun b oo h => e6 b oo (e35 b oo h) (n3 h).1 (n3 h).2
        have e06 := (e02.trans e3).trans e36
        obtain ⟨pm, q1, q2, q3, uus, rfl, hpm, hq1, hq2, hq3, rui, lui⟩ := (rm.ex e36).modT
        refine ⟨_, rfl, pm, _, _, _, rfl, rfl, SqT.of hpm, atI_nat (j := 1) rfl, ?_⟩
        refine ⟨_, rfl, A, _, rfl, .inl ⟨SqL.of hA6, fun l1 hl1 => ?_⟩⟩
        have e7 := Same.new hl1 (o := .tup us6)
        refine ⟨_, rfl, R, _, rfl, .inl ⟨SqL.of (e7 _ _ hR6), fun l2 hl2 => ?_⟩⟩
        have e8 := Same.new hl2 (o := .tup ws6)
        have e68 := e7.trans e8
        refine ⟨_, rfl, pm, _, _, _, rfl, rfl, SqT.of (e68 _ _ hpm), atI_nat (j := 2) rfl, sz5 (by simp), fun l3 hl3 => ?_⟩
        have e9 := Same.new hl3 (o := .tup [.ref q1, .ref l1, .ref l2, .ref q2])
        have e69 := e68.trans e9
        refine k1 m' _ _ (e06.trans e69) hsm hle ?_
        exact .tup upd_same (.cons (Rep.ofStrs (e69 _ _ hq1)) (.cons (.tup ((e8.trans e9) _ _ upd_same) (r6.ex e69)) (.cons (.tup (e9 _ _ upd_same) (w6.ex e69)) (.cons (Rep.ofStrs (e69 _ _ hq2)) .nil))))
      · cases o with
        | none => cases ht
        | some t' =>
          cases ht
          obtain ⟨h7, h8⟩ := modAt_some (show modAt ds t = some m from hsm)
          exact absurd (List.mem_map.mpr ⟨m, h7, h8⟩) hn
end
end Wi
set_option maxHeartbeats 4000000
set_option maxRecDepth 100000
/-! L11: several clauses `except C as n`; isinstance of a caught exception with fields; calls with keywords that may raise in a try -/
namespace Wi
open PySem L2 PySem.Spec PyProof.Rows
/-- behind a suite the clause's name (slot i) is gone -/
def dropE (D : Ends) (i : Nat) : Ends := { nx := fun σ H => D.nx (σ.set i none) H, rt := D.rt, bk := fun σ H => D.bk (σ.set i none) H, ct := fun σ H => D.ct (σ.set i none) H }
/-- a clause: the class, its name's slot, the suite's reading -/
structure Cla where
  c : Value
  i : Nat
  ts : Addr → Value → Option Addr → TS
def wCla (K : PySem.W.Frag) (W0 : WX) (D : Ends) : List Cla → WX
  | [] => W0
  | q :: r => fun cls d σ H => ∃ b, PySem.W.exmOne K cls q.c = some b ∧ (b = true → ∀ a, H a = none → q.ts a cls d (dropE D q.i) (σ.set q.i (some (.ref a))) H) ∧ (b = false → wCla K W0 D r cls d σ H)
inductive ClaOk (X : Cx) : List ExceptHandler → List Cla → Prop
  | nil : ClaOk X [] []
  | cons {x n : Str} {c : Value} {i : Nat} {ts : Addr → Value → Option Addr → TS} {b0 : Stmt} {suite : List Stmt} {np ps : Pos} {hds : List ExceptHandler} {l : List Cla} (hi : X.N[i]? = some n) (hl : X.env.kindOf n = some .local) (hc : Names X x c)
      (hsu : ∀ (a : Addr) (oe : Obj) (cls : Value) (d : Option Addr) (pn : List (Addr × Obj)), Zc cls d oe → (∃ vs, oe.data = .fields vs) → PSs (X.suite a ((a, oe) :: pn)) (b0 :: suite) (ts a cls d)) (r : ClaOk X hds l) :
      ClaOk X (.ExceptHandler (some (.Name x np)) (some n) (b0 :: suite) ps :: hds) (⟨c, i, ts⟩ :: l)
section
variable {X : Cx} {body : List Stmt} {h0 : ExceptHandler} {hds : List ExceptHandler} {l : List Cla} {pos : Pos} {tb : WX → TS} {W0 : WX}
theorem ps_tryAs (hs : X.stack = X.env :: X.outer) (hf : X.env.frame = some X.env.locals) (hN : X.N.Nodup) (tk : Takes X W0)
    (hb : ∀ (W : WX) (pn : List (Addr × Obj)) (xe : Value → Shared → Prop), Takes (X.tr pn xe) W → PassesOwn (model X.prog X.w) X.A X.env xe → PSs (X.tr pn xe) body (tb W)) (hh : ClaOk X (h0 :: hds) l) :
    PS X (.Try body (h0 :: hds) [] [] pos) (fun D σ H => tb (wCla X.K W0 D l) D σ H) := by
  refine ⟨fun pins s σ H D I h => ?_⟩
  have ok := I.ok
  have hfr : X.A.frames = some (X.env :: X.outer) := by rw [ok.frames, hs]
  refine wpAny_Try_except ?_
  refine wpAny_mono ((hb (wCla X.K W0 D l) (X.pn ++ pins) (fun e s1 => wpAny (model X.prog X.w) X.A (noteFrame e X.env) (fun _ s2 => wpAny (model X.prog X.w) X.A (setFlight e none) (fun _ s3 =>
    wpAny (model X.prog X.w) X.A (handleBy e X.env (h0 :: hds)) (SP X pins D) X.xe s3) X.xe s2) X.xe s1) (fun u s' xx => ?_) PassesOwn.looking).run [] s σ H D (I.toTry _) h) (fun fl s1 q => ?_) (fun e s1 he => he)
  · obtain ⟨a, B, sI, pins', σ1, H1, cls, d, rfl, J', nb, up, sky, na, os, ag, w⟩ := xx
    have J : Inv X pins σ1 H1 sI := J'.ofTry ok
    have sky1 : Sky B (X.env :: X.outer) a (Zc cls d) X.env.locals s'.heap := by rw [← hs]; exact sky
    show wpAny (model X.prog X.w) X.A (noteFrame (.ref a) X.env) _ _ _
    refine Sky.land Zc.steady hfr hf sky1 fun h3 fl3 up3 => ?_
    have J3 : Inv X pins σ1 H1 { s' with heap := h3 } := J.landed nb fl3.1 (up.trans up3) os ag
    obtain ⟨oe3, vs3, he3, hz3, hd3⟩ := fl3.there
    have nfr : a ∉ frs (X.env :: X.outer) := fun hm => by
      obtain ⟨_, o', e', hnf⟩ := fl3.2.2.1.mem hm
      rw [he3] at e'
      cases e'
      exact hnf _ hd3
    have nL : a ≠ X.env.locals := fun z => nfr (List.mem_filterMap.mpr ⟨X.env, List.mem_cons_self, by rw [hf, z]⟩)
    have nF : a ∉ X.fs := fun hm => by
      obtain ⟨e, he, q⟩ := List.mem_filterMap.mp hm
      exact nfr (List.mem_filterMap.mpr ⟨e, List.mem_cons_of_mem _ he, q⟩)
    have S3 := J3.suite he3 hd3 na nL nF
    have go : ∀ {hl : List ExceptHandler} {cl : List Cla}, ClaOk X hl cl → wCla X.K W0 D cl cls d σ1 H1 → wpAny (model X.prog X.w) X.A (handleBy (.ref a) X.env hl) (SP X pins D) X.xe { s' with heap := h3 } := by
      intro hl cl hk
      induction hk with
      | nil =>
        intro w
        refine wpAny_handleBy_nil ?_
        obtain ⟨k1, k2, k3, oe, vs, T, oT, ts', he, hz, hd, h1, hr⟩ := id fl3
        unfold PySem.passOn
        refine wpAny_bind (wpAny_field he hd h1 ?_)
        rw [if_neg (show ¬ ((Value.ref T == Value.none) = true) from by simp)]
        have fin : wpAny (model X.prog X.w) X.A (setFlight (.ref a) X.env.frame) (fun _ s4 => wpAny (model X.prog X.w) X.A (throw (.ref a) : Sem Flow) (SP X pins D) X.xe s4) X.xe { s' with heap := h3 } := by
          rw [hf]
          refine HandSPX.setFlight_upZ fl3 fun h4 hh4 up4 => wpAny_throw (tk _ _ ?_)
          exact ⟨a, B, sI, pins, σ1, H1, cls, d, rfl, J, nb, (up.trans up3).trans up4, .inr (.inr (by rw [hs]; exact hh4)), na, os, ag, w⟩
        first
          | exact wpAny_bind (wpAny_pure (wpAny_bind fin))
          | exact wpAny_bind fin
      | @cons x n c i ts b0 suite np ps hds2 l2 hi hln hc hsu r ih =>
        intro w
        obtain ⟨b, hb1, hyes, hno⟩ := w
        refine wpAny_handleBy_cons (codeAny_handlers_test ?_) (by intro q; cases q)
        have LT : PySem.W.Looks (model X.prog X.w) h3 (typeOf (.ref a)) cls := fun A Q E s k q => wpAny_typeOf_ref (k _ _ he3) (by rw [hz3.1]; exact q)
        have LM := PySem.W.exm_one (M := model X.prog X.w) (J3.kIn) LT hb1
        have test : ∀ {Q : Value → Shared → Prop} {E : Value → Shared → Prop}, Q c { s' with heap := h3 } → wpAny (model X.prog X.w) (X.A.mark (some (.ref a))) (eval (.Name x np) X.env) Q E { s' with heap := h3 } := fun {Q E} q => by
          obtain ⟨hg, hdbg, hm | ⟨hm, hv, hnn⟩⟩ := hc
          · exact ld_glob (X := X.suite a ((a, oe3) :: (X.pn ++ pins))) S3 hg hm q hdbg
          · exact ld_blt (X := X.suite a ((a, oe3) :: (X.pn ++ pins))) S3 hg hm hv q hnn hdbg
        refine test (LM.here ?_)
        cases b with
        | true =>
          refine codeAny_handlers_suite_as ?_
          refine HandSPX.lands_againZ fl3 fun h4 fl4 up4 => ?_
          have J4 : Inv X pins σ1 H1 { s' with heap := h4 } := J.landed nb fl4.1 ((up.trans up3).trans up4) os ag
          obtain ⟨oe4, vs4, he4, hz4, hd4⟩ := fl4.there
          have S4 := J4.suite he4 hd4 na nL nF
          refine store_ok (X := X.suite a ((a, oe4) :: (X.pn ++ pins))) (v := .ref a) S4 hN hi (.inl hln) rfl (fun s5 S5 => ?_) (.inr hln)
          refine wpAny_mono ((hsu a oe4 cls d (X.pn ++ pins) hz4 ⟨_, hd4⟩).run [] s5 _ H1 _ S5 (hyes rfl a na)) (fun fl s6 q => ?_) (fun _ _ z => False.elim z)
          have out : ∀ {σ6 : L2.St} {H6 : Hp} {Q : Shared → Prop}, Inv (X.suite a ((a, oe4) :: (X.pn ++ pins))) [] σ6 H6 s6 → (∀ s7, Inv X pins (σ6.set i none) H6 s7 → Q s7) →
              wpAny (model X.prog X.w) X.A (do bindName X.env n .none; unbindBehindTheSuite X.env n ps) (fun _ s7 => Q s7) X.xe s6 := fun {σ6 H6 Q} S6 hq => gone_ok (S6.unsuite ok) hN hi hln hq
          cases fl with
          | next =>
            obtain ⟨σ6, H6, S6, q6⟩ := q
            exact out S6 fun s7 J7 => ⟨_, _, J7, q6⟩
          | brk =>
            obtain ⟨σ6, H6, S6, q6⟩ := q
            exact out S6 fun s7 J7 => ⟨_, _, J7, q6⟩
          | cont =>
            obtain ⟨σ6, H6, S6, q6⟩ := q
            exact out S6 fun s7 J7 => ⟨_, _, J7, q6⟩
          | ret u =>
            obtain ⟨v6, σ6, H6, S6, r6, q6⟩ := q
            exact out S6 fun s7 J7 => ⟨_, _, _, J7, r6, q6⟩
        | false =>
          show wpAny _ X.A (handleBy (.ref a) X.env hds2) _ _ _
          exact ih (hno rfl)
    exact go hh w
  · cases fl with
    | next =>
      obtain ⟨σ1, H1, J1, q1⟩ := q
      exact wpAny_execs_nil ⟨σ1, H1, J1.ofTry ok, q1⟩
    | brk =>
      obtain ⟨σ1, H1, J1, q1⟩ := q
      exact ⟨σ1, H1, J1.ofTry ok, q1⟩
    | cont =>
      obtain ⟨σ1, H1, J1, q1⟩ := q
      exact ⟨σ1, H1, J1.ofTry ok, q1⟩
    | ret u =>
      obtain ⟨v, σ1, H1, J1, r, q1⟩ := q
      exact ⟨v, σ1, H1, J1.ofTry ok, r, q1⟩
end
/-! ### isinstance of an exception that a suite holds, with fields -/
structure XisC (K : PySem.W.Frag) (D : Addr) : Prop where
  cl : (PySem.W.clsIn K D).isSome = true
  hg : PySem.W.findIn K (.ref D) "__getattribute__" = some (some (.builtin "BaseException.__getattribute__"))
  hk : PySem.W.findIn K (.ref D) "__getattr__" = some none
  hs : PySem.W.subIn K (.ref D) (.type "BaseException") = some true
  ha : PySem.W.findIn K (.ref D) "__class__" = some (some (.builtin "object.__class__"))
  hn : PySem.W.specialIn K (.builtin "object.__class__") "__get__" = some (some (.builtin "getset_descriptor.__get__"))
  ht : PySem.W.takesIn K (.builtin "object.__class__") = some true
  hm : PySem.W.mroIn K D (.type "object") = some true
def rIsX (a : Addr) (cls : Value) (d : Option Addr) (ask : Addr → Addr → Bool → Prop) : List V → Hp → VK → Prop := fun xs H Q => ∃ (D C dd : Addr) (fs : List (Str × V)) (b : Bool), xs = [.ref a, .ref C] ∧ cls = .ref D ∧ d = some dd ∧ H dd = some (.xd fs) ∧ ask D C b ∧ Q (.bl b) H
theorem call_isX {X : Cx} {a : Addr} {oe : Obj} {cls : Value} {d : Option Addr} {pn : List (Addr × Obj)} (hz : Zc cls d oe) (hf : ∃ vs, oe.data = .fields vs) :
    CallR (X.suite a ((a, oe) :: pn)) (.builtin "isinstance") (rIsX a cls d fun D C b => XisC X.K D ∧ PySem.W.kitOne X.K (.ref D) (.ref C) = some b) := by
  intro pins s σ H xs us Q I r h
  obtain ⟨D, C, dd, fs, b, rfl, rfl, rfl, hdd, ⟨T, hk⟩, q⟩ := h
  cases r with
  | cons rx rr =>
    cases rr with
    | cons rt rr =>
      cases rr
      cases rx
      cases rt
      obtain ⟨hget, _⟩ := I.pin (a, oe) (List.mem_append.mpr (.inl List.mem_cons_self))
      obtain ⟨vs, hv⟩ := hf
      have hx : ObjOk X.prog X.w H s.heap dd (.xd fs) := I.hok dd _ hdd
      obtain ⟨mA, hns, hr⟩ := hx
      obtain ⟨od, ho, hl⟩ := lookIn_ns hns
      have J : PySem.W.InstAt s.heap a oe D (some od) := ⟨hget, hz.1, by unfold PySem.W.notCls; rw [hv] <;> rfl, by rw [hz.2]; exact ho⟩
      exact PySem.W.kia_one (PySem.W.kitx_exc T.cl T.hg T.hk T.hs T.ha T.hn T.ht T.hm) I.kIn J hk (fun z => nomatch z) fun tk => ⟨.bl b, H, I.kept (t' := tk) fun _ _ z => z, rfl, q⟩
/-! ### calls of defs with keyword-only parameters, in a try -/
def tCallNS (n m : Nat) (sp : Sp) (gV : List V → List V → List V) (E : L2.St → XK) (t tk : TA) : TE := fun σ H Q => t σ H fun vs H1 => tk σ H1 fun zs H2 => vs.length = n ∧ zs.length = m ∧ sp (gV vs zs) H2 Q (E σ)
section
variable {X : Cx} {CX : CXT} {k : Nat} {g x : Str} {i : Nat} {kws : List (Str × V)} {ps : List Str} {sp : Sp} {E : L2.St → XK} {p pos : Pos} {e : Expr} {es : List Expr} {t tk : TA} {kwE : List Keyword}
theorem pe_callTS (q : Str) (C : CalF X.prog X.w X.K X.mg X.base CX k g x i kws ps sp) (hkws : kws ≠ []) (hr : Room k X.A) (hg : Gl X g) (hx : ∀ σ, PassesAt CX X σ (E σ))
    (hb : ∀ (D : Addr) (doc pm : Value) (an : Option Addr) (cdv ct : Value) (us ws : List Value), us.length = 1 → ws.length = 1 → bindArgs (PySem.W.fnOf x x (defArgs (top i)) (defBody (top i)) (defScope (top i)) .none (.ref D) doc pm an cdv ct) ⟨us, [q].zip ws⟩ = pure (ps.zip (us ++ ws)))
    (ha : PA X [e] t) (hkw : PK X kwE tk) (hall : (backToKw pos (keywordEach kwE X.env)).all (·.1.isSome) = true := by rfl) (hks : (backToKw pos (keywordEach kwE X.env)).filterMap (·.1) = [q] := by rfl)
    (hdb : (g == ("__debug__" : Str)) = false := by decide) (he : starEach [e] X.env = (false, eval e X.env) :: starEach [] X.env := by rfl)
    (hpl : ((backTo pos (starEach [e] X.env)).any (·.1) || (backToKw pos (keywordEach kwE X.env)).any (·.1.isNone)) = false := by rfl) :
    PE X (.Call (.Name g p) [e] kwE pos) (tCallNS 1 1 sp (fun vs zs => vs ++ zs) E t tk) := by
  obtain ⟨f, fd, F, ok, hm⟩ := C.ex
  obtain ⟨mv, kb⟩ := F.kbinds0 (ps := ps) 1 [q] [] (fun us _ ws => us ++ ws) hkws (fun q hq => nomatch hq) (fun r1 _ r3 => r1.append r3) fun D doc pm an cdv ct us mv ws l1 l2 l3 => by
    have : mv = [] := List.length_eq_zero_iff.mp l2
    subst this
    exact hb D doc pm an cdv ct us ws l1 l3
  refine ⟨fun pins s σ H Q I h => ?_⟩
  refine wpAny_Call_Name_kw (ld_glob I hg hm ?_ hdb)
  refine PySem.W.callWith_KW (h₀ := X.base) I.ok.mod.kin F.kp hall (thn (ha.run pos pins s σ H _ I h) fun us s1 ⟨vs, H1, I1, r, q1⟩ => ?_) hpl he
  refine thn (hkw.run pos pins s1 σ H1 _ I1 q1) fun ws s2 ⟨zs, H2, I2, rz, l1, l2, q2⟩ => ⟨I2.kIn, ?_⟩
  rw [hks]
  have r2 := kb.rel r rz
  refine wpAny_call (codeAny_mono (ok.run X.A X.stack s2 H2 ⟨us, [q].zip ws⟩ _ _ Q (E σ) hr I2.env0 (kb.to s2 us ws I2.kIn (r.length.symm.trans l1) (rz.length.symm.trans l2)) r2 q2) fun r s' hq => ?_)
  cases r with
  | error e => exact hx σ pins H2 s2 e s' I2 hq
  | ok fl =>
    cases fl with
    | ret u => exact I2.after hq
    | next => exact False.elim hq
    | brk => exact False.elim hq
    | cont => exact False.elim hq
theorem pe_callDS (C : CalF X.prog X.w X.K X.mg X.base CX k g x i kws ps sp) (hkws : kws ≠ []) (hr : Room k X.A) (hg : Gl X g) (hx : ∀ σ, PassesAt CX X σ (E σ)) (hn : 1 + kws.length = ps.length)
    (hb : ∀ (D : Addr) (doc pm : Value) (an : Option Addr) (cdv ct : Value) (us ks : List Value), us.length = 1 → ks.length = kws.length →
      KwChain D ((kws.map (·.1)).zip ks) (bindArgs (PySem.W.fnOf x x (defArgs (top i)) (defBody (top i)) (defScope (top i)) .none (.ref D) doc pm an cdv ct) ⟨us, []⟩) (ps.zip (us ++ ks)))
    (ha : PA X [e] t) (hdb : (g == ("__debug__" : Str)) = false := by decide) (he : starEach [e] X.env = (false, eval e X.env) :: starEach [] X.env := by rfl) (hpl : (backTo pos (starEach ([] : List Expr) X.env)).any (·.1) = false := by rfl) :
    PE X (.Call (.Name g p) [e] [] pos) (tCallSD sp (kws.map (·.2)) E t) := by
  obtain ⟨f, fd, F, ok, hm⟩ := C.ex
  obtain ⟨ds, rd, bn⟩ := F.binds0 (ps := ps) 1 hkws hn hb
  exact pe_callSD ok hr hg hm F.kp bn rd hx ha hdb he hpl
end
end Wi
set_option maxHeartbeats 4000000
set_option maxRecDepth 100000
namespace Wi
open PySem L2 PySem.Spec PyProof.Rows
/-! V1: the law's store: mix, store, take, pick, chance, some -/
/-- kept but at a -/
def Kp (a : Addr) (H H' : Hp) : Prop := ∀ b o, H b = some o → b ≠ a → H' b = some o
theorem Kp.refl {a : Addr} {H : Hp} : Kp a H H := fun _ _ h _ => h
theorem Kp.trans {a : Addr} {H H1 H2 : Hp} (x : Kp a H H1) (y : Kp a H1 H2) : Kp a H H2 := fun b o h n => y b o (x b o h n) n
theorem _root_.L2.Same.kp {a : Addr} {H H' : Hp} (e : Same H H') : Kp a H H' := fun b o h _ => e b o h
theorem Kp.upd {a : Addr} {H H' : Hp} (x : Kp a H H') (o : HO) : Kp a H (upd H' a o) := fun b u h n => by rw [upd_ne n]; exact x b u h n
theorem Kp.tx {a : Addr} {H H' : Hp} (x : Kp a H H') {l : List V} (h : H a = some (.lst l)) : Tx H H' := fun b u e => x b _ e fun z => by rw [z, h] at e; cases e
theorem same_none {H H' : Hp} {a : Addr} (e : Same H H') (h : H' a = none) : H a = none := by
  cases q : H a with
  | none => rfl
  | some o => rw [e _ _ q] at h; cases h
theorem sqL_same {K : PySem.W.Frag} {H H' : Hp} {a : Addr} {xs : List V} (h : SqL K H a xs) (e : Same H H') : SqL K H' a xs := by
  rcases h with (h | ⟨o, h⟩) | h
  · exact .inl (.inl (e _ _ h))
  · exact .inl (.inr ⟨o, e _ _ h⟩)
  · exact .inr h
/-- the store at a -/
structure Sto (H : Hp) (a c : Addr) : Prop where
  ex : ∃ (ns : List Int) (i1 i2 i3 i4 : Int), H a = some (.lst [.ref c, .int i1, .int i2, .int i3, .int i4]) ∧ H c = some (.lst (ns.map V.int)) ∧ 0 ≤ i1
theorem Sto.same {H H' : Hp} {a c : Addr} (h : Sto H a c) (e : Same H H') : Sto H' a c := by
  obtain ⟨ns, i1, i2, i3, i4, h1, h2, h3⟩ := h.ex
  exact ⟨ns, i1, i2, i3, i4, e _ _ h1, e _ _ h2, h3⟩
theorem Sto.lst {H : Hp} {a c : Addr} (h : Sto H a c) : ∃ l, H a = some (.lst l) := by
  obtain ⟨ns, i1, i2, i3, i4, h1, h2, h3⟩ := h.ex
  exact ⟨_, h1⟩
theorem Sto.cel {H : Hp} {a c : Addr} (h : Sto H a c) : ∃ l, H c = some (.lst l) := by
  obtain ⟨ns, i1, i2, i3, i4, h1, h2, h3⟩ := h.ex
  exact ⟨_, h2⟩
theorem Sto.tx {H H' : Hp} {a c : Addr} (h : Sto H a c) (e : Kp a H H') : Tx H H' := let ⟨_, h1⟩ := h.lst; e.tx h1
theorem sto_ne {H : Hp} {a c : Addr} {ns : List Int} {r : List V} {x : Addr} (h1 : H a = some (.lst (.ref x :: r))) (h2 : H c = some (.lst (ns.map V.int))) : c ≠ a := fun z => by
  rw [z, h1] at h2
  cases ns with
  | nil => cases h2
  | cons n r => cases h2
section
variable {P : Program} {w : World} {K : PySem.W.Frag} {mg : Str → Option Value} {base : Heap}
theorem sc_law_mix : FnScope ["_law_cell", "_law_beat", "_law_first", "_law_second"] ["_law_cell", "_law_beat"] (defScope (top 101)) :=
  ⟨rfl, rfl, rfl, by decide +kernel, rfl, by decide +kernel, by decide +kernel⟩
def spMix : Sp := fun vs H Q _ => ∃ (i j : Int), vs = [.int i, .int j] ∧ ∀ r : Int, 0 ≤ r → Q (.int r) H
theorem cal_law_mix (F : Df K mg "_law_mix" "_law_mix" 101) (B : Bl mg) : Cal P w K mg base CX0 1 "_law_mix" ["_law_cell", "_law_beat"] spMix := by
  refine F.cal sc_law_mix (fun vs H Q E h => ?_) (fun _ _ _ _ _ _ us hl => match us, hl with | [_, _], _ => rfl) (fun f cdv A outer s H vs Q E hr h => ?_)
  · obtain ⟨_, _, rfl, _⟩ := h
    rfl
  · obtain ⟨i, j, rfl, k⟩ := h
    refine ⟨_, (pss_cons (ps_set (i := 2) sc_law_mix.nd rfl (Or.inl rfl) (pe_op op_mod (pe_callTy call_int1 rfl B.int (by decide +kernel) (pa_cons (pe_op op_add (pe_op op_add (pe_op op_mul (pe_callTy call_int1 rfl B.int (by decide +kernel) (pa_cons (pv 0) pa_nil)) pe_int) (pe_op op_mul (pe_callTy call_int1 rfl B.int (by decide +kernel) (pa_cons (pv 1) pa_nil)) pe_int)) pe_int) pa_nil)) pe_int))
      (pss_cons (ps_set (i := 3) sc_law_mix.nd rfl (Or.inl rfl) (pe_op op_mod (pe_callTy call_int1 rfl B.int (by decide +kernel) (pa_cons (pe_op op_add (pe_op op_add (pe_op op_mul (pv 2) (pv 2)) (pe_op op_fdiv (pv 2) pe_int)) (pe_op op_mul (pe_callTy call_int1 rfl B.int (by decide +kernel) (pa_cons (pv 1) pa_nil)) pe_int)) pa_nil)) pe_int))
      (pss_one (ps_ret (pe_op op_fdiv (pv 3) pe_int))))), ?_⟩
    have hf0 : (0 : Int) ≤ (i * 48271 + j * 69621 + 907) % 2147483647 := Int.emod_nonneg _ (by decide)
    have hf1 : (i * 48271 + j * 69621 + 907) % 2147483647 < 2147483647 := Int.emod_lt_of_pos _ (by decide)
    refine ⟨_, rfl, .inl ⟨_, rfl, _, _, rfl, rfl, .inr ⟨by decide, by decide⟩, _, rfl, .inl ⟨_, rfl, _, _, rfl, rfl, .inr ⟨by decide, by decide⟩, _, _, rfl, rfl, _, _, rfl, rfl, .inl ⟨_, rfl, _, _, rfl, rfl, (show (0 : Int) < 2147483647 by decide), ?_⟩⟩⟩⟩
    generalize (i * 48271 + j * 69621 + 907) % 2147483647 = ff at hf0 hf1
    refine ⟨_, rfl, _, rfl, _, _, rfl, rfl, .inl ⟨by omega, by omega⟩, _, rfl, _, _, rfl, rfl, ⟨by decide, by decide⟩, _, _, rfl, rfl, _, rfl, .inl ⟨_, rfl, _, _, rfl, rfl, .inr ⟨by decide, by decide⟩, _, _, rfl, rfl, .inl ⟨_, rfl, _, _, rfl, rfl, (show (0 : Int) < 2147483399 by decide), ?_⟩⟩⟩
    refine ⟨_, rfl, _, _, rfl, rfl, ⟨by decide, by decide⟩, k _ ?_⟩
    exact Int.ediv_nonneg (Int.emod_nonneg _ (by decide)) (by decide)
theorem sc_law_store : FnScope ["_law_script", "_law_cells", "_law_cell", "_law_seed"] ["_law_script"] (defScope (top 102)) :=
  ⟨rfl, rfl, rfl, by decide +kernel, rfl, by decide +kernel, by decide +kernel⟩
def spStore (K : PySem.W.Frag) : Sp := fun vs H Q _ => ∃ (l : Addr) (ns : List Int), vs = [.ref l] ∧ SqL K H l (ns.map V.int) ∧ ns.length ≤ 1000 ∧ ∀ a c H', Same H H' → H a = none → Sto H' a c → Q (.ref a) H'
theorem cal_law_store (F : Df K mg "_law_store" "_law_store" 102) (B : Bl mg) (C_law_mix : Cal P w K mg base CX0 1 "_law_mix" ["_law_cell", "_law_beat"] spMix) : Cal P w K mg base CX0 2 "_law_store" ["_law_script"] (spStore K) := by
  refine F.cal sc_law_store (fun vs H Q E h => ?_) (fun _ _ _ _ _ _ us hl => match us, hl with | [_], _ => rfl) (fun f cdv A outer s H vs Q E hr h => ?_)
  · obtain ⟨_, _, rfl, _⟩ := h
    rfl
  · obtain ⟨l, ns, rfl, hl, hz, k⟩ := h
    refine ⟨_, (pss_cons (ps_setLc (i := 1) (own := [("_law_cell", 2)]) rfl sc_law_store.nd rfl rfl (sw_true rfl rfl rfl (by decide +kernel)) (pi_list (pv 0)) (blkOk_by (N := ["_law_script", "_law_cells", "_law_cell", "_law_seed"]) (sc := defScope (top 102)) (own := [("_law_cell", 2)]) (by decide +kernel)) (fun _ _ _ _ _ => (pg_name (i := 2) sc_law_store.nd rfl (Or.inl rfl))) (fun _ _ _ _ _ => pts_nil) (fun _ _ _ _ _ => (pe_callTy call_int1 rfl B.int (by decide +kernel) (pa_cons (pv 2) pa_nil))))
      (pss_cons (ps_set (i := 3) sc_law_store.nd rfl (Or.inl rfl) (pe_op op_add pe_int (pe_callB call_len_seq rfl B.len PySem.boot_len (pa_cons (pv 1) pa_nil))))
      (pss_cons (ps_for PassesOwn.never rfl (pi_list (pv 1)) (pg_name (i := 2) sc_law_store.nd rfl (Or.inl rfl))
        (pss_one (ps_set (i := 3) sc_law_store.nd rfl (Or.inl rfl) (pe_callC C_law_mix (hr.mono (by decide)) rfl pass0 (pa_cons (pv 2) (pa_cons (pv 3) pa_nil))))))
      (pss_one (ps_ret (pe_lst (pa_cons (pv 1) (pa_cons pe_int (pa_cons pe_int (pa_cons pe_int (pa_cons (pv 3) pa_nil))))))))))), ?_⟩
    refine ⟨_, rfl, l, rfl, ⟨_, hl⟩, fun L hL => ?_⟩
    refine lc_data (walk_list (xs := ns.map V.int)) (ns.map D.int) (by rw [List.length_map, List.length_map]) (by rw [List.length_map]; omega) hL (fun H1 e => sqL_same hl e) ?_ ?_
    · rintro i x d _ H1 Q' hi e ⟨rfl, hx⟩ hd qk
      rw [List.getElem?_map] at hx hd
      obtain ⟨z, hz', rfl⟩ := Option.map_eq_some_iff.mp hx
      rw [hz'] at hd
      cases hd
      exact ⟨rfl, _, rfl, .inl ⟨_, rfl, qk _ _ (Same.refl _) (.int _)⟩⟩
    · intro H1 ws e1 hL1 rws
      obtain rfl := rws.ints
      refine ⟨_, rfl, L, _, rfl, .inl (SqL.of hL1), _, _, rfl, rfl, ?_⟩
      refine ⟨_, rfl, L, rfl, ⟨_, SqL.of hL1⟩, for_it (walk_list (xs := ns.map V.int)) (fun i σ H' => H' = H1 ∧ ∃ (o2 : Option V) (sd : Int), σ = [some (.ref l), some (.ref L), o2, some (.int sd)]) ⟨rfl, _, _, rfl⟩ (fun i σ H' _ h => by rw [h.1]; exact SqL.of hL1) ?_ ?_⟩
      · rintro i y σ _ H2 hi ⟨e2, o2, sd, rfl⟩ ⟨rfl, hy⟩
        subst e2
        rw [List.getElem?_map] at hy
        obtain ⟨z, hz', rfl⟩ := Option.map_eq_some_iff.mp hy
        exact ⟨_, rfl, _, rfl, z, sd, rfl, fun r hr => ⟨rfl, _, _, rfl⟩⟩
      · rintro σ H2 ⟨e2, o2, sd, rfl⟩
        subst e2
        refine ⟨_, rfl, _, rfl, sz5 (by simp), fun a ha => k a L _ (e1.trans (Same.new ha)) (same_none e1 ha) ⟨ns, _, _, _, _, upd_same, Same.new ha _ _ hL1, Int.le_refl 0⟩⟩
theorem sc_law_take : FnScope ["_law_store_here", "_law_many", "_law_cell", "_law_left"] ["_law_store_here", "_law_many"] (defScope (top 103)) :=
  ⟨rfl, rfl, rfl, by decide +kernel, rfl, by decide +kernel, by decide +kernel⟩
def spTake : Sp := fun vs H Q _ => ∃ (a c : Addr) (m : Nat), vs = [.ref a, .int (m : Int)] ∧ Sto H a c ∧ m ≤ 1000000 ∧ ∀ (j : Nat) H', (j = 0 ∨ j < m) → Kp a H H' → Sto H' a c → Q (.int (j : Int)) H'
theorem nat_of {r : Int} (h : 0 ≤ r) : ∃ j : Nat, r = (j : Int) := ⟨r.toNat, (Int.toNat_of_nonneg h).symm⟩
theorem mod_of {m : Nat} (h : 0 < m) (i : Int) : ∃ j : Nat, i % (m : Int) = (j : Int) ∧ (j = 0 ∨ j < m) := by
  obtain ⟨j, hj⟩ := nat_of (Int.emod_nonneg i (show (m : Int) ≠ 0 by omega))
  exact ⟨j, hj, .inr (by have := Int.emod_lt_of_pos i (show (0 : Int) < m by omega); omega)⟩
theorem cal_law_take (F : Df K mg "_law_take" "_law_take" 103) (B : Bl mg) (C_law_mix : Cal P w K mg base CX0 1 "_law_mix" ["_law_cell", "_law_beat"] spMix) : Cal P w K mg base CX0 2 "_law_take" ["_law_store_here", "_law_many"] spTake := by
  refine F.cal sc_law_take (fun vs H Q E h => ?_) (fun _ _ _ _ _ _ us hl => match us, hl with | [_, _], _ => rfl) (fun f cdv A outer s H vs Q E hr h => ?_)
  · obtain ⟨_, _, _, rfl, _⟩ := h
    rfl
  · obtain ⟨a, c, m, rfl, st, hm, k⟩ := h
    have k' : ∀ (r : Int) H', (∃ j : Nat, r = (j : Int) ∧ (j = 0 ∨ j < m)) → Kp a H H' → Sto H' a c → Q (.int r) H' := fun r H' ⟨j, e, h⟩ => e ▸ k j H' h
    refine ⟨_, (pss_cons (ps_if (pt_cmpR op_lt (pv 1) pe_int (nomark _))
        (pss_one (ps_ret pe_int))
        pss_nil)
      (pss_cons (ps_asg (pe_op op_add (pe_ix (r := rIxL K) ix_list (pv 0) pe_int (fun _ _ => rfl)) pe_int) (pg_sub (pv 0) pe_int set_list))
      (pss_cons (ps_if (PW.pt (pw_and (pt_cmpR op_eq (pe_ix (r := rIxL K) ix_list (pv 0) pe_int (fun _ _ => rfl)) pe_int (nomark _)) (pw_and1 (pt_cmpR op_lt (pe_ix (r := rIxL K) ix_list (pv 0) pe_int (fun _ _ => rfl)) (pe_callB call_len_seq rfl B.len PySem.boot_len (pa_cons (pe_ix (r := rIxL K) ix_list (pv 0) pe_int (fun _ _ => rfl)) pa_nil)) (nomark _)))))
        (pss_cons (ps_set (i := 2) sc_law_take.nd rfl (Or.inl rfl) (pe_callTy call_int1 rfl B.int (by decide +kernel) (pa_cons (pe_ix (r := rIxL K) ix_list (pe_ix (r := rIxL K) ix_list (pv 0) pe_int (fun _ _ => rfl)) (pe_ix (r := rIxL K) ix_list (pv 0) pe_int (fun _ _ => rfl)) (fun _ _ => rfl)) pa_nil)))
        (pss_cons (ps_asg (pe_op op_add (pe_ix (r := rIxL K) ix_list (pv 0) pe_int (fun _ _ => rfl)) pe_int) (pg_sub (pv 0) pe_int set_list))
        (pss_cons (ps_if (pt_cmpR op_lt (pe_callB call_abs rfl B.abs (by decide +kernel) (pa_cons (pv 2) pa_nil)) (pe_op op_pow pe_int pe_int) (nomark _))
          (pss_one (ps_ret (pe_op op_mod (pe_callTy call_int1 rfl B.int (by decide +kernel) (pa_cons (pe_callC C_law_mix (hr.mono (by decide)) rfl pass0 (pa_cons (pv 2) (pa_cons (pe_ix (r := rIxL K) ix_list (pv 0) pe_int (fun _ _ => rfl)) pa_nil))) pa_nil)) (pv 1))))
          pss_nil)
        (pss_one (ps_asg (pe_callB call_abs rfl B.abs (by decide +kernel) (pa_cons (pv 2) pa_nil)) (pg_sub (pv 0) pe_int set_list))))))
        pss_nil)
      (pss_cons (ps_if (pt_cmpR op_gt (pe_ix (r := rIxL K) ix_list (pv 0) pe_int (fun _ _ => rfl)) pe_int (nomark _))
        (pss_cons (ps_set (i := 3) sc_law_take.nd rfl (Or.inl rfl) (pe_callTy call_int1 rfl B.int (by decide +kernel) (pa_cons (pe_ix (r := rIxL K) ix_list (pv 0) pe_int (fun _ _ => rfl)) pa_nil)))
        (pss_cons (ps_asg (pe_op op_fdiv (pv 3) (pv 1)) (pg_sub (pv 0) pe_int set_list))
        (pss_one (ps_ret (pe_op op_mod (pe_callTy call_int1 rfl B.int (by decide +kernel) (pa_cons (pv 3) pa_nil)) (pv 1))))))
        pss_nil)
      (pss_cons (ps_asg (pe_callC C_law_mix (hr.mono (by decide)) rfl pass0 (pa_cons (pe_ix (r := rIxL K) ix_list (pv 0) pe_int (fun _ _ => rfl)) (pa_cons (pe_ix (r := rIxL K) ix_list (pv 0) pe_int (fun _ _ => rfl)) pa_nil))) (pg_sub (pv 0) pe_int set_list))
      (pss_one (ps_ret (pe_op op_mod (pe_callTy call_int1 rfl B.int (by decide +kernel) (pa_cons (pe_ix (r := rIxL K) ix_list (pv 0) pe_int (fun _ _ => rfl)) pa_nil)) (pv 1))))))))), ?_⟩
    obtain ⟨ns, i1, i2, i3, i4, ha, hc, h1⟩ := st.ex
    have hca : c ≠ a := sto_ne ha hc
    refine ⟨_, rfl, _, _, rfl, rfl, _, rfl, if2 (fun hb => k 0 H (.inl rfl) Kp.refl st) fun hb => ?_⟩
    have hm2 : 2 ≤ m := by have := of_decide_eq_false hb; omega
    refine ⟨_, rfl, a, _, _, _, rfl, rfl, SqL.of ha, atI_nat (j := 3) rfl, _, _, rfl, rfl, _, rfl, a, _, 3, 3, rfl, rfl, ha, rfl, ?_⟩
    have kp1 : Kp a H (upd H a (.lst ([V.ref c, .int i1, .int i2, .int i3, .int i4].set 3 (.int (i3 + 1))))) := Kp.refl.upd _
    have ha1 : (upd H a (.lst ([V.ref c, .int i1, .int i2, .int i3, .int i4].set 3 (.int (i3 + 1))))) a = some (.lst [.ref c, .int i1, .int i2, .int (i3 + 1), .int i4]) := upd_same
    have hc1 := kp1 _ _ hc hca
    generalize upd H a (.lst ([V.ref c, .int i1, .int i2, .int i3, .int i4].set 3 (.int (i3 + 1)))) = H1 at kp1 ha1 hc1 ⊢
    refine ⟨_, rfl, a, _, _, _, rfl, rfl, SqL.of ha1, atI_nat (j := 2) rfl, rfl, _, rfl, if2 (fun h2 => ?_) (fun h2 => ?_)⟩
    · refine ⟨_, rfl, a, _, _, _, rfl, rfl, SqL.of ha1, atI_nat (j := 1) rfl, _, rfl, a, _, _, _, rfl, rfl, SqL.of ha1, atI_nat (j := 0) rfl, c, _, rfl, .inl (SqL.of hc1), _, _, rfl, rfl, _, rfl, if2 (fun h3 => ?_) (fun h3 => ?_)⟩
      · refine ⟨_, rfl, a, _, _, _, rfl, rfl, SqL.of ha1, atI_nat (j := 0) rfl, _, rfl, a, _, _, _, rfl, rfl, SqL.of ha1, atI_nat (j := 1) rfl, ?_⟩
        have hlt : i1 < (ns.length : Int) := by have := of_decide_eq_true h3; rwa [List.length_map] at this
        obtain ⟨n1, rfl⟩ := nat_of h1
        obtain ⟨z, hz⟩ : ∃ z, ns[n1]? = some z := ⟨_, List.getElem?_eq_getElem (by omega)⟩
        refine ⟨c, _, _, _, rfl, rfl, SqL.of hc1, atI_nat (j := n1) (by rw [List.getElem?_map, hz]; rfl), .inl ⟨_, rfl, ?_⟩⟩
        refine ⟨_, rfl, a, _, _, _, rfl, rfl, SqL.of ha1, atI_nat (j := 1) rfl, _, _, rfl, rfl, _, rfl, a, _, 1, 1, rfl, rfl, ha1, rfl, ?_⟩
        have kp2 := kp1.upd (.lst ([V.ref c, .int (n1 : Int), .int i2, .int (i3 + 1), .int i4].set 1 (.int ((n1 : Int) + 1))))
        have ha2 : (upd H1 a (.lst ([V.ref c, .int (n1 : Int), .int i2, .int (i3 + 1), .int i4].set 1 (.int ((n1 : Int) + 1))))) a = some (.lst [.ref c, .int ((n1 : Int) + 1), .int i2, .int (i3 + 1), .int i4]) := upd_same
        have hc2 := kp2 _ _ hc hca
        generalize upd H1 a (.lst ([V.ref c, .int (n1 : Int), .int i2, .int (i3 + 1), .int i4].set 1 (.int ((n1 : Int) + 1)))) = H2 at kp2 ha2 hc2 ⊢
        refine ⟨_, rfl, z, rfl, _, _, rfl, rfl, ⟨by decide, by decide, by decide⟩, _, _, rfl, rfl, _, rfl, if2 (fun h5 => ?_) (fun h5 => ?_)⟩
        · refine ⟨_, rfl, _, rfl, a, _, _, _, rfl, rfl, SqL.of ha2, atI_nat (j := 3) rfl, z, i3 + 1, rfl, fun r hr0 => .inl ⟨_, rfl, _, rfl, _, _, rfl, rfl, (by show (0 : Int) < (m : Int); omega), ?_⟩⟩
          exact k' _ _ (mod_of (by omega : 0 < m) _) kp2 ⟨ns, _, _, _, _, ha2, hc2, by omega⟩
        · have hbig : 0 < (if z < 0 then -z else z) := by
            have := of_decide_eq_false h5
            have e : (10 : Int) ^ (18 : Int).toNat = 1000000000000000000 := by decide
            rw [e] at this
            omega
          refine ⟨_, rfl, z, rfl, _, rfl, a, _, 2, 2, rfl, rfl, ha2, rfl, ?_⟩
          generalize (if z < 0 then -z else z) = zz at hbig ⊢
          have kp3 := kp2.upd (.lst ([V.ref c, .int ((n1 : Int) + 1), .int i2, .int (i3 + 1), .int i4].set 2 (.int zz)))
          have ha3 : (upd H2 a (.lst ([V.ref c, .int ((n1 : Int) + 1), .int i2, .int (i3 + 1), .int i4].set 2 (.int zz)))) a = some (.lst [.ref c, .int ((n1 : Int) + 1), .int zz, .int (i3 + 1), .int i4]) := upd_same
          have hc3 := kp3 _ _ hc hca
          generalize upd H2 a (.lst ([V.ref c, .int ((n1 : Int) + 1), .int i2, .int (i3 + 1), .int i4].set 2 (.int zz))) = H3 at kp3 ha3 hc3 ⊢
          refine ⟨_, rfl, a, _, _, _, rfl, rfl, SqL.of ha3, atI_nat (j := 2) rfl, _, _, rfl, rfl, _, rfl, ifT (decide_eq_true hbig) ?_⟩
          refine ⟨_, rfl, a, _, _, _, rfl, rfl, SqL.of ha3, atI_nat (j := 2) rfl, .inl ⟨_, rfl, _, rfl, _, rfl, _, _, rfl, rfl, ⟨by omega, by omega⟩, _, rfl, a, _, 2, 2, rfl, rfl, ha3, rfl, _, rfl, .inl ⟨_, rfl, _, rfl, _, _, rfl, rfl, (by show (0 : Int) < (m : Int); omega), ?_⟩⟩⟩
          exact k' _ _ (mod_of (by omega : 0 < m) _) (kp3.upd _) ⟨ns, _, _, _, _, upd_same, (upd_ne hca).trans hc3, (by omega)⟩
      · refine ⟨_, rfl, a, _, _, _, rfl, rfl, SqL.of ha1, atI_nat (j := 2) rfl, _, _, rfl, rfl, _, rfl, if2 (fun h4 => ?_) (fun h4 => ?_)⟩
        · refine ⟨_, rfl, a, _, _, _, rfl, rfl, SqL.of ha1, atI_nat (j := 2) rfl, .inl ⟨_, rfl, _, rfl, _, rfl, _, _, rfl, rfl, ⟨by omega, by omega⟩, _, rfl, a, _, 2, 2, rfl, rfl, ha1, rfl, _, rfl, .inl ⟨_, rfl, _, rfl, _, _, rfl, rfl, (by show (0 : Int) < (m : Int); omega), ?_⟩⟩⟩
          exact k' _ _ (mod_of (by omega : 0 < m) _) (kp1.upd _) ⟨ns, _, _, _, _, upd_same, (upd_ne hca).trans hc1, h1⟩
        · refine ⟨_, rfl, a, _, _, _, rfl, rfl, SqL.of ha1, atI_nat (j := 4) rfl, _, rfl, a, _, _, _, rfl, rfl, SqL.of ha1, atI_nat (j := 3) rfl, i4, i3 + 1, rfl, fun r hr0 => ⟨_, rfl, a, _, 4, 4, rfl, rfl, ha1, rfl, _, rfl, a, _, _, _, rfl, rfl, SqL.of upd_same, atI_nat (j := 4) rfl, .inl ⟨_, rfl, _, rfl, _, _, rfl, rfl, (by show (0 : Int) < (m : Int); omega), ?_⟩⟩⟩
          exact k' _ _ (mod_of (by omega : 0 < m) _) (kp1.upd (.lst ([V.ref c, .int i1, .int i2, .int (i3 + 1), .int i4].set 4 (.int r)))) ⟨ns, _, _, _, _, upd_same, (upd_ne hca).trans hc1, h1⟩
    · refine iteF ⟨_, rfl, a, _, _, _, rfl, rfl, SqL.of ha1, atI_nat (j := 2) rfl, _, _, rfl, rfl, _, rfl, if2 (fun h4 => ?_) (fun h4 => ?_)⟩
      · refine ⟨_, rfl, a, _, _, _, rfl, rfl, SqL.of ha1, atI_nat (j := 2) rfl, .inl ⟨_, rfl, _, rfl, _, rfl, _, _, rfl, rfl, ⟨by omega, by omega⟩, _, rfl, a, _, 2, 2, rfl, rfl, ha1, rfl, _, rfl, .inl ⟨_, rfl, _, rfl, _, _, rfl, rfl, (by show (0 : Int) < (m : Int); omega), ?_⟩⟩⟩
        exact k' _ _ (mod_of (by omega : 0 < m) _) (kp1.upd _) ⟨ns, _, _, _, _, upd_same, (upd_ne hca).trans hc1, h1⟩
      · refine ⟨_, rfl, a, _, _, _, rfl, rfl, SqL.of ha1, atI_nat (j := 4) rfl, _, rfl, a, _, _, _, rfl, rfl, SqL.of ha1, atI_nat (j := 3) rfl, i4, i3 + 1, rfl, fun r hr0 => ⟨_, rfl, a, _, 4, 4, rfl, rfl, ha1, rfl, _, rfl, a, _, _, _, rfl, rfl, SqL.of upd_same, atI_nat (j := 4) rfl, .inl ⟨_, rfl, _, rfl, _, _, rfl, rfl, (by show (0 : Int) < (m : Int); omega), ?_⟩⟩⟩
        exact k' _ _ (mod_of (by omega : 0 < m) _) (kp1.upd (.lst ([V.ref c, .int i1, .int i2, .int (i3 + 1), .int i4].set 4 (.int r)))) ⟨ns, _, _, _, _, upd_same, (upd_ne hca).trans hc1, h1⟩
end
end Wi
set_option maxHeartbeats 4000000
set_option maxRecDepth 100000
namespace Wi
open PySem L2 PySem.Spec PyProof.Rows
theorem erase_perm {α : Type} : ∀ {l : List α} {i : Nat} (h : i < l.length), ([l[i]] ++ l.eraseIdx i).Perm l
  | [], _, h => absurd h (Nat.not_lt_zero _)
  | x :: l, 0, _ => List.Perm.refl _
  | x :: l, i + 1, h => by
    have hi : i < l.length := by simpa using h
    have ih := erase_perm (l := l) (i := i) hi
    show (l[i] :: x :: l.eraseIdx i).Perm (x :: l)
    exact (List.Perm.swap _ _ _).trans (ih.cons x)
theorem erase_map {α β : Type} (f : α → β) : ∀ (l : List α) (i : Nat), (l.map f).eraseIdx i = (l.eraseIdx i).map f
  | [], _ => rfl
  | _ :: _, 0 => rfl
  | x :: l, i + 1 => by
    show f x :: (l.map f).eraseIdx i = f x :: (l.eraseIdx i).map f
    rw [erase_map f l i]
section
variable {P : Program} {w : World} {K : PySem.W.Frag} {mg : Str → Option Value} {base : Heap}
theorem sc_law_pick : FnScope ["_law_store_here", "_law_row"] ["_law_store_here", "_law_row"] (defScope (top 104)) :=
  ⟨rfl, rfl, rfl, by decide +kernel, rfl, by decide +kernel, by decide +kernel⟩
/-- a list or a tuple that stands -/
def Row (H : Hp) (p : Addr) (xs : List V) : Prop := H p = some (.lst xs) ∨ H p = some (.tup xs)
def spPick : Sp := fun vs H Q _ => ∃ (a c p : Addr) (xs : List V), vs = [.ref a, .ref p] ∧ Sto H a c ∧ Row H p xs ∧ p ≠ a ∧ 0 < xs.length ∧ xs.length ≤ 1000000 ∧ ∀ (j : Nat) x H', xs[j]? = some x → Kp a H H' → Sto H' a c → Q x H'
theorem cal_law_pick (F : Df K mg "_law_pick" "_law_pick" 104) (B : Bl mg) (C_law_take : Cal P w K mg base CX0 2 "_law_take" ["_law_store_here", "_law_many"] spTake) : Cal P w K mg base CX0 3 "_law_pick" ["_law_store_here", "_law_row"] spPick := by
  refine F.cal sc_law_pick (fun vs H Q E h => ?_) (fun _ _ _ _ _ _ us hl => match us, hl with | [_, _], _ => rfl) (fun f cdv A outer s H vs Q E hr h => ?_)
  · obtain ⟨_, _, _, _, rfl, _⟩ := h
    rfl
  · obtain ⟨a, c, p, xs, rfl, st, hp, hpa, h0, hz, k⟩ := h
    refine ⟨_, (pss_one (ps_ret (pe_ix (r := rIx K) ix_seq (pv 1) (pe_callC C_law_take (hr.mono (by decide)) rfl pass0 (pa_cons (pv 0) (pa_cons (pe_callB call_len_seq rfl B.len PySem.boot_len (pa_cons (pv 1) pa_nil)) pa_nil))) (fun _ _ => rfl)))), ?_⟩
    refine ⟨_, rfl, _, rfl, _, rfl, p, xs, rfl, hp.elim (fun h => .inl (SqL.of h)) (fun h => .inr (SqT.of h)), a, c, xs.length, rfl, st, hz, fun j H1 hj e1 st1 => ?_⟩
    have hjl : j < xs.length := hj.elim (fun h => by omega) id
    have hx : atI xs (j : Int) = some xs[j] := atI_nat (List.getElem?_eq_getElem hjl)
    have kk := k j _ H1 (List.getElem?_eq_getElem hjl) e1 st1
    rcases hp with hp | hp
    · exact .inl ⟨p, _, _, _, rfl, rfl, SqL.of (e1 _ _ hp hpa), hx, kk⟩
    · exact .inr (.inl ⟨p, _, _, _, rfl, rfl, SqT.of (e1 _ _ hp hpa), hx, kk⟩)
theorem sc_law_chance : FnScope ["_law_store_here", "_law_many"] ["_law_store_here", "_law_many"] (defScope (top 105)) :=
  ⟨rfl, rfl, rfl, by decide +kernel, rfl, by decide +kernel, by decide +kernel⟩
def spChance : Sp := fun vs H Q _ => ∃ (a c : Addr) (m : Nat), vs = [.ref a, .int (m : Int)] ∧ Sto H a c ∧ m ≤ 1000000 ∧ ∀ (b : Bool) H', Kp a H H' → Sto H' a c → Q (.bl b) H'
theorem cal_law_chance (F : Df K mg "_law_chance" "_law_chance" 105) (C_law_take : Cal P w K mg base CX0 2 "_law_take" ["_law_store_here", "_law_many"] spTake) : Cal P w K mg base CX0 3 "_law_chance" ["_law_store_here", "_law_many"] spChance := by
  refine F.cal sc_law_chance (fun vs H Q E h => ?_) (fun _ _ _ _ _ _ us hl => match us, hl with | [_, _], _ => rfl) (fun f cdv A outer s H vs Q E hr h => ?_)
  · obtain ⟨_, _, _, rfl, _⟩ := h
    rfl
  · obtain ⟨a, c, m, rfl, st, hz, k⟩ := h
    refine ⟨_, (pss_one (ps_ret (pe_cmpR op_eq (pe_callC C_law_take (hr.mono (by decide)) rfl pass0 (pa_cons (pv 0) (pa_cons (pv 1) pa_nil))) pe_int (nomark _)))), ?_⟩
    exact ⟨_, rfl, _, rfl, a, c, m, rfl, st, hz, fun j H1 hj e1 st1 => ⟨rfl, k _ H1 e1 st1⟩⟩
theorem sc_law_some : FnScope ["_law_store_here", "_law_row", "_law_count", "_law_rest", "_law_out", "_law_k"] ["_law_store_here", "_law_row", "_law_count"] (defScope (top 106)) :=
  ⟨rfl, rfl, rfl, by decide +kernel, rfl, by decide +kernel, by decide +kernel⟩
def spSome : Sp := fun vs H Q _ => ∃ (a c p : Addr) (xs : List Str) (m : Nat), vs = [.ref a, .ref p, .int (m : Int)] ∧ Sto H a c ∧ Row H p (xs.map V.str) ∧ p ≠ a ∧ xs.length ≤ 1000 ∧ m ≤ 1000 ∧
  ∀ (ys rs : List Str) L H', (ys ++ rs).Perm xs → ys.length ≤ m → Kp a H H' → Sto H' a c → H L = none → H' L = some (.lst (ys.map V.str)) → Q (.ref L) H'
theorem cal_law_some (F : Df K mg "_law_some" "_law_some" 106) (B : Bl mg) (C_law_take : Cal P w K mg base CX0 2 "_law_take" ["_law_store_here", "_law_many"] spTake) : Cal P w K mg base CX0 3 "_law_some" ["_law_store_here", "_law_row", "_law_count"] spSome := by
  refine F.cal sc_law_some (fun vs H Q E h => ?_) (fun _ _ _ _ _ _ us hl => match us, hl with | [_, _, _], _ => rfl) (fun f cdv A outer s H vs Q E hr h => ?_)
  · obtain ⟨_, _, _, _, _, rfl, _⟩ := h
    rfl
  · obtain ⟨a, c, p, xs, m, rfl, st, hp, hpa, hz, hm, k⟩ := h
    refine ⟨_, (pss_cons (ps_set (i := 3) sc_law_some.nd rfl (Or.inl rfl) (pe_callTy call_list_of rfl B.list (by decide +kernel) (pa_cons (pv 1) pa_nil)))
      (pss_cons (ps_set (i := 4) sc_law_some.nd rfl (Or.inl rfl) (pe_lst pa_nil))
      (pss_cons (ps_for PassesOwn.never rfl (pi_range1 rfl B.range (pa_cons (pe_callB (call_min2 rfl) rfl B.min (by decide +kernel) (pa_cons (pv 2) (pa_cons (pe_callB call_len_seq rfl B.len PySem.boot_len (pa_cons (pv 3) pa_nil)) pa_nil))) pa_nil)) (pg_name (i := 5) sc_law_some.nd rfl (Or.inl rfl))
        (pss_one (ps_expr (pe_bm PySem.F.plainAttrs_list PySem.F.slot_list_append PySem.F.type_list_append mt_append (pv 4) (pa_cons (pe_bm PySem.F.plainAttrs_list PySem.F.slot_list_pop PySem.F.type_list_pop mt_popAt (pv 3) (pa_cons (pe_callC C_law_take (hr.mono (by decide)) rfl pass0 (pa_cons (pv 0) (pa_cons (pe_callB call_len_seq rfl B.len PySem.boot_len (pa_cons (pv 3) pa_nil)) pa_nil))) pa_nil)) pa_nil)))))
      (pss_one (ps_ret (pv 4)))))), ?_⟩
    refine ⟨_, rfl, p, _, rfl, hp.elim (fun h => .inl (SqL.of h)) (fun h => .inr (SqT.of h)), fun R hR => ⟨sz5 (by simp), fun L hL => ?_⟩⟩
    have hRp : H R = none := hR
    have hLR : L ≠ R := fun z => by rw [z, upd_same] at hL; cases hL
    have hLn : H L = none := by rwa [upd_ne hLR] at hL
    obtain ⟨l0, hl0⟩ := st.lst
    have haR : a ≠ R := fun z => by rw [z, hRp] at hl0; cases hl0
    have haL : a ≠ L := fun z => by rw [z, hLn] at hl0; cases hl0
    have e0 : Same H (upd (upd H R (.lst (xs.map V.str))) L (.lst [])) := (Same.new hRp).mut hLn
    refine ⟨_, rfl, _, rfl, R, _, rfl, .inl (SqL.of ((upd_ne hLR.symm).trans upd_same)), _, _, rfl, _, rfl, ?_⟩
    rw [List.length_map]
    have hN : (if (xs.length : Int) < (m : Int) then (xs.length : Int) else (m : Int)) = ((min m xs.length : Nat) : Int) := by
      split <;> omega
    rw [hN]
    refine ⟨by omega, by omega, ?_⟩
    refine for_it walk_range (fun i σ H' => Kp a H H' ∧ Sto H' a c ∧ (∃ ys rs : List Str, (ys ++ rs).Perm xs ∧ ys.length = i ∧ H' R = some (.lst (rs.map V.str)) ∧ H' L = some (.lst (ys.map V.str))) ∧ ∃ o5, σ = [some (.ref a), some (.ref p), some (.int (m : Int)), some (.ref R), some (.ref L), o5])
      ⟨e0.kp, st.same e0, ⟨[], xs, List.Perm.refl _, rfl, (upd_ne hLR.symm).trans upd_same, upd_same⟩, _, rfl⟩ (fun _ _ _ _ _ => True.intro) ?_ ?_
    · rintro i y σ H1 H2 hi ⟨e1, s1, ⟨ys, rs, hp1, hl1, hR1, hL1⟩, o5, rfl⟩ hy
      obtain ⟨rfl, rfl⟩ := hy
      have hlen : ys.length + rs.length = xs.length := by rw [← hp1.length_eq, List.length_append]
      refine ⟨_, rfl, .inl ⟨rfl, _, SqL.of hL1⟩, _, rfl, .inl ⟨rfl, _, SqL.of hR1⟩, _, rfl, _, rfl, R, _, rfl, .inl (SqL.of hR1), a, c, rs.length, by simp, s1, by omega, fun j H2 hj e2 s2 => ?_⟩
      have hjl : j < rs.length := hj.elim (fun h => by omega) id
      have hR2 := e2 _ _ hR1 haR.symm
      have hL2 := e2 _ _ hL1 haL.symm
      refine ⟨R, _, _, j, .str rs[j], rfl, rfl, hR2, by omega, by omega, by rw [seqIndex_of (by omega) (by rw [List.length_map]; omega)]; rfl, by rw [List.getElem?_map, List.getElem?_eq_getElem hjl]; rfl, ?_⟩
      refine ⟨L, _, _, rfl, rfl, (upd_ne hLR).trans hL2, sz5' (by rw [List.length_map]; omega), ?_⟩
      have hf : ∀ b o, H b = some o → b ≠ a → upd (upd H2 R (.lst ((rs.map V.str).eraseIdx j))) L (.lst (ys.map V.str ++ [.str rs[j]])) b = some o := fun b o h n => by
        have h1 := e2 _ _ (e1 _ _ h n) n
        rw [upd_ne (fun z => by rw [z, hLn] at h; cases h), upd_ne (fun z => by rw [z, hRp] at h; cases h)]
        exact h1
      refine ⟨hf, ?_, ⟨ys ++ [rs[j]], rs.eraseIdx j, ?_, by rw [List.length_append, List.length_singleton, hl1], ?_, ?_⟩, _, rfl⟩
      · have f1 : ∀ b, b ≠ R → b ≠ L → upd (upd H2 R (.lst ((rs.map V.str).eraseIdx j))) L (.lst (ys.map V.str ++ [.str rs[j]])) b = H2 b := fun b h1 h2 => by rw [upd_ne h2, upd_ne h1]
        obtain ⟨l1, hl1'⟩ := st.cel
        have hcR : c ≠ R := fun z => by rw [z, hRp] at hl1'; cases hl1'
        have hcL : c ≠ L := fun z => by rw [z, hLn] at hl1'; cases hl1'
        obtain ⟨ns, i1, i2, i3, i4, z1, z2, z3⟩ := s2.ex
        exact ⟨ns, i1, i2, i3, i4, (f1 a haR haL).trans z1, (f1 c hcR hcL).trans z2, z3⟩
      · rw [List.append_assoc]
        exact (List.Perm.append_left ys (erase_perm hjl)).trans hp1
      · rw [upd_ne hLR.symm, upd_same, erase_map]
      · rw [upd_same, List.map_append]; rfl
    · rintro σ H1 ⟨e1, s1, ⟨ys, rs, hp1, hl1, hR1, hL1⟩, o5, rfl⟩
      exact ⟨_, rfl, k ys rs L H1 hp1 (by simp at hl1; omega) e1 s1 hLn hL1⟩
end
end Wi
set_option maxHeartbeats 4000000
set_option maxRecDepth 100000
namespace Wi
open PySem L2 PySem.Spec PyProof.Rows
/-! V2: labels -/
def sgn (c : Nat) : S := ⟨#[c]⟩
abbrev w2S : S := "w2345"
def labT (kind c k : Nat) : S := match kind with
  | 0 => sgn c
  | 1 => w2S ++ sgn c
  | _ => Txt.mul (sgn c) ((1 : Int) + ((k % 6 : Nat) : Int))
theorem lab_fin : (∀ c : Fin 26, isName (sgn (97 + c)) = true ∧ (ls (sgn (97 + c))).getLast? = some (97 + c.val)) ∧ (∀ c : Fin 26, isName (w2S ++ sgn (97 + c)) = true ∧ (ls (w2S ++ sgn (97 + c))).getLast? = some (97 + c.val)) ∧
    ∀ (c : Fin 26) (r : Fin 6), isName (Txt.mul (sgn (97 + c)) ((1 : Int) + ((r.val : Nat) : Int))) = true ∧ (ls (Txt.mul (sgn (97 + c)) ((1 : Int) + ((r.val : Nat) : Int)))).getLast? = some (97 + c.val) := by
  refine ⟨by decide +kernel, by decide +kernel, by decide +kernel⟩
theorem lab_ok (kind : Nat) {c : Nat} (k : Nat) (hc : c < 26) : isName (labT kind (97 + c) k) = true ∧ (ls (labT kind (97 + c) k)).getLast? = some (97 + c) := by
  match kind with
  | 0 => exact lab_fin.1 ⟨c, hc⟩
  | 1 => exact lab_fin.2.1 ⟨c, hc⟩
  | n + 2 => exact lab_fin.2.2 ⟨c, hc⟩ ⟨k % 6, Nat.mod_lt _ (by decide)⟩
def posT (st t k : Nat) : Nat := (st + t * k) % 26
theorem pos_inj {st t k k' : Nat} (ht : t = 1 ∨ t = 25 ∨ t = 7 ∨ t = 19) (h1 : k < 26) (h2 : k' < 26) (e : posT st t k = posT st t k') : k = k' := by
  unfold posT at e
  rcases ht with rfl | rfl | rfl | rfl <;> omega
def labs (kind st t m : Nat) : List S := (List.range m).map fun k => labT kind (97 + posT st t k) k
theorem pos_lt (st t k : Nat) : posT st t k < 26 := Nat.mod_lt _ (by decide)
theorem labs_name {kind st t m : Nat} : ∀ x ∈ labs kind st t m, isName x = true := fun x hx => by
  obtain ⟨k, _, rfl⟩ := List.mem_map.mp hx
  exact (lab_ok kind k (pos_lt st t k)).1
theorem labs_nodup {kind st t m : Nat} (ht : t = 1 ∨ t = 25 ∨ t = 7 ∨ t = 19) (hm : m ≤ 26) : (labs kind st t m).Nodup := by
  unfold labs
  refine List.pairwise_iff_getElem.mpr fun i j hi hj hij e => ?_
  rw [List.length_map, List.length_range] at hi hj
  rw [List.getElem_map, List.getElem_map, List.getElem_range, List.getElem_range] at e
  have e2 := e
  have l1 := (lab_ok kind i (pos_lt st t i)).2
  have l2 := (lab_ok kind j (pos_lt st t j)).2
  have e3 : labT kind (97 + posT st t i) i = labT kind (97 + posT st t j) j := e2
  rw [e3, l2] at l1
  have := Option.some.inj l1
  have := pos_inj (st := st) ht (by omega : i < 26) (by omega : j < 26) (by omega)
  omega
theorem walk_r0 {n : Nat} : Walk (Itr 0 n) n (fun _ => True) (YFn fun i : Nat => .int (i : Int)) := by
  have e : (fun i : Nat => V.int (0 + (i : Int))) = fun i : Nat => V.int (i : Int) := funext fun i => by rw [Int.zero_add]
  rw [← e]
  exact walk_range
theorem letter_fin : ∀ c : Fin 26, (Str.ofString "abcdefghijklmnopqrstuvwxyz").cps.toList[c.val]? = some (97 + c.val) := by decide +kernel
theorem mulOk_s (c : Nat) (r : Nat) (h : r < 6) : MulOk (sgn c) ((1 : Int) + ((r : Nat) : Int)) := by
  refine ⟨?_, fun _ _ => ?_, fun _ _ => ?_⟩
  · simp; omega
  · show ¬ ((1 : Nat) : Int) > _
    match r, h with
    | 0, _ => decide
    | 1, _ => decide
    | 2, _ => decide
    | 3, _ => decide
    | 4, _ => decide
    | 5, _ => decide
  · show Builtin.Str.tooLong (1 * ((1 : Int) + ((r : Nat) : Int)).toNat) = false
    match r, h with
    | 0, _ => decide +kernel
    | 1, _ => decide +kernel
    | 2, _ => decide +kernel
    | 3, _ => decide +kernel
    | 4, _ => decide +kernel
    | 5, _ => decide +kernel
theorem mulOk_z (z : S) : MulOk z 0 := ⟨by decide, fun h => absurd (by decide) h, fun h => absurd (by decide) h⟩
section
variable {P : Program} {w : World} {K : PySem.W.Frag} {mg : Str → Option Value} {base : Heap}
theorem sc_law_labels : FnScope ["_law_store_here", "_law_many", "_law_dotted", "_law_letters", "_law_start", "_law_stride", "_law_kind", "_law_out", "_law_k", "_law_sign", "_law_text"] ["_law_store_here", "_law_many", "_law_dotted"] (defScope (top 109)) :=
  ⟨rfl, rfl, rfl, by decide +kernel, rfl, by decide +kernel, by decide +kernel⟩
def spLabels : Sp := fun vs H Q _ => ∃ (a c : Addr) (m : Nat), vs = [.ref a, .int (m : Int), .bl false] ∧ Sto H a c ∧ m ≤ 26 ∧
  ∀ (ys : List Str) L H', ys.length = m → (∀ x ∈ ys, isName x = true) → ys.Nodup → Kp a H H' → Sto H' a c → H L = none → H' L = some (.lst (ys.map V.str)) → Q (.ref L) H'
theorem cal_law_labels (F : Df K mg "_law_labels" "_law_labels" 109) (B : Bl mg) (C_law_take : Cal P w K mg base CX0 2 "_law_take" ["_law_store_here", "_law_many"] spTake) (C_law_pick : Cal P w K mg base CX0 3 "_law_pick" ["_law_store_here", "_law_row"] spPick) : Cal P w K mg base CX0 4 "_law_labels" ["_law_store_here", "_law_many", "_law_dotted"] spLabels := by
  refine F.cal sc_law_labels (fun vs H Q E h => ?_) (fun _ _ _ _ _ _ us hl => match us, hl with | [_, _, _], _ => rfl) (fun f cdv A outer s H vs Q E hr h => ?_)
  · obtain ⟨_, _, _, rfl, _⟩ := h
    rfl
  · obtain ⟨a, c, m, rfl, st, hm, k⟩ := h
    refine ⟨_, (pss_cons (ps_set (i := 3) sc_law_labels.nd rfl (Or.inl rfl) pe_str)
      (pss_cons (ps_set (i := 4) sc_law_labels.nd rfl (Or.inl rfl) (pe_callC C_law_take (hr.mono (by decide)) rfl pass0 (pa_cons (pv 0) (pa_cons pe_int pa_nil))))
      (pss_cons (ps_set (i := 5) sc_law_labels.nd rfl (Or.inl rfl) (pe_callC C_law_pick (hr.mono (by decide)) rfl pass0 (pa_cons (pv 0) (pa_cons (pe_lst (pa_cons pe_int (pa_cons pe_int (pa_cons pe_int (pa_cons pe_int pa_nil))))) pa_nil))))
      (pss_cons (ps_set (i := 6) sc_law_labels.nd rfl (Or.inl rfl) (pe_callC C_law_take (hr.mono (by decide)) rfl pass0 (pa_cons (pv 0) (pa_cons (pe_op op_add pe_int (pe_callTy call_int1 rfl B.int (by decide +kernel) (pa_cons (pv 2) pa_nil))) pa_nil))))
      (pss_cons (ps_set (i := 7) sc_law_labels.nd rfl (Or.inl rfl) (pe_lst pa_nil))
      (pss_cons (ps_for PassesOwn.never rfl (pi_range1 rfl B.range (pa_cons (pv 1) pa_nil)) (pg_name (i := 8) sc_law_labels.nd rfl (Or.inl rfl))
        (pss_cons (ps_set (i := 9) sc_law_labels.nd rfl (Or.inl rfl) (pe_ix ix_str (pv 3) (pe_op op_mod (pe_callTy call_int1 rfl B.int (by decide +kernel) (pa_cons (pe_op op_add (pv 4) (pe_op op_mul (pv 5) (pv 8))) pa_nil)) pe_int) (fun _ _ => rfl)))
        (pss_cons (ps_set (i := 10) sc_law_labels.nd rfl (Or.inl rfl) (pe_ix (r := rIxL K) ix_list (pe_lst (pa_cons (pv 9) (pa_cons (pe_op op_add_str pe_str (pv 9)) (pa_cons (pe_op op_mulSI (pv 9) (pe_op op_add pe_int (pe_op op_mod (pe_callTy call_int1 rfl B.int (by decide +kernel) (pa_cons (pv 8) pa_nil)) pe_int))) (pa_cons (pe_op op_add_str pe_str (pv 9)) pa_nil))))) (pv 6) (fun _ _ => rfl)))
        (pss_one (ps_expr (pe_bm PySem.F.plainAttrs_list PySem.F.slot_list_append PySem.F.type_list_append mt_append (pv 7) (pa_cons (pe_op op_add_str (pv 10) (pe_op op_mulSI (pe_callTy call_str_int rfl B.str (by decide +kernel) (pa_cons (pe_op op_fdiv (pv 8) pe_int) pa_nil)) (pe_callTy call_int1 rfl B.int (by decide +kernel) (pa_cons (pe_cmpR op_gt (pv 8) pe_int (nomark _)) pa_nil)))) pa_nil)))))))
      (pss_one (ps_ret (pv 7))))))))), ?_⟩
    obtain ⟨l0, hl0⟩ := st.lst
    refine ⟨_, rfl, a, c, 26, rfl, st, by decide, fun s0 H1 hs0 e1 s1 => ?_⟩
    obtain ⟨l1, hl1⟩ := s1.lst
    refine ⟨_, rfl, sz5 (by simp), fun q hq => ?_⟩
    have hqa : q ≠ a := fun z => by rw [z, hl1] at hq; cases hq
    have e12 : Same H1 (upd H1 q (.lst [.int 1, .int 25, .int 7, .int 19])) := Same.new hq
    refine ⟨a, c, q, _, rfl, s1.same e12, .inl upd_same, hqa, by decide, by decide, fun j x H2 hx e2 s2 => ?_⟩
    obtain ⟨t, ht, rfl⟩ : ∃ t : Nat, (t = 1 ∨ t = 25 ∨ t = 7 ∨ t = 19) ∧ x = .int (t : Int) := by
      match j, hx with
      | 0, hx => cases hx; exact ⟨1, .inl rfl, rfl⟩
      | 1, hx => cases hx; exact ⟨25, .inr (.inl rfl), rfl⟩
      | 2, hx => cases hx; exact ⟨7, .inr (.inr (.inl rfl)), rfl⟩
      | 3, hx => cases hx; exact ⟨19, .inr (.inr (.inr rfl)), rfl⟩
      | n + 4, hx => simp at hx
    refine ⟨_, rfl, _, rfl, .inr ⟨false, rfl, _, _, rfl, rfl, a, c, 3, rfl, s2, by decide, fun kd H3 hkd e3 s3 => ?_⟩⟩
    refine ⟨sz5 (by simp), fun L hL => ?_⟩
    have e03 := ((e1.trans e12.kp).trans e2).trans e3
    obtain ⟨l3, hl3⟩ := s3.lst
    have hLa : L ≠ a := fun z => by rw [z, hl3] at hL; cases hL
    have hL0 : H L = none := by
      cases q : H L with
      | none => rfl
      | some o => rw [e03 _ _ q hLa] at hL; cases hL
    have e34 : Same H3 (upd H3 L (.lst [])) := Same.new hL
    refine ⟨_, rfl, _, rfl, by omega, by omega, ?_⟩
    refine for_it walk_r0 (fun i σ H' => Kp a H H' ∧ Sto H' a c ∧ H' L = some (.lst ((labs kd s0 t i).map V.str)) ∧ ∃ o8 o9 o10, σ = [some (.ref a), some (.int (m : Int)), some (.bl false), some (.str "abcdefghijklmnopqrstuvwxyz"), some (.int (s0 : Int)), some (.int (t : Int)), some (.int (kd : Int)), some (.ref L), o8, o9, o10])
      ⟨e03.trans e34.kp, s3.same e34, upd_same, _, _, _, rfl⟩ (fun _ _ _ _ _ => True.intro) ?_ ?_
    · rintro i y σ _ H4 hi ⟨e4, s4, hL4, o8, o9, o10, rfl⟩ ⟨rfl, rfl⟩
      have hpos : ((s0 : Int) + (t : Int) * (i : Int)) % 26 = ((posT s0 t i : Nat) : Int) := by unfold posT; omega
      have hat : atI (Str.ofString "abcdefghijklmnopqrstuvwxyz").cps.toList ((posT s0 t i : Nat) : Int) = some (97 + posT s0 t i) := atI_nat (letter_fin ⟨_, pos_lt s0 t i⟩)
      refine ⟨_, rfl, _, rfl, _, rfl, _, rfl, _, _, rfl, rfl, .inr ⟨by omega, by omega⟩, _, _, rfl, rfl, .inl ⟨_, rfl, _, _, rfl, rfl, (by show (0 : Int) < 26; decide), ?_⟩⟩
      show rIxS _ (V.int (((s0 : Int) + (t : Int) * (i : Int)) % 26)) _ _
      rw [hpos]
      refine ⟨_, _, _, rfl, rfl, sz5 (by decide), hat, ?_⟩
      have hr6 : i % 6 < 6 := Nat.mod_lt _ (by decide)
      refine ⟨_, rfl, _, rfl, _, _, rfl, rfl, sz5 (by show 5 + 1 ≤ 100000; decide), _, rfl, _, rfl, .inl ⟨_, rfl, _, _, rfl, rfl, (by show (0 : Int) < 6; decide), _, _, rfl, rfl, _, _, rfl, rfl, mulOk_s _ (i % 6) hr6, _, rfl, _, _, rfl, rfl, sz5 (by show 3 + 1 ≤ 100000; decide), sz5 (by simp), fun q2 hq2 => ?_⟩⟩
      have hq2L : q2 ≠ L := fun z => by rw [z, hL4] at hq2; cases hq2
      have e45 : Same H4 (upd H4 q2 (.lst [.str ⟨#[97 + posT s0 t i]⟩, .str (w2S ++ ⟨#[97 + posT s0 t i]⟩), .str (Txt.mul ⟨#[97 + posT s0 t i]⟩ (1 + (i : Int) % 6)), .str (Str.ofString "u1." ++ ⟨#[97 + posT s0 t i]⟩)])) := Same.new hq2
      have hat2 : atI [V.str ⟨#[97 + posT s0 t i]⟩, .str (w2S ++ ⟨#[97 + posT s0 t i]⟩), .str (Txt.mul ⟨#[97 + posT s0 t i]⟩ (1 + (i : Int) % 6)), .str (Str.ofString "u1." ++ ⟨#[97 + posT s0 t i]⟩)] (kd : Int) = some (.str (labT kd (97 + posT s0 t i) i)) := by
        match kd, hkd with
        | 0, _ => exact atI_nat (j := 0) rfl
        | 1, _ => exact atI_nat (j := 1) rfl
        | 2, _ => exact atI_nat (j := 2) rfl
        | n + 3, h => omega
      refine ⟨_, rfl, q2, _, _, _, rfl, rfl, SqL.of upd_same, hat2, ?_⟩
      have hL5 := e45 _ _ hL4
      refine ⟨_, rfl, .inl ⟨rfl, _, SqL.of hL5⟩, ?_⟩
      have hd0 : (i : Int) / 26 = 0 := by omega
      have hlt : (labT kd (97 + posT s0 t i) i).length ≤ 8 := name_len (lab_ok kd i (pos_lt s0 t i)).1
      refine ⟨_, rfl, _, rfl, _, _, rfl, rfl, ⟨by decide, by decide⟩, _, rfl, by rw [hd0]; decide, _, rfl, _, _, rfl, rfl, .inr ⟨_, rfl, ?_⟩⟩
      have him : i < m := by simpa using hi
      rw [decide_eq_false (show ¬ (25 : Int) < (i : Int) by omega)]
      refine ⟨_, _, rfl, rfl, mulOk_z _, _, _, rfl, rfl, ?_, ?_⟩
      · show (labT kd (97 + posT s0 t i) i).length + 0 ≤ sizeLine
        exact sz5 (by omega)
      have e6 : labT kd (97 + posT s0 t i) i ++ Txt.mul (toString ((i : Int) / 26)) 0 = labT kd (97 + posT s0 t i) i := S.app_nil _
      refine ⟨L, _, _, rfl, rfl, hL5, sz5' (by unfold labs; rw [List.length_map, List.length_map, List.length_range]; omega), ?_⟩
      have e4L : ∀ o, Kp a H (upd (upd H4 q2 (.lst [.str ⟨#[97 + posT s0 t i]⟩, .str (w2S ++ ⟨#[97 + posT s0 t i]⟩), .str (Txt.mul ⟨#[97 + posT s0 t i]⟩ (1 + (i : Int) % 6)), .str (Str.ofString "u1." ++ ⟨#[97 + posT s0 t i]⟩)])) L o) := fun o b u h n => by
        rw [upd_ne (fun z => by rw [z, hL0] at h; cases h)]
        exact e45 _ _ (e4 _ _ h n)
      refine ⟨e4L _, ?_, ?_, _, _, _, rfl⟩
      · obtain ⟨ns, i1, i2, i3, i4, z1, z2, z3⟩ := (s4.same e45).ex
        obtain ⟨lc, hlc⟩ := st.cel
        exact ⟨ns, i1, i2, i3, i4, (upd_ne hLa.symm).trans z1, (upd_ne (fun z => by rw [z, hL0] at hlc; cases hlc)).trans z2, z3⟩
      · rw [upd_same]
        show some (HO.lst (_ ++ [V.str (labT kd (97 + posT s0 t i) i ++ Txt.mul (toString ((i : Int) / 26)) 0)])) = _
        rw [e6]
        unfold labs
        rw [List.range_succ, List.map_append, List.map_append]
        rfl
    · rintro σ H4 ⟨e4, s4, hL4, o8, o9, o10, rfl⟩
      rw [Int.toNat_natCast] at hL4
      exact ⟨_, rfl, k _ L H4 (by unfold labs; rw [List.length_map, List.length_range]) labs_name (labs_nodup ht hm) e4 s4 hL0 hL4⟩
end
end Wi
set_option maxHeartbeats 4000000
set_option maxRecDepth 100000
namespace Wi
open PySem L2 PySem.Spec PyProof.Rows
/-! V3: comprehensions that draw; gates -/
theorem Sto.fresh {H H1 : Hp} {a c L : Addr} {o : HO} (h : Sto H1 a c) (h0 : Sto H a c) (hL : H L = none) : Sto (upd H1 L o) a c := by
  obtain ⟨ns, i1, i2, i3, i4, z1, z2, z3⟩ := h.ex
  obtain ⟨l, hl⟩ := h0.lst
  obtain ⟨l', hl'⟩ := h0.cel
  exact ⟨ns, i1, i2, i3, i4, (upd_ne fun z => by rw [z, hL] at hl; cases hl).trans z1, (upd_ne fun z => by rw [z, hL] at hl'; cases hl').trans z2, z3⟩
theorem Kp.fresh {H H1 : Hp} {a L : Addr} {o : HO} (e : Kp a H H1) (hL : H L = none) : Kp a H (L2.upd H1 L o) := fun b u h n => by
  rw [upd_ne fun z => by rw [z, hL] at h; cases h]
  exact e _ _ h n
theorem Sto.ne {H : Hp} {a c L : Addr} (h : Sto H a c) (hL : H L = none) : L ≠ a := fun z => by
  obtain ⟨l, hl⟩ := h.lst
  rw [← z, hL] at hl
  cases hl
theorem drawn_strs {xs : List Str} : ∀ {ds : List D}, (∀ (i : Nat) d, ds[i]? = some d → ∃ z ∈ xs, d = .str z) → ∃ zs : List Str, ds = zs.map D.str ∧ ∀ z ∈ zs, z ∈ xs
  | [], _ => ⟨[], rfl, fun _ h => nomatch h⟩
  | d :: ds, h => by
    obtain ⟨z, hz, rfl⟩ := h 0 d rfl
    obtain ⟨zs, rfl, h2⟩ := drawn_strs (ds := ds) fun i d' hd => h (i + 1) d' hd
    refine ⟨z :: zs, rfl, fun y hy => ?_⟩
    rcases List.mem_cons.mp hy with q | q
    · exact q ▸ hz
    · exact h2 y q
theorem lc_draw {J : It} {n : Nat} {G : Hp → Prop} {Y : Nat → Hp → V → Hp → Prop} (w : Walk J n G Y) {g : TG} {te : TE} {vs : List Nat} {σ : L2.St} {H1 : Hp} {L : Addr} {Qd : Hp → Prop} {a c : Addr} (Pd : Nat → D → Prop) (hz : n ≤ 100000) (hD : H1 L = none) (st : Sto H1 a c) (hG : ∀ H, Kp a H1 H → G H)
    (hs : ∀ (i : Nat) (x : V) (H H' : Hp) (Q : VK), i < n → Kp a H1 H → Sto H a c → Y i H x H' → (∀ v d H', Kp a H H' → Sto H' a c → Pd i d → Rep H' d v → Q v H') → g x (wipe σ vs) H' fun σ2 H2 => wipe σ2 vs = wipe σ vs ∧ te σ2 H2 Q)
    (hd : ∀ H ds vs, Kp a H1 H → Sto H a c → ds.length = n → (∀ i d, ds[i]? = some d → Pd i d) → H L = some (.lst vs) → RepL H ds vs → Qd H) :
    ∃ W : Nat → Nat → Hp → Prop, (∃ m, W 0 m (upd H1 L (.lst []))) ∧ ∀ i m H, W i m H →
      (J.stop i H ∧ Qd H) ∨ (J.go i H ∧ ∃ Nx : Hp → Prop, (∀ H', Nx H' → ∃ m', m' < m ∧ W (i + 1) m' H') ∧ ∀ x H', J.yld i H x H' → g x (wipe σ vs) H' fun σ2 H2 => wipe σ2 vs = wipe σ vs ∧ tYes σ2 H2 fun b H3 =>
        if b = true then te σ2 H3 fun y H4 => ∃ acc, H4 L = some (.lst acc) ∧ acc.length < sizeLine ∧ Nx (upd H4 L (.lst (acc ++ [y]))) else Nx H3) := by
  refine lc_it w (tt := tYes) (fun i H => Kp a H1 H ∧ Sto H a c ∧ ∃ ds vs, ds.length = i ∧ (∀ j d, ds[j]? = some d → Pd j d) ∧ H L = some (.lst vs) ∧ RepL H ds vs) ⟨Kp.refl.fresh hD, st.fresh st hD, [], [], rfl, (fun j d h => by simp at h), upd_same, .nil⟩ (fun i H _ h => hG H h.1) ?_ ?_
  · rintro i x H H' hi ⟨e, s1, ds, us, hl, hp, hL, r⟩ y
    refine hs i x H H' (fun y H4 => ∃ acc, H4 L = some (.lst acc) ∧ acc.length < sizeLine ∧ (Kp a H1 (upd H4 L (.lst (acc ++ [y]))) ∧ Sto (upd H4 L (.lst (acc ++ [y]))) a c ∧ ∃ ds vs, ds.length = i + 1 ∧ (∀ j d, ds[j]? = some d → Pd j d) ∧ upd H4 L (.lst (acc ++ [y])) L = some (.lst vs) ∧ RepL (upd H4 L (.lst (acc ++ [y]))) ds vs)) hi e s1 y fun v d H4 e4 s4 pd rv => ?_
    have hL4 := e4 _ _ hL (st.ne hD)
    have lr := r.len
    have tx : Tx H4 (upd H4 L (.lst (us ++ [v]))) := (Tx.refl H4).mut hL4 fun _ z => nomatch z
    refine ⟨us, hL4, sz5' (by omega), (e.trans e4).fresh hD, s4.fresh st hD, ds ++ [d], us ++ [v], by rw [List.length_append, hl]; rfl, fun j d' hj => ?_, upd_same, ((r.tx (s1.tx e4)).tx tx).snoc (rv.tx tx)⟩
    by_cases hlt : j < ds.length
    · rw [List.getElem?_append_left hlt] at hj
      exact hp j d' hj
    · rw [List.getElem?_append_right (by omega)] at hj
      have : j - ds.length = 0 := by
        cases q : j - ds.length with
        | zero => rfl
        | succ k => rw [q] at hj; simp at hj
      rw [this] at hj
      cases hj
      rw [show j = i by omega]
      exact pd
  · rintro H ⟨e, s1, ds, us, hl, hp, hL, r⟩
    exact hd H ds us e s1 hl hp hL r
section
variable {P : Program} {w : World} {K : PySem.W.Frag} {mg : Str → Option Value} {base : Heap}
theorem sc_law_slim_gate : FnScope ["_law_store_here", "_law_text", "_law_ready", "_law_ops", "_law_op_here", "_law_size", "_law_k"] ["_law_store_here", "_law_text", "_law_ready"] (defScope (top 110)) :=
  ⟨rfl, rfl, rfl, by decide +kernel, rfl, by decide +kernel, by decide +kernel⟩
def spSlimG : Sp := fun vs H Q _ => ∃ (a c p : Addr) (x : Str) (xs : List Str), vs = [.ref a, .str x, .ref p] ∧ Sto H a c ∧ H p = some (.lst (xs.map V.str)) ∧ p ≠ a ∧ xs.length ≤ 1000 ∧
  ∀ (g : Gate) v H', g.w = x → g.args.length = g.op.ar → (∀ s ∈ g.args, s ∈ xs) → Kp a H H' → Sto H' a c → Rep H' g.d v → Q v H'
def opsL : List Op := [.zero, .one, .buf, .not, .not, .and, .and, .or, .or, .xor, .xor, .mux, .mux]
theorem cal_law_slim_gate (F : Df K mg "_law_slim_gate" "_law_slim_gate" 110) (B : Bl mg) (C_law_pick : Cal P w K mg base CX0 3 "_law_pick" ["_law_store_here", "_law_row"] spPick) : Cal P w K mg base CX0 4 "_law_slim_gate" ["_law_store_here", "_law_text", "_law_ready"] spSlimG := by
  refine F.cal sc_law_slim_gate (fun vs H Q E h => ?_) (fun _ _ _ _ _ _ us hl => match us, hl with | [_, _, _], _ => rfl) (fun f cdv A outer s H vs Q E hr h => ?_)
  · obtain ⟨_, _, _, _, _, rfl, _⟩ := h
    rfl
  · obtain ⟨a, c, p, x, xs, rfl, st, hp, hpa, hz, k⟩ := h
    refine ⟨_, (pss_cons (ps_set (i := 3) sc_law_slim_gate.nd rfl (Or.inl rfl) (pe_lst (pa_cons pe_str (pa_cons pe_str (pa_cons pe_str (pa_cons pe_str (pa_cons pe_str (pa_cons pe_str (pa_cons pe_str (pa_cons pe_str (pa_cons pe_str (pa_cons pe_str (pa_cons pe_str (pa_cons pe_str (pa_cons pe_str pa_nil)))))))))))))))
      (pss_cons (ps_set (i := 4) sc_law_slim_gate.nd rfl (Or.inl rfl) (pe_callC C_law_pick (hr.mono (by decide)) rfl pass0 (pa_cons (pv 0) (pa_cons (pe_slice sl_list (pv 3) po_none (po_some (pe_op op_add pe_int (pe_op op_mul pe_int (pe_callTy call_int1 rfl B.int (by decide +kernel) (pa_cons (pe_cmpR op_gt (pe_callB call_len_seq rfl B.len PySem.boot_len (pa_cons (pv 2) pa_nil)) pe_int (nomark _)) pa_nil)))))) pa_nil))))
      (pss_cons (ps_set (i := 5) sc_law_slim_gate.nd rfl (Or.inl rfl) (pe_dget2 (hu_of hr) (pe_disp (pps_cons pe_str pe_int (pps_cons pe_str pe_int (pps_cons pe_str pe_int (pps_cons pe_str pe_int (pps_cons pe_str pe_int pps_nil))))) (by rfl) (by rfl) (fun z => by cases z) (by decide)) (pv 4) pe_int (by constructor <;> rfl)))
      (pss_one (ps_ret (pe_tup (pa_cons (pv 1) (pa_cons (pv 4) (pa_cons (pe_callTy call_tuple_of rfl B.tuple (by decide +kernel) (pa_cons (pe_lc (own := [("_law_k", 6)]) rfl sc_law_slim_gate.nd (pi_range1 rfl B.range (pa_cons (pv 5) pa_nil)) (blkOk_by (N := ["_law_store_here", "_law_text", "_law_ready", "_law_ops", "_law_op_here", "_law_size", "_law_k"]) (sc := defScope (top 110)) (own := [("_law_k", 6)]) (by decide +kernel)) (fun _ _ _ _ _ => (pg_name (i := 6) sc_law_slim_gate.nd rfl (Or.inl rfl))) (fun _ _ _ _ _ => pts_nil) (fun _ _ _ _ _ => (pe_callC C_law_pick (hr.mono (by decide)) rfl pass0 (pa_cons (pv 0) (pa_cons (pv 2) pa_nil))))) pa_nil)) pa_nil))))))))), ?_⟩
    refine ⟨sz5 (by simp), fun q hq => ?_⟩
    have hqa := st.ne hq
    have e1 : Same H (upd H q (.lst [.str "zero", .str "one", .str "buf", .str "not", .str "not", .str "and", .str "and", .str "or", .str "or", .str "xor", .str "xor", .str "mux", .str "mux"])) := Same.new hq
    have hq1 : (upd H q (.lst [.str "zero", .str "one", .str "buf", .str "not", .str "not", .str "and", .str "and", .str "or", .str "or", .str "xor", .str "xor", .str "mux", .str "mux"])) q = some (.lst (opsL.map fun o => V.str o.s)) := upd_same
    generalize upd H q (.lst [.str "zero", .str "one", .str "buf", .str "not", .str "not", .str "and", .str "and", .str "or", .str "or", .str "xor", .str "xor", .str "mux", .str "mux"]) = H1 at e1 hq1 ⊢
    refine ⟨_, rfl, _, rfl, _, rfl, p, _, rfl, .inl (SqL.of (e1 _ _ hp)), _, _, rfl, rfl, .inr ⟨_, rfl, _, _, rfl, rfl, .inl ⟨by decide, by decide⟩, _, _, rfl, rfl, _, rfl, q, _, rfl, SqL.of hq1, fun q2 hq2 => ?_⟩⟩
    have hcut : ∃ os : List Op, cutV (opsL.map fun o => V.str o.s) none (some (2 + 11 * (if decide ((0 : Int) < ((xs.map V.str).length : Int)) = true then 1 else 0))) = os.map (fun o => V.str o.s) ∧ 0 < os.length ∧ os.length ≤ 13 ∧ (xs = [] → ∀ o ∈ os, o.ar = 0) := by
      by_cases h0 : xs = []
      · subst h0
        exact ⟨[.zero, .one], rfl, by decide, by decide, fun _ => by decide⟩
      · have hp0 : (0 : Int) < ((xs.map V.str).length : Int) := by
          rw [List.length_map]
          have := List.length_pos_iff.mpr h0
          omega
        rw [if_pos (decide_eq_true hp0)]
        exact ⟨opsL, rfl, by decide, by decide, fun z => absurd z h0⟩
    obtain ⟨os, hos, os0, os13, osz⟩ := hcut
    rw [hos]
    have e2 := e1.trans (Same.new hq2 (o := .lst (os.map fun o => V.str o.s)))
    have hq2v : (upd H1 q2 (.lst (os.map fun o => V.str o.s))) q2 = some (.lst (os.map fun o => V.str o.s)) := upd_same
    have hq2a := (st.same e1).ne hq2
    generalize upd H1 q2 (.lst (os.map fun o => V.str o.s)) = H2 at e2 hq2v ⊢
    refine ⟨a, c, q2, _, rfl, st.same e2, .inl hq2v, hq2a, by rw [List.length_map]; exact os0, by rw [List.length_map]; omega, fun j y H3 hj e3 s3 => ?_⟩
    rw [List.getElem?_map] at hj
    obtain ⟨o, ho, rfl⟩ := Option.map_eq_some_iff.mp hj
    have hom := List.mem_of_getElem? ho
    have e03 := e2.kp.trans e3
    intro d hd
    refine ⟨upd_same, [(Sum.inr "zero", .int 0), (Sum.inr "one", .int 0), (Sum.inr "buf", .int 1), (Sum.inr "not", .int 1), (Sum.inr "mux", .int 3)], rfl, by decide, d, rfl, .inl ⟨_, .inl upd_same⟩, _, rfl, _, .inl ⟨_, Sum.inr o.s, Rd.of upd_same, rfl, rfl⟩, ?_⟩
    have hget : (valV (mergeK [] [((Sum.inr "zero" : Key), V.int 0), (Sum.inr "one", .int 0), (Sum.inr "buf", .int 1), (Sum.inr "not", .int 1), (Sum.inr "mux", .int 3)]) (Sum.inr o.s : Key)).getD (.int 2) = .int (o.ar : Int) := by
      cases o <;> rfl
    rw [hget]
    have hda : d ≠ a := s3.ne hd
    have e35 : Same H3 (upd (upd H3 d (.dK [])) d (.dK (mergeK [] [((Sum.inr "zero" : Key), V.int 0), (Sum.inr "one", .int 0), (Sum.inr "buf", .int 1), (Sum.inr "not", .int 1), (Sum.inr "mux", .int 3)]))) := by
      rw [updd]
      exact Same.new hd
    generalize upd (upd H3 d (.dK [])) d (.dK (mergeK [] [((Sum.inr "zero" : Key), V.int 0), (Sum.inr "one", .int 0), (Sum.inr "buf", .int 1), (Sum.inr "not", .int 1), (Sum.inr "mux", .int 3)])) = H5 at e35 ⊢
    have e05 := e03.trans e35.kp
    have s5 := s3.same e35
    have har : o.ar ≤ 3 := by cases o <;> decide
    refine ⟨_, rfl, _, rfl, _, rfl, _, rfl, by omega, by omega, fun L hL => ?_⟩
    refine lc_draw walk_r0 (fun _ d => ∃ z ∈ xs, d = .str z) (by omega) hL s5 (fun _ _ => True.intro) ?_ ?_
    · rintro i y _ H6 Q6 hi e6 s6 ⟨rfl, rfl⟩ kk
      have hne : xs ≠ [] := fun z => by
        have := osz z o hom
        omega
      refine ⟨rfl, _, rfl, _, rfl, a, c, p, _, rfl, s6, .inl ((e05.trans e6) _ _ hp hpa), hpa, by rw [List.length_map]; exact List.length_pos_iff.mpr hne, by rw [List.length_map]; omega, fun j y H7 hj e7 s7 => ?_⟩
      rw [List.getElem?_map] at hj
      obtain ⟨z, hz', rfl⟩ := Option.map_eq_some_iff.mp hj
      exact kk _ _ _ e7 s7 ⟨z, List.mem_of_getElem? hz', rfl⟩ (.str z)
    · intro H6 ds ws e6 s6 hl hpd hL6 rws
      obtain ⟨zs, rfl, hzs⟩ := drawn_strs hpd
      obtain rfl := rws.strs
      rw [List.length_map, Int.toNat_natCast] at hl
      refine ⟨L, _, rfl, .inl ⟨SqL.of hL6, fun t ht => ⟨sz5 (by simp), fun v hv => ?_⟩⟩⟩
      have e68 := (Same.new ht (o := .tup (zs.map V.str))).trans (Same.new hv (o := .tup [.str x, .str o.s, .ref t]))
      exact k ⟨x, o, zs⟩ _ _ rfl hl hzs ((e05.trans e6).trans e68.kp) (s6.same e68) (rep_gate (x := x) (o := o) (args := zs) upd_same (Rep.ofStrs (Same.new hv _ _ upd_same)))
end
end Wi
set_option maxHeartbeats 4000000
set_option maxRecDepth 100000
namespace Wi
open PySem L2 PySem.Spec PyProof.Rows
/-! V4: the law's run of a net -/
theorem bit_xmul (a b : Bool) : Builtin.bitXor (b2i a) (1 * (if b = true then 1 else 0)) = b2i (a != b) := by cases a <;> cases b <;> decide +kernel
theorem bit_mux (s x y : Bool) : Builtin.bitOr (Builtin.bitAnd (Builtin.bitXor 1 (b2i s)) (b2i x)) (Builtin.bitAnd (b2i s) (b2i y)) = b2i (if s then y else x) := by cases s <;> cases x <;> cases y <;> decide +kernel
section
variable {P : Program} {w : World} {K : PySem.W.Frag} {mg : Str → Option Value} {base : Heap}
theorem sc_law_op : FnScope ["_law_op_here", "_law_bits", "_law_full"] ["_law_op_here", "_law_bits", "_law_full"] (defScope (top 112)) :=
  ⟨rfl, rfl, rfl, by decide +kernel, rfl, by decide +kernel, by decide +kernel⟩
def spLOp : Sp := fun vs H Q _ => ∃ (o : Op) (l : Addr) (as : List Bool), vs = [.str o.s, .ref l, .int 1] ∧ H l = some (.lst (as.map bitV)) ∧ as.length = o.ar ∧ ∀ H', Same H H' → Q (bitV (o.ev as)) H'
theorem cal_law_op (F : Df K mg "_law_op" "_law_op" 112) (B : Bl mg) : Cal P w K mg base CX0 1 "_law_op" ["_law_op_here", "_law_bits", "_law_full"] spLOp := by
  refine F.cal sc_law_op (fun vs H Q E h => ?_) (fun _ _ _ _ _ _ us hl => match us, hl with | [_, _, _], _ => rfl) (fun f cdv A outer s H vs Q E hr h => ?_)
  · obtain ⟨o, l, as, rfl, _⟩ := h
    rfl
  · obtain ⟨o, l, as, rfl, hl, hlen, k⟩ := h
    refine ⟨_, (pss_cons (ps_if (pt_cmpR op_eq (pe_callB call_len_seq rfl B.len PySem.boot_len (pa_cons (pv 1) pa_nil)) pe_int (nomark _))
        (pss_one (ps_ret (pe_op op_mul (pv 2) (pe_callTy call_int1 rfl B.int (by decide +kernel) (pa_cons (pe_cmpR op_eq (pv 0) pe_str (nomark _)) pa_nil)))))
        pss_nil)
      (pss_cons (ps_if (pt_cmpR op_eq (pe_callB call_len_seq rfl B.len PySem.boot_len (pa_cons (pv 1) pa_nil)) pe_int (nomark _))
        (pss_one (ps_ret (pe_op op_xor (pe_ix (r := rIxL K) ix_list (pv 1) pe_int (fun _ _ => rfl)) (pe_op op_mul (pv 2) (pe_callTy call_int1 rfl B.int (by decide +kernel) (pa_cons (pe_cmpR op_eq (pv 0) pe_str (nomark _)) pa_nil))))))
        pss_nil)
      (pss_cons (ps_if (pt_cmpR op_eq (pe_callB call_len_seq rfl B.len PySem.boot_len (pa_cons (pv 1) pa_nil)) pe_int (nomark _))
        (pss_one (ps_ret (pe_op op_or (pe_op op_and (pe_op op_xor (pv 2) (pe_ix (r := rIxL K) ix_list (pv 1) pe_int (fun _ _ => rfl))) (pe_ix (r := rIxL K) ix_list (pv 1) pe_int (fun _ _ => rfl))) (pe_op op_and (pe_ix (r := rIxL K) ix_list (pv 1) pe_int (fun _ _ => rfl)) (pe_ix (r := rIxL K) ix_list (pv 1) pe_int (fun _ _ => rfl))))))
        pss_nil)
      (pss_cons (ps_if (pt_cmpR op_eq (pv 0) pe_str (nomark _))
        (pss_one (ps_ret (pe_op op_xor (pe_ix (r := rIxL K) ix_list (pv 1) pe_int (fun _ _ => rfl)) (pe_ix (r := rIxL K) ix_list (pv 1) pe_int (fun _ _ => rfl)))))
        pss_nil)
      (pss_one (ps_ret (pe_ix (r := rIxL K) ix_list (pe_lst (pa_cons (pe_op op_and (pe_ix (r := rIxL K) ix_list (pv 1) pe_int (fun _ _ => rfl)) (pe_ix (r := rIxL K) ix_list (pv 1) pe_int (fun _ _ => rfl))) (pa_cons (pe_op op_or (pe_ix (r := rIxL K) ix_list (pv 1) pe_int (fun _ _ => rfl)) (pe_ix (r := rIxL K) ix_list (pv 1) pe_int (fun _ _ => rfl))) pa_nil))) (pe_callTy call_int1 rfl B.int (by decide +kernel) (pa_cons (pe_cmpR op_eq (pv 0) pe_str (nomark _)) pa_nil)) (fun _ _ => rfl)))))))), ?_⟩
    have k0 := k H (Same.refl H)
    have ix : ∀ (j : Nat) (z : Bool) (σ : L2.St) (H' : Hp) (Q : VK), σ[1]? = some (some (V.ref l)) → as[j]? = some z → Same H H' → Q (.int (b2i z)) H' → tOp (rIxL K) (tVar 1) (tC (.int (j : Int))) σ H' Q := fun j z σ H' Q hs hz e q =>
      ⟨_, hs, l, _, _, _, rfl, rfl, SqL.of (e _ _ hl), atI_nat (by rw [List.getElem?_map, hz]; rfl), q⟩
    have L : ∀ (j : Nat), decide (V.int ((as.map bitV).length : Int) = V.int (j : Int)) = decide (as.length = j) := fun j => by
      rw [List.length_map]
      by_cases z : as.length = j
      · rw [decide_eq_true z, z]; simp
      · rw [decide_eq_false z, decide_eq_false fun q => z (by have := V.int.inj q; omega)]
    have hL : ∀ {σ : L2.St}, σ[1]? = some (some (V.ref l)) → SqL K H l (as.map bitV) := fun _ => SqL.of hl
    refine ⟨_, rfl, l, _, rfl, .inl (SqL.of hl), rfl, _, rfl, ?_⟩
    rw [show (V.int 0) = V.int ((0 : Nat) : Int) from rfl, L 0]
    cases o with
    | zero =>
      refine ifT (decide_eq_true hlen) ⟨_, rfl, _, rfl, rfl, .inr ⟨_, rfl, _, _, rfl, rfl, .inl ⟨by decide, by decide⟩, ?_⟩⟩
      rw [show decide (V.str Op.zero.s = V.str (Str.ofString "one")) = false from opS_eq .zero .one]
      exact k0
    | one =>
      refine ifT (decide_eq_true hlen) ⟨_, rfl, _, rfl, rfl, .inr ⟨_, rfl, _, _, rfl, rfl, .inl ⟨by decide, by decide⟩, ?_⟩⟩
      rw [show decide (V.str Op.one.s = V.str (Str.ofString "one")) = true from opS_eq .one .one]
      exact k0
    | buf =>
      match as, hlen, ix, L, hl, k0 with
      | [a], hlen, ix, L, hl, k0 =>
        refine ifF (decide_eq_false (by show ¬ 1 = 0; decide)) ⟨_, rfl, l, _, rfl, .inl (SqL.of hl), rfl, _, rfl, ?_⟩
        refine ifT rfl (ix 0 a _ _ _ rfl rfl (Same.refl _) ⟨_, rfl, _, rfl, rfl, .inr ⟨_, rfl, _, _, rfl, rfl, .inl ⟨by decide, by decide⟩, _, _, rfl, rfl, ?_⟩⟩)
        rw [show decide (V.str Op.buf.s = V.str (Str.ofString "not")) = false from opS_eq .buf .not]
        show Q (.int (Builtin.bitXor (b2i a) (1 * (if false = true then 1 else 0)))) H
        rw [bit_xmul]
        cases a <;> exact k0
    | not =>
      match as, hlen, ix, L, hl, k0 with
      | [a], hlen, ix, L, hl, k0 =>
        refine ifF (decide_eq_false (by show ¬ 1 = 0; decide)) ⟨_, rfl, l, _, rfl, .inl (SqL.of hl), rfl, _, rfl, ?_⟩
        refine ifT rfl (ix 0 a _ _ _ rfl rfl (Same.refl _) ⟨_, rfl, _, rfl, rfl, .inr ⟨_, rfl, _, _, rfl, rfl, .inl ⟨by decide, by decide⟩, _, _, rfl, rfl, ?_⟩⟩)
        rw [show decide (V.str Op.not.s = V.str (Str.ofString "not")) = true from opS_eq .not .not]
        show Q (.int (Builtin.bitXor (b2i a) (1 * (if true = true then 1 else 0)))) H
        rw [bit_xmul]
        cases a <;> exact k0
    | mux =>
      match as, hlen, ix, L, hl, k0 with
      | [a, b, c], hlen, ix, L, hl, k0 =>
        refine ifF (decide_eq_false (by show ¬ 3 = 0; decide)) ⟨_, rfl, l, _, rfl, .inl (SqL.of hl), rfl, _, rfl, ?_⟩
        refine ifF rfl ⟨_, rfl, l, _, rfl, .inl (SqL.of hl), rfl, _, rfl, ifT rfl ?_⟩
        refine ⟨_, rfl, ix 0 a _ _ _ rfl rfl (Same.refl _) ⟨_, _, rfl, rfl, ix 1 b _ _ _ rfl rfl (Same.refl _) ⟨_, _, rfl, rfl, ix 0 a _ _ _ rfl rfl (Same.refl _) (ix 2 c _ _ _ rfl rfl (Same.refl _) ⟨_, _, rfl, rfl, _, _, rfl, rfl, ?_⟩)⟩⟩⟩
        show Q (.int _) H
        rw [bit_mux]
        exact k0
    | xor =>
      match as, hlen, ix, L, hl, k0 with
      | [a, b], hlen, ix, L, hl, k0 =>
        refine ifF (decide_eq_false (by show ¬ 2 = 0; decide)) ⟨_, rfl, l, _, rfl, .inl (SqL.of hl), rfl, _, rfl, ?_⟩
        refine ifF rfl ⟨_, rfl, l, _, rfl, .inl (SqL.of hl), rfl, _, rfl, ifF rfl ?_⟩
        refine ⟨_, rfl, rfl, _, rfl, ifT (opS_eq .xor .xor) (ix 0 a _ _ _ rfl rfl (Same.refl _) (ix 1 b _ _ _ rfl rfl (Same.refl _) ⟨_, _, rfl, rfl, ?_⟩))⟩
        show Q (.int (Builtin.bitXor (b2i a) (b2i b))) H
        rw [bit_xor]
        exact k0
    | and =>
      match as, hlen, ix, L, hl, k, k0 with
      | [a, b], hlen, ix, L, hl, k, k0 =>
        refine ifF (decide_eq_false (by show ¬ 2 = 0; decide)) ⟨_, rfl, l, _, rfl, .inl (SqL.of hl), rfl, _, rfl, ?_⟩
        refine ifF rfl ⟨_, rfl, l, _, rfl, .inl (SqL.of hl), rfl, _, rfl, ifF rfl ?_⟩
        refine ⟨_, rfl, rfl, _, rfl, ifF (opS_eq .and .xor) (ix 0 a _ _ _ rfl rfl (Same.refl _) (ix 1 b _ _ _ rfl rfl (Same.refl _) ⟨_, _, rfl, rfl, (ix 0 a _ _ _ rfl rfl (Same.refl _) (ix 1 b _ _ _ rfl rfl (Same.refl _) ⟨_, _, rfl, rfl, sz5 (by simp), fun q hq => ?_⟩))⟩))⟩
        have kq := k _ (Same.new hq (o := .lst [.int (Builtin.bitAnd (b2i a) (b2i b)), .int (Builtin.bitOr (b2i a) (b2i b))]))
        refine ⟨_, rfl, rfl, .inr ⟨_, rfl, ?_⟩⟩
        rw [show decide (V.str Op.and.s = V.str (Str.ofString "or")) = false from opS_eq .and .or]
        refine ⟨q, _, _, _, rfl, rfl, SqL.of upd_same, atI_nat (j := 0) rfl, ?_⟩
        show Q (.int (Builtin.bitAnd (b2i a) (b2i b))) _
        rw [bit_and]
        exact kq
    | or =>
      match as, hlen, ix, L, hl, k, k0 with
      | [a, b], hlen, ix, L, hl, k, k0 =>
        refine ifF (decide_eq_false (by show ¬ 2 = 0; decide)) ⟨_, rfl, l, _, rfl, .inl (SqL.of hl), rfl, _, rfl, ?_⟩
        refine ifF rfl ⟨_, rfl, l, _, rfl, .inl (SqL.of hl), rfl, _, rfl, ifF rfl ?_⟩
        refine ⟨_, rfl, rfl, _, rfl, ifF (opS_eq .or .xor) (ix 0 a _ _ _ rfl rfl (Same.refl _) (ix 1 b _ _ _ rfl rfl (Same.refl _) ⟨_, _, rfl, rfl, (ix 0 a _ _ _ rfl rfl (Same.refl _) (ix 1 b _ _ _ rfl rfl (Same.refl _) ⟨_, _, rfl, rfl, sz5 (by simp), fun q hq => ?_⟩))⟩))⟩
        have kq := k _ (Same.new hq (o := .lst [.int (Builtin.bitAnd (b2i a) (b2i b)), .int (Builtin.bitOr (b2i a) (b2i b))]))
        refine ⟨_, rfl, rfl, .inr ⟨_, rfl, ?_⟩⟩
        rw [show decide (V.str Op.or.s = V.str (Str.ofString "or")) = true from opS_eq .or .or]
        refine ⟨q, _, _, _, rfl, rfl, SqL.of upd_same, atI_nat (j := 1) rfl, ?_⟩
        show Q (.int (Builtin.bitOr (b2i a) (b2i b))) _
        rw [bit_or]
        exact kq
end
end Wi
set_option maxHeartbeats 4000000
set_option maxRecDepth 100000
namespace Wi
open PySem L2 PySem.Spec PyProof.Rows
section
variable {X : Cx} {K : PySem.W.Frag}
theorem call_tuple_ofK (hK : X.K = K) : CallR X (.type "tuple") (fun xs H Q => ∃ p ys, xs = [.ref p] ∧ ((SqL K H p ys ∧ ∀ l, H l = none → Q (.ref l) (upd H l (.tup ys))) ∨ (SqT K H p ys ∧ Q (.ref p) H))) := by
  subst hK
  exact call_tuple_of
end
section
variable {P : Program} {w : World} {K : PySem.W.Frag} {mg : Str → Option Value} {base : Heap}
theorem drawn_bits : ∀ {ds : List D}, (∀ (i : Nat) d, ds[i]? = some d → ∃ b : Bool, d = .int (b2i b)) → ∃ bs : List Bool, ds = bs.map fun b => D.int (b2i b)
  | [], _ => ⟨[], rfl⟩
  | d :: ds, h => by
    obtain ⟨b, rfl⟩ := h 0 d rfl
    obtain ⟨bs, rfl⟩ := drawn_bits (ds := ds) fun i d' hd => h (i + 1) d' hd
    exact ⟨b :: bs, rfl⟩
theorem drawn_rows {n : Nat} : ∀ {ds : List D}, (∀ (i : Nat) d, ds[i]? = some d → ∃ bs : List Bool, bs.length = n ∧ d = bitsD bs) → ∃ rows : List (List Bool), ds = rows.map bitsD ∧ ∀ r ∈ rows, r.length = n
  | [], _ => ⟨[], rfl, fun _ h => nomatch h⟩
  | d :: ds, h => by
    obtain ⟨b, hb, rfl⟩ := h 0 d rfl
    obtain ⟨bs, rfl, h2⟩ := drawn_rows (ds := ds) fun i d' hd => h (i + 1) d' hd
    refine ⟨b :: bs, rfl, fun y hy => ?_⟩
    rcases List.mem_cons.mp hy with q | q
    · exact q ▸ hb
    · exact h2 y q
theorem bit_of {j : Nat} (h : j = 0 ∨ j < 2) : ∃ b : Bool, (j : Int) = b2i b := by
  rcases j with _ | j
  · exact ⟨false, rfl⟩
  · rcases j with _ | j
    · exact ⟨true, rfl⟩
    · omega
theorem sc_law_bit_rows : FnScope ["_law_store_here", "_law_count", "_law_many", "_law_k", "_law_tick"] ["_law_store_here", "_law_count", "_law_many"] (defScope (top 117)) :=
  ⟨rfl, rfl, rfl, by decide +kernel, rfl, by decide +kernel, by decide +kernel⟩
def spBitR : Sp := fun vs H Q _ => ∃ (a c : Addr) (n m : Nat), vs = [.ref a, .int (n : Int), .int (m : Int)] ∧ Sto H a c ∧ n ≤ 1000 ∧ m ≤ 1000 ∧ ∀ (rows : List (List Bool)) v H', rows.length = m → (∀ r ∈ rows, r.length = n) → Kp a H H' → Sto H' a c → Rep H' (rowsD rows) v → Q v H'
theorem cal_law_bit_rows (F : Df K mg "_law_bit_rows" "_law_bit_rows" 117) (B : Bl mg) (C_law_take : Cal P w K mg base CX0 2 "_law_take" ["_law_store_here", "_law_many"] spTake) : Cal P w K mg base CX0 3 "_law_bit_rows" ["_law_store_here", "_law_count", "_law_many"] spBitR := by
  refine F.cal sc_law_bit_rows (fun vs H Q E h => ?_) (fun _ _ _ _ _ _ us hl => match us, hl with | [_, _, _], _ => rfl) (fun f cdv A outer s H vs Q E hr h => ?_)
  · obtain ⟨_, _, _, _, rfl, _⟩ := h
    rfl
  · obtain ⟨a, c, n, m, rfl, st, hn, hm, k⟩ := h
    refine ⟨_, (pss_one (ps_ret (pe_callTy call_tuple_of rfl B.tuple (by decide +kernel) (pa_cons (pe_lc (own := [("_law_tick", 4)]) rfl sc_law_bit_rows.nd (pi_range1 rfl B.range (pa_cons (pv 2) pa_nil)) (blkOk_by (N := ["_law_store_here", "_law_count", "_law_many", "_law_k", "_law_tick"]) (sc := defScope (top 117)) (own := [("_law_tick", 4)]) (by decide +kernel)) (fun _ _ _ _ _ => (pg_name (i := 4) sc_law_bit_rows.nd rfl (Or.inl rfl))) (fun _ _ _ _ _ => pts_nil) (fun _ _ _ _ _ => (pe_callTy (call_tuple_ofK (K := K) rfl) rfl B.tuple (by decide +kernel) (pa_cons (pe_lc (own := [("_law_k", 3)]) rfl sc_law_bit_rows.nd (pi_range1 rfl B.range (pa_cons (pv 1) pa_nil)) (blkOk_by (N := ["_law_store_here", "_law_count", "_law_many", "_law_k", "_law_tick"]) (own := [("_law_k", 3)]) (by rfl)) (fun _ _ _ _ _ => (pg_name (i := 3) sc_law_bit_rows.nd rfl (Or.inl rfl))) (fun _ _ _ _ _ => pts_nil) (fun _ _ _ _ _ => (pe_callC C_law_take (hr.mono (by decide)) rfl pass0 (pa_cons (pv 0) (pa_cons pe_int pa_nil))))) pa_nil)))) pa_nil)))), ?_⟩
    refine ⟨_, rfl, _, rfl, by omega, by omega, fun L hL => ?_⟩
    refine lc_draw walk_r0 (fun _ d => ∃ bs : List Bool, bs.length = n ∧ d = bitsD bs) (by omega) hL st (fun _ _ => True.intro) ?_ ?_
    · rintro i y _ H1 Q1 hi e1 s1 ⟨rfl, rfl⟩ kk
      refine ⟨rfl, _, rfl, _, rfl, by omega, by omega, fun L1 hL1 => ?_⟩
      refine lc_draw walk_r0 (fun _ d => ∃ b : Bool, d = .int (b2i b)) (by omega) hL1 s1 (fun _ _ => True.intro) ?_ ?_
      · rintro i2 y2 _ H2 Q2 hi2 e2 s2 ⟨rfl, rfl⟩ kk2
        refine ⟨rfl, _, rfl, a, c, 2, rfl, s2, by decide, fun j H3 hj e3 s3 => ?_⟩
        obtain ⟨b, hb⟩ := bit_of hj
        exact kk2 _ (.int j) _ e3 s3 ⟨b, by rw [hb]⟩ (.int _)
      · intro H2 ds ws e2 s2 hl hp hL2 rws
        obtain ⟨bs, rfl⟩ := drawn_bits hp
        rw [List.length_map, Int.toNat_natCast] at hl
        exact ⟨L1, _, rfl, .inl ⟨SqL.of hL2, fun t ht => kk _ (bitsD bs) _ (e2.trans (Same.new ht).kp) (s2.same (Same.new ht)) ⟨bs, hl, rfl⟩ (.tup upd_same (rws.ex (Same.new ht)))⟩⟩
    · intro H1 ds ws e1 s1 hl hp hL1 rws
      obtain ⟨rows, rfl, hrs⟩ := drawn_rows hp
      rw [List.length_map, Int.toNat_natCast] at hl
      exact ⟨L, _, rfl, .inl ⟨SqL.of hL1, fun t ht => k rows _ _ hl hrs (e1.trans (Same.new ht).kp) (s1.same (Same.new ht)) (.tup upd_same (rws.ex (Same.new ht)))⟩⟩
end
end Wi
set_option maxHeartbeats 4000000
set_option maxRecDepth 100000
namespace Wi
open PySem L2 PySem.Spec PyProof.Rows
/-- a tick's dict: what the wires of xs are -/
def Tick (H : Hp) (d : Addr) (xs : List Str) (ρ : Str → Bool) : Prop := ∃ n f, SD H d n f ∧ ∀ x ∈ xs, f x = some (bitV (ρ x))
theorem Tick.same {H H' : Hp} {d : Addr} {xs : List Str} {ρ : Str → Bool} (h : Tick H d xs ρ) (e : Same H H') : Tick H' d xs ρ := let ⟨n, f, a, b⟩ := h; ⟨n, f, a.same e, b⟩
theorem Tick.get {H : Hp} {d : Addr} {xs : List Str} {ρ : Str → Bool} (h : Tick H d xs ρ) {x : Str} (hx : x ∈ xs) : DGet H d (.str x) (some (bitV (ρ x))) := by
  obtain ⟨n, f, a, b⟩ := h
  rw [← b x hx]
  exact a.get x
def Ticks (H : Hp) (ds : List Addr) (xs : List Str) (ρs : List (Str → Bool)) : Prop := ds.length = ρs.length ∧ ∀ (i : Nat) (d : Addr) (ρ : Str → Bool), ds[i]? = some d → ρs[i]? = some ρ → Tick H d xs ρ
section
variable {P : Program} {w : World} {K : PySem.W.Frag} {mg : Str → Option Value} {base : Heap}
theorem sc_law_shown : FnScope ["_law_ticks", "_law_texts", "_law_text", "_law_seen"] ["_law_ticks", "_law_texts"] (defScope (top 114)) :=
  ⟨rfl, rfl, rfl, by decide +kernel, rfl, by decide +kernel, by decide +kernel⟩
def spShown : Sp := fun vs H Q _ => ∃ (l : Addr) (vt : V) (ds : List Addr) (xs : List Str) (ρs : List (Str → Bool)), vs = [.ref l, vt] ∧ H l = some (.lst (ds.map V.ref)) ∧ Rep H (strsD xs) vt ∧ Ticks H ds xs ρs ∧ ds.length ≤ 1000 ∧ xs.length ≤ 1000 ∧ ∀ v H', Same H H' → Rep H' (rowsD (ρs.map fun ρ => xs.map ρ)) v → Q v H'
theorem cal_law_shown (F : Df K mg "_law_shown" "_law_shown" 114) (B : Bl mg) : Cal P w K mg base CX0 1 "_law_shown" ["_law_ticks", "_law_texts"] spShown := by
  refine F.cal sc_law_shown (fun vs H Q E h => ?_) (fun _ _ _ _ _ _ us hl => match us, hl with | [_, _], _ => rfl) (fun f cdv A outer s H vs Q E hr h => ?_)
  · obtain ⟨_, _, _, _, _, rfl, _⟩ := h
    rfl
  · obtain ⟨l, vt, ds, xs, ρs, rfl, hl, rt, ht, hz, hzx, k⟩ := h
    refine ⟨_, (pss_one (ps_ret (pe_callTy call_tuple_of rfl B.tuple (by decide +kernel) (pa_cons (pe_lc (own := [("_law_seen", 3)]) rfl sc_law_shown.nd (pi_list (pv 0)) (blkOk_by (N := ["_law_ticks", "_law_texts", "_law_text", "_law_seen"]) (sc := defScope (top 114)) (own := [("_law_seen", 3)]) (by decide +kernel)) (fun _ _ _ _ _ => (pg_name (i := 3) sc_law_shown.nd rfl (Or.inr rfl))) (fun _ _ _ _ _ => pts_nil) (fun _ _ _ _ _ => (pe_callTy (call_tuple_ofK (K := K) rfl) rfl B.tuple (by decide +kernel) (pa_cons (pe_lc (own := [("_law_text", 2)]) rfl sc_law_shown.nd (pi_tupK (K := K) rfl (pv 1)) (blkOk_by (N := ["_law_ticks", "_law_texts", "_law_text", "_law_seen"]) (own := [("_law_text", 2)]) (by rfl)) (fun _ _ _ _ _ => (pg_name (i := 2) sc_law_shown.nd rfl (Or.inl rfl))) (fun _ _ _ _ _ => pts_nil) (fun _ _ _ _ _ => (pe_dget (hu_of hr) (pv 3) (pv 2) (fun _ _ => rfl)))) pa_nil)))) pa_nil)))), ?_⟩
    obtain ⟨pt, rfl, hpt⟩ := rt.strs
    refine ⟨_, rfl, l, rfl, ⟨_, SqL.of hl⟩, fun L hL => ?_⟩
    refine lc_data (walk_list (xs := ds.map V.ref)) ((ρs.map fun ρ => xs.map ρ).map bitsD) (by rw [List.length_map, List.length_map, List.length_map]; exact ht.1.symm) (by rw [List.length_map]; omega) hL (fun H1 e => SqL.of (e _ _ hl)) ?_ ?_
    · rintro i y dd _ H1 Q1 hi e1 ⟨rfl, hy⟩ hdd kk
      rw [List.getElem?_map] at hy
      obtain ⟨d, hd, rfl⟩ := Option.map_eq_some_iff.mp hy
      rw [List.getElem?_map, List.getElem?_map] at hdd
      obtain ⟨bs, hbs, rfl⟩ := Option.map_eq_some_iff.mp hdd
      obtain ⟨ρ, hρ, rfl⟩ := Option.map_eq_some_iff.mp hbs
      have tk := (ht.2 i d ρ hd hρ).same e1
      refine ⟨rfl, _, rfl, pt, rfl, ⟨_, SqT.of (e1 _ _ hpt)⟩, fun L1 hL1 => ?_⟩
      refine lc_data (walk_tup (xs := xs.map V.str)) ((xs.map ρ).map bitD) (by rw [List.length_map, List.length_map, List.length_map]) (by rw [List.length_map]; omega) hL1 (fun H2 e => SqT.of (e _ _ (e1 _ _ hpt))) ?_ ?_
      · rintro i2 y2 dd2 _ H2 Q2 hi2 e2 ⟨rfl, hy2⟩ hdd2 kk2
        rw [List.getElem?_map] at hy2
        obtain ⟨x, hx, rfl⟩ := Option.map_eq_some_iff.mp hy2
        rw [List.getElem?_map, List.getElem?_map, hx] at hdd2
        cases hdd2
        exact ⟨rfl, _, rfl, _, rfl, d, _, rfl, (tk.same e2).get (List.mem_of_getElem? hx), kk2 _ _ (Same.refl _) (.int _)⟩
      · intro H2 ws e2 hL2 rws
        exact ⟨L1, _, rfl, .inl ⟨SqL.of hL2, fun t ht => kk _ _ (e2.trans (Same.new ht)) (.tup upd_same (rws.ex (Same.new ht)))⟩⟩
    · intro H1 ws e1 hL1 rws
      exact ⟨L, _, rfl, .inl ⟨SqL.of hL1, fun t ht => k _ _ (e1.trans (Same.new ht)) (.tup upd_same (rws.ex (Same.new ht)))⟩⟩
end
end Wi
set_option maxHeartbeats 4000000
set_option maxRecDepth 100000
namespace Wi
open PySem L2 PySem.Spec PyProof.Rows
theorem RepL.bls {H : Hp} : ∀ {bs : List Bool} {vs : List V}, RepL H (bs.map D.bl) vs → vs = bs.map V.bl
  | [], _, r => by cases r; rfl
  | b :: bs, _, r => by
    cases r with
    | cons h t =>
      cases h
      rw [RepL.bls t]
      rfl
section
variable {P : Program} {w : World} {K : PySem.W.Frag} {mg : Str → Option Value} {base : Heap}
theorem sc_law_sorted : FnScope ["_law_net", "_law_ready", "_law_wire", "_law_reg", "_law_left", "_law_out", "_law_beat", "_law_rest", "_law_gate", "_law_arg"] ["_law_net"] (defScope (top 111)) :=
  ⟨rfl, rfl, rfl, by decide +kernel, rfl, by decide +kernel, by decide +kernel⟩
def sortL (n : Net) : List Gate := (sortF n n.gates.length [] n.gates).1
def spSorted : Sp := fun vs H Q _ => ∃ (vn : V) (n : Net), vs = [vn] ∧ Rep H n.d vn ∧ NOk n ∧ ∀ L us H', Same H H' → H' L = some (.lst us) → RepL H' ((sortL n).map Gate.d) us → Q (.ref L) H'
theorem cal_law_sorted (F : Df K mg "_law_sorted" "_law_sorted" 111) (B : Bl mg) : Cal P w K mg base CX0 1 "_law_sorted" ["_law_net"] spSorted := by
  refine F.cal sc_law_sorted (fun vs H Q E h => ?_) (fun _ _ _ _ _ _ us hl => match us, hl with | [_], _ => rfl) (fun f cdv A outer s H vs Q E hr h => ?_)
  · obtain ⟨_, _, rfl, _⟩ := h
    rfl
  · obtain ⟨vn, n, rfl, rv, hn, k⟩ := h
    refine ⟨_, (pss_cons (ps_set (i := 1) sc_law_sorted.nd rfl (Or.inr rfl) pe_dnewK)
      (pss_cons (ps_for PassesOwn.never rfl (pi_list (pe_op op_cat (pe_callTy call_list_of rfl B.list (by decide +kernel) (pa_cons (pe_ix (r := rIxT K) ix_tup (pv 0) pe_int (fun _ _ => rfl)) pa_nil)) (pe_lc (own := [("_law_reg", 3)]) rfl sc_law_sorted.nd (pi_tup (pe_ix (r := rIxT K) ix_tup (pv 0) pe_int (fun _ _ => rfl))) (blkOk_by (N := ["_law_net", "_law_ready", "_law_wire", "_law_reg", "_law_left", "_law_out", "_law_beat", "_law_rest", "_law_gate", "_law_arg"]) (sc := defScope (top 111)) (own := [("_law_reg", 3)]) (by decide +kernel)) (fun _ _ _ _ _ => (pg_name (i := 3) sc_law_sorted.nd rfl (Or.inl rfl))) (fun _ _ _ _ _ => pts_nil) (fun _ _ _ _ _ => (pe_ix (r := rIxT K) ix_tup (pv 3) pe_int (fun _ _ => rfl)))))) (pg_name (i := 2) sc_law_sorted.nd rfl (Or.inl rfl))
        (pss_one (ps_dput (hu_of hr) (pv 1) (pv 2) pe_bl rfl)))
      (pss_cons (ps_set (i := 4) sc_law_sorted.nd rfl (Or.inl rfl) (pe_callTy call_list_of rfl B.list (by decide +kernel) (pa_cons (pe_ix (r := rIxT K) ix_tup (pv 0) pe_int (fun _ _ => rfl)) pa_nil)))
      (pss_cons (ps_set (i := 5) sc_law_sorted.nd rfl (Or.inl rfl) (pe_lst pa_nil))
      (pss_cons (ps_for PassesOwn.never rfl (pi_range1 rfl B.range (pa_cons (pe_callB call_len_seq rfl B.len PySem.boot_len (pa_cons (pe_ix (r := rIxT K) ix_tup (pv 0) pe_int (fun _ _ => rfl)) pa_nil)) pa_nil)) (pg_name (i := 6) sc_law_sorted.nd rfl (Or.inl rfl))
        (pss_cons (ps_set (i := 7) sc_law_sorted.nd rfl (Or.inl rfl) (pe_lst pa_nil))
        (pss_cons (ps_for PassesOwn.never rfl (pi_list (pv 4)) (pg_name (i := 8) sc_law_sorted.nd rfl (Or.inl rfl))
          (pss_one (ps_if (pt_val (pe_callB (cr_all rfl) rfl B.all (by decide +kernel) (pa_cons (pe_lc (own := [("_law_arg", 9)]) rfl sc_law_sorted.nd (pi_tup (pe_ix (r := rIxT K) ix_tup (pv 8) pe_int (fun _ _ => rfl))) (blkOk_by (N := ["_law_net", "_law_ready", "_law_wire", "_law_reg", "_law_left", "_law_out", "_law_beat", "_law_rest", "_law_gate", "_law_arg"]) (sc := defScope (top 111)) (own := [("_law_arg", 9)]) (by decide +kernel)) (fun _ _ _ _ _ => (pg_name (i := 9) sc_law_sorted.nd rfl (Or.inl rfl))) (fun _ _ _ _ _ => pts_nil) (fun _ _ _ _ _ => (pe_cmp (pc_din (hu_of hr) (pv 9) (pv 1))))) pa_nil)))
            (pss_cons (ps_dput (hu_of hr) (pv 1) (pe_ix (r := rIxT K) ix_tup (pv 8) pe_int (fun _ _ => rfl)) pe_bl rfl)
            (pss_one (ps_expr (pe_bm PySem.F.plainAttrs_list PySem.F.slot_list_append PySem.F.type_list_append mt_append (pv 5) (pa_cons (pv 8) pa_nil)))))
            (pss_one (ps_expr (pe_bm PySem.F.plainAttrs_list PySem.F.slot_list_append PySem.F.type_list_append mt_append (pv 7) (pa_cons (pv 8) pa_nil)))))))
        (pss_one (ps_set (i := 4) sc_law_sorted.nd rfl (Or.inl rfl) (pe_callTy call_list_of rfl B.list (by decide +kernel) (pa_cons (pv 7) pa_nil)))))))
      (pss_one (ps_ret (pv 5)))))))), ?_⟩
    obtain ⟨p, v1, v2, v3, v4, rfl, hp, r1, r2, r3, r4⟩ := rv.t4
    obtain ⟨p1, rfl, h1⟩ := r1.strs
    obtain ⟨p2, gs, rfl, h2, rg⟩ := r2.eTup
    obtain ⟨p3, rs, rfl, h3, rr⟩ := r3.eTup
    have lg := rg.len
    have lr := rr.len
    rw [List.length_map] at lg lr
    have hdn := hn.sz
    have hgz := hn.gsz
    have hrz : n.regs.length ≤ 300 := by
      have := hn.sz
      unfold Net.decl Net.rw at this
      simp only [List.length_append, List.length_map] at this
      omega
    have hro : n.roots.length ≤ 300 := by
      have := hn.sz
      unfold Net.decl at this
      unfold Net.roots
      simp only [List.length_append] at this ⊢
      omega
    intro d hd
    have e0 : Same H (upd H d (.dK [])) := Same.new hd
    refine ⟨_, rfl, p, _, _, _, rfl, rfl, SqT.of (e0 _ _ hp), rfl, p1, _, rfl, .inr (SqT.of (e0 _ _ h1)), fun l1 hl1 => ?_⟩
    have e1 := e0.trans (Same.new hl1 (o := .lst (n.ins.map V.str)))
    refine ⟨_, rfl, p, _, _, _, rfl, rfl, SqT.of (e1 _ _ hp), atI_nat (j := 2) rfl, p3, rfl, ⟨_, SqT.of (e1 _ _ h3)⟩, fun L hL => ?_⟩
    refine lc_data (walk_tup (xs := rs)) ((n.regs.map (·.w)).map D.str) (by rw [List.length_map, List.length_map]; exact lr) (by omega) hL (fun H1 e => SqT.of (e _ _ (e1 _ _ h3))) ?_ ?_
    · rintro i x dd _ H1 Q' hi e ⟨rfl, hx⟩ hdd qk
      obtain ⟨r, hr', rrg⟩ := rr.at hx
      obtain ⟨q, x1, x2, x3, rfl, hq, q1, q2, q3⟩ := rrg.t3
      rw [q1.eStr] at hq
      rw [List.getElem?_map, List.getElem?_map, hr'] at hdd
      cases hdd
      exact ⟨rfl, _, rfl, q, _, _, _, rfl, rfl, SqT.of (e _ _ (e1 _ _ hq)), rfl, qk _ _ (Same.refl _) (.str _)⟩
    · intro H2 ws e2 hL2 rws
      obtain rfl := rws.strs
      have e02 := e1.trans e2
      have hl12 : H2 l1 = some (.lst (n.ins.map V.str)) := e2 _ _ upd_same
      refine ⟨l1, L, _, _, rfl, rfl, hl12, hL2, ?_, fun l3 hl3 => ?_⟩
      · have : n.ins.length + n.regs.length ≤ 600 := by
          unfold Net.roots Net.rw at hro
          simp only [List.length_append, List.length_map] at hro
          omega
        exact sz5 (by simp only [List.length_map]; omega)
      have e3 := e02.trans (Same.new hl3 (o := .lst (n.ins.map V.str ++ (n.regs.map (·.w)).map V.str)))
      have hd3 : (upd H2 l3 (.lst (n.ins.map V.str ++ (n.regs.map (·.w)).map V.str))) d = some (.dK []) := by
        rw [upd_ne (fun z => by have q := e2 _ _ (Same.new hl1 (o := .lst (n.ins.map V.str)) _ _ upd_same); rw [z, hl3] at q; cases q)]
        exact e2 _ _ (Same.new hl1 _ _ upd_same)
      have hl3v : (upd H2 l3 (.lst (n.ins.map V.str ++ (n.regs.map (·.w)).map V.str))) l3 = some (.lst (n.roots.map V.str)) := by
        rw [upd_same]
        unfold Net.roots Net.rw
        rw [List.map_append]
      generalize upd H2 l3 (.lst (n.ins.map V.str ++ (n.regs.map (·.w)).map V.str)) = H3 at e3 hd3 hl3v ⊢
      have hdl3 : l3 ≠ d := fun z => by rw [z, hd3] at hl3v; cases hl3v
      refine ⟨l3, rfl, ⟨_, SqL.of hl3v⟩, ?_⟩
      have sd3 : SD H3 d 0 (inD (n.roots.take 0)) := ⟨[], hd3, Nat.le_refl _, fun x => by rw [List.take_zero]; exact (inD_none (by simp)).symm⟩
      have dne : ∀ {b : Addr} {o : HO}, H b = some o → b ≠ d := fun h z => by rw [z, hd] at h; cases h
      refine for_it (walk_list (xs := n.roots.map V.str)) (fun i σ H' => Same H H' ∧ H' l3 = some (.lst (n.roots.map V.str)) ∧ SD H' d i (inD (n.roots.take i)) ∧ ∃ o2, σ = [some (.ref p), some (.ref d), o2, none, none, none, none, none, none, none]) ⟨e3, hl3v, sd3, _, rfl⟩ (fun i σ H' _ h => SqL.of h.2.1) ?_ ?_
      · rintro i y σ _ H4 hi ⟨e4, hl4, sd, o2, rfl⟩ ⟨rfl, hy⟩
        rw [List.length_map] at hi
        rw [List.getElem?_map] at hy
        obtain ⟨x, hx, rfl⟩ := Option.map_eq_some_iff.mp hy
        obtain ⟨kvs, a1, a2, a3⟩ := sd.put (by omega) x (.bl true)
        refine ⟨_, rfl, _, rfl, d, _, rfl, a2, e4.mut hd, (upd_ne hdl3).trans hl4, a3.imp fun z => ?_, _, rfl⟩
        rw [take_succ hx]
        exact inD_snoc _ _ _
      · rintro σ H4 ⟨e4, hl4, sd, o2, rfl⟩
        rw [List.length_map, List.take_length] at sd
        refine ⟨_, rfl, p, _, _, _, rfl, rfl, SqT.of (e4 _ _ hp), atI_nat (j := 1) rfl, p2, _, rfl, .inr (SqT.of (e4 _ _ h2)), fun Ll hLl => ?_⟩
        refine ⟨sz5 (by simp), fun Lo hLo => ?_⟩
        have hLld : Ll ≠ d := fun z => by obtain ⟨kv, hk⟩ := sd.dict; rw [z, hk] at hLl; cases hLl
        have hLlo : Lo ≠ Ll := fun z => by rw [z, upd_same] at hLo; cases hLo
        have hLo4 : H4 Lo = none := by rwa [upd_ne hLlo] at hLo
        have hLod : Lo ≠ d := fun z => by obtain ⟨kv, hk⟩ := sd.dict; rw [z, hk] at hLo4; cases hLo4
        have hLoH : H Lo = none := same_none e4 hLo4
        have e5 := e4.trans ((Same.new hLl (o := .lst gs)).trans (Same.new hLo (o := .lst [])))
        have sd5 : SD (upd (upd H4 Ll (.lst gs)) Lo (.lst [])) d 300 (inD (n.roots ++ ([] : List Gate).map (·.w))) := by
          refine ((sd.mono hro).at ?_).imp fun x => by rw [List.map_nil, List.append_nil]
          rw [upd_ne hLod.symm, upd_ne hLld.symm]
        have hLl5 : (upd (upd H4 Ll (.lst gs)) Lo (.lst [])) Ll = some (.lst gs) := by rw [upd_ne hLlo.symm, upd_same]
        have hLo5 : (upd (upd H4 Ll (.lst gs)) Lo (.lst [])) Lo = some (.lst []) := upd_same
        generalize upd (upd H4 Ll (.lst gs)) Lo (.lst []) = H5 at e5 sd5 hLl5 hLo5 ⊢
        refine ⟨_, rfl, p, _, _, _, rfl, rfl, SqT.of (e5 _ _ hp), atI_nat (j := 1) rfl, p2, _, rfl, .inr (SqT.of (e5 _ _ h2)), _, rfl, by omega, by omega, ?_⟩
        refine for_it walk_r0 (fun b σ H' => Same H H' ∧ (∃ (out left : List Gate) (us ls : List V) (Ll : Addr) (N : Nat), sortF n (n.gates.length - b) out left = sortF n n.gates.length [] n.gates ∧ RepL H (out.map Gate.d) us ∧ RepL H (left.map Gate.d) ls ∧ out.length + left.length = n.gates.length ∧ (∀ g ∈ left, g ∈ n.gates) ∧ H' Lo = some (.lst us) ∧ H' Ll = some (.lst ls) ∧ Ll ≠ Lo ∧ Ll ≠ d ∧ SD H' d (300 + out.length) (inD (n.roots ++ out.map (·.w))) ∧ ∃ o2 o6 o7 o8, σ = [some (.ref p), some (.ref d), o2, none, some (.ref Ll), some (.ref Lo), o6, o7, o8, none]))
          ⟨e5, [], n.gates, [], gs, Ll, 0, by rw [Nat.sub_zero], .nil, rg, by simp, (fun g h => h), hLo5, hLl5, hLlo.symm, hLld, sd5, _, _, _, _, rfl⟩ (fun _ _ _ _ _ => True.intro) ?_ ?_
        · rintro b y σ _ H6 hb ⟨e6, out, left, us, ls, Ll, N, hs, ru, rl, hlen, hmem, hLo6, hLl6, hLlLo, hLld6, sd6, o2', o6, o7, o8, rfl⟩ ⟨rfl, rfl⟩
          rw [← lg, Int.toNat_natCast] at hb
          refine ⟨sz5 (by simp), fun Lr hLr => ?_⟩
          have hLrH := same_none e6 hLr
          have hLrd : Lr ≠ d := fun z => by obtain ⟨kv, hk⟩ := sd6.dict; rw [z, hk] at hLr; cases hLr
          have hLrLo : Lr ≠ Lo := fun z => by rw [z, hLo6] at hLr; cases hLr
          have hLrLl : Lr ≠ Ll := fun z => by rw [z, hLl6] at hLr; cases hLr
          have ll := rl.len
          rw [List.length_map] at ll
          refine ⟨_, rfl, Ll, rfl, ⟨_, SqL.of ((upd_ne hLrLl.symm).trans hLl6)⟩, ?_⟩
          refine for_it (walk_list (xs := ls)) (fun j σ H' => Same H H' ∧ (∃ (out' rest' : List Gate) (us' rs' : List V), roundF n out' rest' (left.drop j) = roundF n out [] left ∧ RepL H (out'.map Gate.d) us' ∧ RepL H (rest'.map Gate.d) rs' ∧ out'.length + rest'.length + (left.length - j) = n.gates.length ∧ (∀ g ∈ rest', g ∈ n.gates) ∧ H' Lo = some (.lst us') ∧ H' Ll = some (.lst ls) ∧ H' Lr = some (.lst rs') ∧ SD H' d (300 + out'.length) (inD (n.roots ++ out'.map (·.w))) ∧ ∃ o2 o8, σ = [some (.ref p), some (.ref d), o2, none, some (.ref Ll), some (.ref Lo), some (.int (b : Int)), some (.ref Lr), o8, none]))
            ⟨e6.trans (Same.new hLr), out, [], us, [], rfl, ru, .nil, by simpa using hlen, (fun g h => nomatch h), (upd_ne hLrLo.symm).trans hLo6, (upd_ne hLrLl.symm).trans hLl6, upd_same, sd6.at (upd_ne hLrd.symm), _, _, rfl⟩ (fun j σ H' _ h => by obtain ⟨_, _, _, _, _, _, _, _, _, _, _, h, _⟩ := h; exact SqL.of h) ?_ ?_
          · rintro j y σ _ H7 hj ⟨e7, out', rest', us', rs', hro', ru', rr', hln', hrm, hLo7, hLl7, hLr7, sd7, o2', o8, rfl⟩ ⟨rfl, hy⟩
            obtain ⟨g, hg, rgg⟩ := rl.at hy
            obtain ⟨q, x1, x2, x3, rfl, hq, q1, q2, q3⟩ := rgg.t3
            rw [q1.eStr] at hq
            obtain ⟨pa, rfl, hpa⟩ := q3.strs
            have hgm := hmem g (List.mem_of_getElem? hg)
            have hgN : g.args.length ≤ 3 := by rw [hn.sd.ar g hgm]; cases g.op <;> decide
            refine ⟨_, rfl, q, _, _, _, rfl, rfl, SqT.of (e7 _ _ hq), atI_nat (j := 2) rfl, pa, rfl, ⟨_, SqT.of (e7 _ _ hpa)⟩, fun Lb hLb => ?_⟩
            refine lc_data (walk_tup (xs := g.args.map V.str)) ((g.args.map fun x => decide (x ∈ n.roots ++ out'.map (·.w))).map D.bl) (by rw [List.length_map, List.length_map, List.length_map]) (by rw [List.length_map]; omega) hLb (fun H8 e => SqT.of (e _ _ (e7 _ _ hpa))) ?_ ?_
            · rintro i2 y2 dd _ H8 Q8 hi2 e8 ⟨rfl, hy2⟩ hdd qk
              rw [List.getElem?_map] at hy2
              obtain ⟨x, hx, rfl⟩ := Option.map_eq_some_iff.mp hy2
              rw [List.getElem?_map, List.getElem?_map, hx] at hdd
              cases hdd
              refine ⟨rfl, _, rfl, _, rfl, d, _, rfl, (sd7.same e8).get x, qk _ _ (Same.refl _) ?_⟩
              have : (inD (n.roots ++ out'.map (·.w)) x).isSome = decide (x ∈ n.roots ++ out'.map (·.w)) := by
                by_cases z : x ∈ n.roots ++ out'.map (·.w)
                · rw [inD_some z, decide_eq_true z]; rfl
                · rw [inD_none z, decide_eq_false z]; rfl
              rw [this]
              exact .bl _
            · intro H8 ws e8 hL8 rws
              obtain rfl := rws.bls
              have e08 := e7.trans e8
              refine ⟨Lb, _, rfl, SqL.of hL8, _, rfl, ?_⟩
              have hrd : (g.args.map fun x => decide (x ∈ n.roots ++ out'.map (·.w))).all id = rdy n out' g := by
                unfold rdy
                rw [List.all_map]; rfl
              rw [hrd]
              have lo' := ru'.len
              have lr' := rr'.len
              rw [List.length_map] at lo' lr'
              have hdrop : left.drop j = g :: left.drop (j + 1) := by
                obtain ⟨hlt, he⟩ := List.getElem?_eq_some_iff.mp hg
                rw [List.drop_eq_getElem_cons hlt, he]
              rw [hdrop] at hro'
              have hjl : j < left.length := by omega
              have hLrH : H Lr = none := hLrH
              refine if2 (fun hb1 => ?_) (fun hb1 => ?_)
              · obtain ⟨kvs, a1, a2, a3⟩ := (sd7.same e8).put (by omega) g.w (.bl true)
                have e9 := e08.mut (o := .dK (putK kvs (Sum.inr g.w) (.bl true))) hd
                have f9 : ∀ b, b ≠ d → upd H8 d (.dK (putK kvs (Sum.inr g.w) (.bl true))) b = H8 b := fun b h => upd_ne h
                generalize upd H8 d (.dK (putK kvs (Sum.inr g.w) (.bl true))) = H9 at a2 a3 e9 f9 ⊢
                have hLo9 : H9 Lo = some (.lst us') := (f9 Lo hLod).trans (e8 _ _ hLo7)
                refine ⟨_, rfl, _, rfl, q, _, _, _, rfl, rfl, SqT.of (e08 _ _ hq), rfl, d, _, rfl, a2, ?_⟩
                refine ⟨_, rfl, .inl ⟨rfl, _, SqL.of hLo9⟩, _, rfl, Lo, us', .ref q, rfl, rfl, hLo9, sz5' (by omega), e9.mut hLoH, out' ++ [g], rest', us' ++ [.ref q], rs', ?_, ?_, rr', ?_, hrm, upd_same, (upd_ne hLlLo).trans ((f9 Ll hLld6).trans (e8 _ _ hLl7)), (upd_ne hLrLo).trans ((f9 Lr hLrd).trans (e8 _ _ hLr7)), ?_, _, _, rfl⟩
                · rw [← hro']
                  show _ = if rdy n out' g = true then _ else _
                  rw [if_pos hb1]
                · rw [List.map_append]
                  exact ru'.snoc rgg
                · rw [List.length_append, List.length_singleton]; omega
                · refine ((a3.mono (m := 300 + (out' ++ [g]).length) (by rw [List.length_append, List.length_singleton]; omega)).at (upd_ne hLod.symm)).imp fun x => ?_
                  rw [List.map_append, ← List.append_assoc]
                  exact inD_snoc _ _ _
              · have hLr8 := e8 _ _ hLr7
                refine ⟨_, rfl, .inl ⟨rfl, _, SqL.of hLr8⟩, _, rfl, Lr, rs', .ref q, rfl, rfl, hLr8, sz5' (by omega), e08.mut hLrH, out', rest' ++ [g], us', rs' ++ [.ref q], ?_, ru', ?_, ?_, ?_, (upd_ne hLrLo.symm).trans (e8 _ _ hLo7), (upd_ne hLrLl.symm).trans (e8 _ _ hLl7), upd_same, (sd7.same e8).at (upd_ne hLrd.symm), _, _, rfl⟩
                · rw [← hro']
                  show _ = if rdy n out' g = true then _ else _
                  rw [if_neg (by rw [hb1]; decide)]
                · rw [List.map_append]
                  exact rr'.snoc rgg
                · rw [List.length_append, List.length_singleton]; omega
                · intro z hz
                  rcases List.mem_append.mp hz with c | c
                  · exact hrm z c
                  · rw [List.mem_singleton.mp c]; exact hgm
          · rintro σ H7 ⟨e7, out', rest', us', rs', hro', ru', rr', hln', hrm, hLo7, hLl7, hLr7, sd7, o2', o8, rfl⟩
            have hdn2 : left.drop ls.length = [] := by rw [← ll, List.drop_length]
            rw [hdn2] at hro'
            have hr1 : (roundF n out [] left) = (out', rest') := hro'.symm
            have lo' := ru'.len
            rw [List.length_map] at lo'
            refine ⟨_, rfl, Lr, _, rfl, .inl (SqL.of hLr7), fun Lq hLq => ?_⟩
            have hLqH := same_none e7 hLq
            have hLqLo : Lq ≠ Lo := fun z => by rw [z, hLo7] at hLq; cases hLq
            have hLqd : Lq ≠ d := fun z => by obtain ⟨kv, hk⟩ := sd7.dict; rw [z, hk] at hLq; cases hLq
            refine ⟨e7.mut hLqH, out', rest', us', rs', Lq, 0, ?_, ru', rr', by omega, hrm, (upd_ne hLqLo.symm).trans hLo7, upd_same, hLqLo, hLqd, sd7.at (upd_ne hLqd.symm), _, _, _, _, rfl⟩
            rw [← hs, show n.gates.length - b = (n.gates.length - (b + 1)) + 1 from by omega]
            show _ = sortF n (n.gates.length - (b + 1)) (roundF n out [] left).1 (roundF n out [] left).2
            rw [hr1]
        · rintro σ H6 ⟨e6, out, left, us, ls, Ll', N, hs, r1, r2, hlen, _, hLo6, hLl6, _, _, _, o2', o6, o7, o8, rfl⟩
          rw [← lg, Int.toNat_natCast, Nat.sub_self] at hs
          have : (sortL n) = out := by unfold sortL; rw [← hs]; rfl
          exact ⟨_, rfl, k Lo us _ e6 hLo6 (by rw [this]; exact r1.ex e6)⟩
end
end Wi
set_option maxHeartbeats 4000000
set_option maxRecDepth 100000
namespace Wi
open PySem L2 PySem.Spec PyProof.Rows
/-- the depth of data is at most k -/
def DD : Nat → D → Prop
  | _, .non => True
  | _, .bl _ => True
  | _, .int _ => True
  | _, .str _ => True
  | 0, .tup _ => False
  | k + 1, .tup l => l.length ≤ 1000 ∧ ∀ d ∈ l, DD k d
section
variable {P : Program} {w : World} {K : PySem.W.Frag} {mg : Str → Option Value} {base : Heap}
theorem sc_law_alike : FnScope ["_law_actual", "_law_due", "_law_k"] ["_law_actual", "_law_due"] (defScope (top 115)) :=
  ⟨rfl, rfl, rfl, by decide +kernel, rfl, by decide +kernel, by decide +kernel⟩
def spAlike (k : Nat) : Sp := fun vs H Q _ => ∃ (d : D) (x y : V), vs = [x, y] ∧ DD k d ∧ Rep H d x ∧ Rep H d y ∧ ∀ H', Same H H' → Q (.bl true) H'
def spA : Nat → Sp
  | 0 => fun _ _ _ _ => False
  | j + 1 => spAlike j
theorem cal_law_alike_step (F : Df K mg "_law_alike" "_law_alike" 115) (B : Bl mg) (m j : Nat) (C_law_alike : Cal P w K mg base CX0 m "_law_alike" ["_law_actual", "_law_due"] (spA j)) : Cal P w K mg base CX0 (m + 1) "_law_alike" ["_law_actual", "_law_due"] (spAlike j) := by
  refine F.cal sc_law_alike (fun vs H Q E h => ?_) (fun _ _ _ _ _ _ us hl => match us, hl with | [_, _], _ => rfl) (fun f cdv A outer s H vs Q E hr h => ?_)
  · obtain ⟨_, _, _, rfl, _⟩ := h
    rfl
  · obtain ⟨d, x, y, rfl, hd, rx, ry, k⟩ := h
    refine ⟨_, (pss_cons (ps_if (pt_val (pe_callB call_isi rfl B.isinstance (by decide +kernel) (pa_cons (pv 1) (pa_cons (pe_bltn (v := .ty "tuple") (u := .type "tuple") rfl B.tuple (by decide +kernel) rfl) pa_nil))))
        (pss_cons (ps_if (PW.pt (pw_or (pt_not (pt_val (pe_callB call_isi rfl B.isinstance (by decide +kernel) (pa_cons (pv 0) (pa_cons (pe_bltn (v := .ty "tuple") (u := .type "tuple") rfl B.tuple (by decide +kernel) rfl) pa_nil))))) (pw_or1 (pt_cmpR op_ne (pe_callB call_len_seq rfl B.len PySem.boot_len (pa_cons (pv 0) pa_nil)) (pe_callB call_len_seq rfl B.len PySem.boot_len (pa_cons (pv 1) pa_nil)) (nomark _)))))
          (pss_one (ps_ret pe_bl))
          pss_nil)
        (pss_one (ps_ret (pe_callB (cr_all rfl) rfl B.all (by decide +kernel) (pa_cons (pe_lc (own := [("_law_k", 2)]) rfl sc_law_alike.nd (pi_range1 rfl B.range (pa_cons (pe_callB call_len_seq rfl B.len PySem.boot_len (pa_cons (pv 1) pa_nil)) pa_nil)) (blkOk_by (N := ["_law_actual", "_law_due", "_law_k"]) (sc := defScope (top 115)) (own := [("_law_k", 2)]) (by decide +kernel)) (fun _ _ _ _ _ => (pg_name (i := 2) sc_law_alike.nd rfl (Or.inl rfl))) (fun _ _ _ _ _ => pts_nil) (fun _ _ _ _ _ => (pe_callC C_law_alike hr rfl pass0 (pa_cons (pe_ix (r := rIxT K) ix_tup (pv 0) (pv 2) (fun _ _ => rfl)) (pa_cons (pe_ix (r := rIxT K) ix_tup (pv 1) (pv 2) (fun _ _ => rfl)) pa_nil))))) pa_nil)))))
        pss_nil)
      (pss_cons (ps_if (pt_cmpR op_isN (pv 1) pe_non (nomark _))
        (pss_one (ps_ret (pe_cmpR op_isN (pv 0) pe_non (nomark _))))
        pss_nil)
      (pss_cons (ps_if (pt_val (pe_callB call_isi rfl B.isinstance (by decide +kernel) (pa_cons (pv 1) (pa_cons (pe_bltn (v := .ty "str") (u := .type "str") rfl B.str (by decide +kernel) rfl) pa_nil))))
        (pss_one (ps_ret (pe_and (pe_callB call_isi rfl B.isinstance (by decide +kernel) (pa_cons (pv 0) (pa_cons (pe_bltn (v := .ty "str") (u := .type "str") rfl B.str (by decide +kernel) rfl) pa_nil))) (pe_one (pe_cmpR op_eq (pv 0) (pv 1) (nomark _))))))
        pss_nil)
      (pss_one (ps_ret (pe_and (pe_callB call_isi rfl B.isinstance (by decide +kernel) (pa_cons (pv 0) (pa_cons (pe_bltn (v := .ty "int") (u := .type "int") rfl B.int (by decide +kernel) rfl) pa_nil))) (pe_and (pe_cmpR op_eq (pe_callB call_isi rfl B.isinstance (by decide +kernel) (pa_cons (pv 0) (pa_cons (pe_bltn (v := .ty "bool") (u := .type "bool") rfl B.bool (by decide +kernel) rfl) pa_nil))) (pe_callB call_isi rfl B.isinstance (by decide +kernel) (pa_cons (pv 1) (pa_cons (pe_bltn (v := .ty "bool") (u := .type "bool") rfl B.bool (by decide +kernel) rfl) pa_nil))) (nomark _)) (pe_one (pe_cmpR op_eq (pv 0) (pv 1) (nomark _)))))))))), ?_⟩
    have k0 := k H (Same.refl H)
    cases d with
    | tup l =>
      cases j with
      | zero => exact hd.elim
      | succ j =>
        obtain ⟨hz, hdl⟩ := hd
        obtain ⟨px, us, rfl, hpx, rus⟩ := rx.eTup
        obtain ⟨py, ws, rfl, hpy, rws⟩ := ry.eTup
        have lu := rus.len
        have lw := rws.len
        refine ⟨_, rfl, _, _, _, _, true, rfl, .ty _, .base (.tup hpy), kit_ty (by decide +kernel), _, rfl, ifT rfl ?_⟩
        refine ⟨_, rfl, _, _, _, _, true, rfl, .ty _, .base (.tup hpx), kit_ty (by decide +kernel), _, rfl, ?_⟩
        refine iteF ⟨_, rfl, px, _, rfl, .inr (SqT.of hpx), _, rfl, py, _, rfl, .inr (SqT.of hpy), rfl, _, rfl, ifF (by rw [← lu, ← lw]; simp) ?_⟩
        refine ⟨_, rfl, py, _, rfl, .inr (SqT.of hpy), _, rfl, by omega, by omega, fun L hL => ?_⟩
        refine lc_data walk_r0 ((l.map fun _ => true).map D.bl) (by rw [List.length_map, List.length_map, Int.toNat_natCast]; omega) (by omega) hL (fun _ _ => True.intro) ?_ ?_
        · rintro i y dd _ H1 Q1 hi e1 ⟨rfl, rfl⟩ hdd kk
          rw [Int.toNat_natCast] at hi
          have hil : i < l.length := by omega
          rw [List.getElem?_map, List.getElem?_map, List.getElem?_eq_getElem hil] at hdd
          cases hdd
          obtain ⟨u, hu, ru⟩ := rus.get (List.getElem?_eq_getElem hil)
          obtain ⟨v, hv, rv⟩ := rws.get (List.getElem?_eq_getElem hil)
          refine ⟨rfl, _, rfl, _, rfl, px, _, _, _, rfl, rfl, SqT.of (e1 _ _ hpx), atI_nat hu, _, rfl, _, rfl, py, _, _, _, rfl, rfl, SqT.of (e1 _ _ hpy), atI_nat hv, l[i], u, v, rfl, hdl _ (List.getElem_mem hil), ru.ex e1, rv.ex e1, fun H2 e2 => kk _ _ e2 (.bl _)⟩
        · intro H1 ws1 e1 hL1 rws1
          obtain rfl := rws1.bls
          refine ⟨L, _, rfl, SqL.of hL1, ?_⟩
          rw [show (l.map fun _ => true).all id = true from by rw [List.all_map]; exact List.all_eq_true.mpr fun _ _ => rfl]
          exact k _ e1
    | non =>
      obtain rfl := rx.eNon
      obtain rfl := ry.eNon
      exact ⟨_, rfl, _, _, _, _, false, rfl, .ty _, .base .non, kit_ty (by decide +kernel), _, rfl, ifF rfl ⟨_, rfl, rfl, _, rfl, ifT rfl ⟨_, rfl, rfl, k0⟩⟩⟩
    | bl b =>
      cases rx
      cases ry
      exact ⟨_, rfl, _, _, _, _, false, rfl, .ty _, .base (.bl b), kit_ty (by decide +kernel), _, rfl, ifF rfl ⟨_, rfl, rfl, _, rfl, ifF rfl ⟨_, rfl, _, _, _, _, false, rfl, .ty _, .base (.bl b), kit_ty (by decide +kernel), _, rfl, ifF rfl ⟨_, rfl, _, _, _, _, true, rfl, .ty _, .base (.bl b), kit_ty (by decide +kernel), _, rfl, ifT rfl ⟨_, rfl, _, _, _, _, true, rfl, .ty _, .base (.bl b), kit_ty (by decide +kernel), _, rfl, _, _, _, _, true, rfl, .ty _, .base (.bl b), kit_ty (by decide +kernel), rfl, _, rfl, ifT rfl ⟨_, rfl, _, rfl, by cases b <;> rfl, by rw [decide_eq_true (rfl : V.bl b = V.bl b)]; exact k0⟩⟩⟩⟩⟩⟩
    | int i =>
      cases rx
      cases ry
      exact ⟨_, rfl, _, _, _, _, false, rfl, .ty _, .base (.int i), kit_ty (by decide +kernel), _, rfl, ifF rfl ⟨_, rfl, rfl, _, rfl, ifF rfl ⟨_, rfl, _, _, _, _, false, rfl, .ty _, .base (.int i), kit_ty (by decide +kernel), _, rfl, ifF rfl ⟨_, rfl, _, _, _, _, true, rfl, .ty _, .base (.int i), kit_ty (by decide +kernel), _, rfl, ifT rfl ⟨_, rfl, _, _, _, _, false, rfl, .ty _, .base (.int i), kit_ty (by decide +kernel), _, rfl, _, _, _, _, false, rfl, .ty _, .base (.int i), kit_ty (by decide +kernel), rfl, _, rfl, ifT rfl ⟨_, rfl, _, rfl, by cases i <;> rfl, by rw [decide_eq_true (rfl : V.int i = V.int i)]; exact k0⟩⟩⟩⟩⟩⟩
    | str z =>
      cases rx
      cases ry
      refine ⟨_, rfl, _, _, _, _, false, rfl, .ty _, .base (.str z), kit_ty (by decide +kernel), _, rfl, ifF rfl ⟨_, rfl, rfl, _, rfl, ifF rfl ⟨_, rfl, _, _, _, _, true, rfl, .ty _, .base (.str z), kit_ty (by decide +kernel), _, rfl, ifT rfl ⟨_, rfl, _, _, _, _, true, rfl, .ty _, .base (.str z), kit_ty (by decide +kernel), _, rfl, ifT rfl ⟨_, rfl, _, rfl, rfl, by rw [decide_eq_true (rfl : V.str z = V.str z)]; exact k0⟩⟩⟩⟩⟩
theorem cal_law_alike0 (F : Df K mg "_law_alike" "_law_alike" 115) : Cal P w K mg base CX0 1 "_law_alike" ["_law_actual", "_law_due"] (spA 0) :=
  F.cal sc_law_alike (fun _ _ _ _ h => h.elim) (fun _ _ _ _ _ _ us hl => match us, hl with | [_, _], _ => rfl) (fun _ _ _ _ _ _ _ _ _ _ h => h.elim)
theorem cal_law_alike (F : Df K mg "_law_alike" "_law_alike" 115) (B : Bl mg) : ∀ j, Cal P w K mg base CX0 (j + 1) "_law_alike" ["_law_actual", "_law_due"] (spA j)
  | 0 => cal_law_alike0 F
  | j + 1 => cal_law_alike_step F B (j + 1) j (cal_law_alike F B j)
end
end Wi
set_option maxHeartbeats 4000000
set_option maxRecDepth 100000
namespace Wi
open PySem L2 PySem.Spec PyProof.Rows
/-! V7: the law's run -/
/-- a run, told from its start: the valuations, the state behind -/
inductive RunF (n : Net) (st : List Bool) : List (List Bool) → List (S → Bool) → List Bool → Prop
  | nil : RunF n st [] [] st
  | snoc {rs : List (List Bool)} {ρs : List (S → Bool)} {st' r : List Bool} {ρ : S → Bool} (h : RunF n st rs ρs st') (g : Good n r st' ρ) : RunF n st (rs ++ [r]) (ρs ++ [ρ]) (n.regs.map fun g => ρ g.src)
theorem RunF.runR {n : Net} {st st' : List Bool} {rs : List (List Bool)} {ρs : List (S → Bool)} (h : RunF n st rs ρs st') : ∀ {rest os : List (List Bool)}, RunR n st' rest os → RunR n st (rs ++ rest) ((ρs.map fun ρ => n.outs.map ρ) ++ os) := by
  induction h with
  | nil => exact fun h => h
  | @snoc rs ρs st' r ρ h g ih =>
    intro rest os hr
    rw [List.append_assoc, List.map_append, List.append_assoc]
    exact ih ⟨ρ, os, g, rfl, hr⟩
theorem RunF.len {n : Net} {st st' : List Bool} {rs : List (List Bool)} {ρs : List (S → Bool)} (h : RunF n st rs ρs st') : ρs.length = rs.length := by
  induction h with
  | nil => rfl
  | snoc h g ih => rw [List.length_append, List.length_append, ih]; rfl
theorem RunF.all {n : Net} {st st' : List Bool} {rs : List (List Bool)} {ρs : List (S → Bool)} (h : RunF n st rs ρs st') : RunR n st rs (ρs.map fun ρ => n.outs.map ρ) := by
  have := h.runR (rest := []) (os := []) rfl
  rwa [List.append_nil, List.append_nil] at this
theorem catA3 {H : Hp} {a b : Addr} {xs ys : List V} {Q : VK} (ha : H a = some (.tup xs)) (hb : H b = some (.tup ys)) (k : ∀ c H', Same H H' → H' c = some (.tup (xs ++ ys)) → Q (.ref c) H') :
    (xs = [] → Q (.ref b) H) ∧ (xs ≠ [] → ys = [] → Q (.ref a) H) ∧ (xs ≠ [] → ys ≠ [] → ∀ p, H p = none → Q (.ref p) (upd H p (.tup (xs ++ ys)))) := by
  refine ⟨fun e => k b H (Same.refl H) ?_, fun _ e => k a H (Same.refl H) ?_, fun _ _ p hp => k p _ (Same.new hp) upd_same⟩
  · rw [e]; exact hb
  · rw [e, List.append_nil]; exact ha
/-- t + u, told by its end -/
def rCatS3 (K : PySem.W.Frag) : R2 := fun x y H Q => ∃ a b xs ys, x = .ref a ∧ y = .ref b ∧ H a = some (.tup xs) ∧ H b = some (.tup ys) ∧ xs.length + ys.length ≤ sizeLine ∧ ∀ c H', Same H H' → H' c = some (.tup (xs ++ ys)) → Q (.ref c) H'
theorem op_catS3 {X : Cx} : OpR X (binaryOp .Add) (rCatS3 X.K) := by
  intro pins s σ H x y v u Q I rx ry h
  obtain ⟨a, b, xs, ys, rfl, rfl, ha, hb, hz, k⟩ := h
  exact op_catA pins s σ H _ _ v u Q I rx ry ⟨a, b, xs, ys, rfl, rfl, SqT.of ha, SqT.of hb, hz, catA3 ha hb k⟩
/-- what is known of the wires of l -/
def inV (ρ : Str → Bool) (l : List Str) : Str → Option V := fun x => if x ∈ l then some (bitV (ρ x)) else none
theorem inV_snoc (ρ : Str → Bool) (l : List Str) (z x : Str) : (if x = z then some (bitV (ρ z)) else inV ρ l x) = inV ρ (l ++ [z]) x := by
  unfold inV
  by_cases e : x = z
  · rw [if_pos e, if_pos (List.mem_append_right _ (List.mem_singleton.mpr e)), e]
  · rw [if_neg e]
    by_cases m : x ∈ l
    · rw [if_pos m, if_pos (List.mem_append_left _ m)]
    · rw [if_neg m, if_neg fun q => (List.mem_append.mp q).elim m fun q => e (List.mem_singleton.mp q)]
section
variable {P : Program} {w : World} {K : PySem.W.Frag} {mg : Str → Option Value} {base : Heap}
theorem sc_law_play : FnScope ["_law_net", "_law_rows", "_law_order", "_law_roots", "_law_reg", "_law_passed", "_law_ticks", "_law_row", "_law_seen", "_law_bits", "_law_k", "_law_gate", "_law_arg"] ["_law_net", "_law_rows"] (defScope (top 113)) :=
  ⟨rfl, rfl, rfl, by decide +kernel, rfl, by decide +kernel, by decide +kernel⟩
def spPlay : Sp := fun vs H Q _ => ∃ (vn vr : V) (n : Net) (rows : List (List Bool)), vs = [vn, vr] ∧ Rep H n.d vn ∧ NOk n ∧ Rep H (rowsD rows) vr ∧ (∀ r ∈ rows, r.length = n.ins.length) ∧ rows.length ≤ 300 ∧
  ∀ (q lt lp : Addr) (ds : List Addr) (ps : List V) (ρs : List (S → Bool)) (st' : List Bool) H', Same H H' → H' q = some (.tup [.ref lt, .ref lp]) → H' lt = some (.lst (ds.map V.ref)) → Ticks H' ds n.decl ρs → RunF n (n.regs.map (·.fi)) rows ρs st' → Q (.ref q) H'
theorem cal_law_play (F : Df K mg "_law_play" "_law_play" 113) (B : Bl mg) (C_law_sorted : Cal P w K mg base CX0 1 "_law_sorted" ["_law_net"] spSorted) (C_law_op : Cal P w K mg base CX0 1 "_law_op" ["_law_op_here", "_law_bits", "_law_full"] spLOp) : Cal P w K mg base CX0 2 "_law_play" ["_law_net", "_law_rows"] spPlay := by
  refine F.cal sc_law_play (fun vs H Q E h => ?_) (fun _ _ _ _ _ _ us hl => match us, hl with | [_, _], _ => rfl) (fun f cdv A outer s H vs Q E hr h => ?_)
  · obtain ⟨_, _, _, _, rfl, _⟩ := h
    rfl
  · obtain ⟨vn, vr, n, rows, rfl, rv, hn, rr0, hrl, hrz, k⟩ := h
    refine ⟨_, (pss_cons (ps_set (i := 2) sc_law_play.nd rfl (Or.inl rfl) (pe_callC C_law_sorted (hr.mono (by decide)) rfl pass0 (pa_cons (pv 0) pa_nil)))
      (pss_cons (ps_set (i := 3) sc_law_play.nd rfl (Or.inl rfl) (pe_op op_cat (pe_callTy call_list_of rfl B.list (by decide +kernel) (pa_cons (pe_ix (r := rIxT K) ix_tup (pv 0) pe_int (fun _ _ => rfl)) pa_nil)) (pe_lc (own := [("_law_reg", 4)]) rfl sc_law_play.nd (pi_tup (pe_ix (r := rIxT K) ix_tup (pv 0) pe_int (fun _ _ => rfl))) (blkOk_by (N := ["_law_net", "_law_rows", "_law_order", "_law_roots", "_law_reg", "_law_passed", "_law_ticks", "_law_row", "_law_seen", "_law_bits", "_law_k", "_law_gate", "_law_arg"]) (sc := defScope (top 113)) (own := [("_law_reg", 4)]) (by decide +kernel)) (fun _ _ _ _ _ => (pg_name (i := 4) sc_law_play.nd rfl (Or.inl rfl))) (fun _ _ _ _ _ => pts_nil) (fun _ _ _ _ _ => (pe_ix (r := rIxT K) ix_tup (pv 4) pe_int (fun _ _ => rfl))))))
      (pss_cons (ps_set (i := 5) sc_law_play.nd rfl (Or.inl rfl) (pe_lst (pa_cons (pe_callTy call_tuple_of rfl B.tuple (by decide +kernel) (pa_cons (pe_lc (own := [("_law_reg", 4)]) rfl sc_law_play.nd (pi_tup (pe_ix (r := rIxT K) ix_tup (pv 0) pe_int (fun _ _ => rfl))) (blkOk_by (N := ["_law_net", "_law_rows", "_law_order", "_law_roots", "_law_reg", "_law_passed", "_law_ticks", "_law_row", "_law_seen", "_law_bits", "_law_k", "_law_gate", "_law_arg"]) (sc := defScope (top 113)) (own := [("_law_reg", 4)]) (by decide +kernel)) (fun _ _ _ _ _ => (pg_name (i := 4) sc_law_play.nd rfl (Or.inl rfl))) (fun _ _ _ _ _ => pts_nil) (fun _ _ _ _ _ => (pe_ix (r := rIxT K) ix_tup (pv 4) pe_int (fun _ _ => rfl)))) pa_nil)) pa_nil)))
      (pss_cons (ps_set (i := 6) sc_law_play.nd rfl (Or.inl rfl) (pe_lst pa_nil))
      (pss_cons (ps_for PassesOwn.never rfl (pi_tup (pv 1)) (pg_name (i := 7) sc_law_play.nd rfl (Or.inl rfl))
        (pss_cons (ps_set (i := 8) sc_law_play.nd rfl (Or.inr rfl) pe_dnewK)
        (pss_cons (ps_set (i := 9) sc_law_play.nd rfl (Or.inl rfl) (pe_op op_catS3 (pv 7) (pe_ix (r := rIxL K) ix_list (pv 5) (pe_callB call_len_seq rfl B.len PySem.boot_len (pa_cons (pv 6) pa_nil)) (fun _ _ => rfl))))
        (pss_cons (ps_for PassesOwn.never rfl (pi_range1 rfl B.range (pa_cons (pe_callB call_len_seq rfl B.len PySem.boot_len (pa_cons (pv 3) pa_nil)) pa_nil)) (pg_name (i := 10) sc_law_play.nd rfl (Or.inl rfl))
          (pss_one (ps_dput (hu_of hr) (pv 8) (pe_ix (r := rIxL K) ix_list (pv 3) (pv 10) (fun _ _ => rfl)) (pe_ix (r := rIxT K) ix_tup (pv 9) (pv 10) (fun _ _ => rfl)) rfl)))
        (pss_cons (ps_for PassesOwn.never rfl (pi_list (pv 2)) (pg_name (i := 11) sc_law_play.nd rfl (Or.inl rfl))
          (pss_one (ps_dput (hu_of hr) (pv 8) (pe_ix (r := rIxT K) ix_tup (pv 11) pe_int (fun _ _ => rfl)) (pe_callC C_law_op (hr.mono (by decide)) rfl pass0 (pa_cons (pe_ix (r := rIxT K) ix_tup (pv 11) pe_int (fun _ _ => rfl)) (pa_cons (pe_lc (own := [("_law_arg", 12)]) rfl sc_law_play.nd (pi_tup (pe_ix (r := rIxT K) ix_tup (pv 11) pe_int (fun _ _ => rfl))) (blkOk_by (N := ["_law_net", "_law_rows", "_law_order", "_law_roots", "_law_reg", "_law_passed", "_law_ticks", "_law_row", "_law_seen", "_law_bits", "_law_k", "_law_gate", "_law_arg"]) (sc := defScope (top 113)) (own := [("_law_arg", 12)]) (by decide +kernel)) (fun _ _ _ _ _ => (pg_name (i := 12) sc_law_play.nd rfl (Or.inl rfl))) (fun _ _ _ _ _ => pts_nil) (fun _ _ _ _ _ => (pe_dget (hu_of hr) (pv 8) (pv 12) (fun _ _ => rfl)))) (pa_cons pe_int pa_nil)))) rfl)))
        (pss_cons (ps_expr (pe_bm PySem.F.plainAttrs_list PySem.F.slot_list_append PySem.F.type_list_append mt_append (pv 5) (pa_cons (pe_callTy call_tuple_of rfl B.tuple (by decide +kernel) (pa_cons (pe_lc (own := [("_law_reg", 4)]) rfl sc_law_play.nd (pi_tup (pe_ix (r := rIxT K) ix_tup (pv 0) pe_int (fun _ _ => rfl))) (blkOk_by (N := ["_law_net", "_law_rows", "_law_order", "_law_roots", "_law_reg", "_law_passed", "_law_ticks", "_law_row", "_law_seen", "_law_bits", "_law_k", "_law_gate", "_law_arg"]) (sc := defScope (top 113)) (own := [("_law_reg", 4)]) (by decide +kernel)) (fun _ _ _ _ _ => (pg_name (i := 4) sc_law_play.nd rfl (Or.inl rfl))) (fun _ _ _ _ _ => pts_nil) (fun _ _ _ _ _ => (pe_dget (hu_of hr) (pv 8) (pe_ix (r := rIxT K) ix_tup (pv 4) pe_int (fun _ _ => rfl)) (fun _ _ => rfl)))) pa_nil)) pa_nil)))
        (pss_one (ps_expr (pe_bm PySem.F.plainAttrs_list PySem.F.slot_list_append PySem.F.type_list_append mt_append (pv 6) (pa_cons (pv 8) pa_nil))))))))))
      (pss_one (ps_ret (pe_tup (pa_cons (pv 6) (pa_cons (pv 5) pa_nil)))))))))), ?_⟩
    obtain ⟨p, v1, v2, v3, v4, rfl, hp, r1, r2, r3, r4⟩ := rv.t4
    obtain ⟨p1, rfl, h1⟩ := r1.strs
    obtain ⟨p2, gs, rfl, h2, rg⟩ := r2.eTup
    obtain ⟨p3, rs, rfl, h3, rr⟩ := r3.eTup
    obtain ⟨pr, us, rfl, hpr, ru⟩ := rr0.eTup
    refine ⟨_, rfl, _, n, rfl, rv, hn, fun Lg gus H1 e1 hLg rgu => ?_⟩
    refine ⟨_, rfl, p, _, _, _, rfl, rfl, SqT.of (e1 _ _ hp), rfl, p1, _, rfl, .inr (SqT.of (e1 _ _ h1)), fun l1 hl1 => ?_⟩
    have lr := rr.len
    rw [List.length_map] at lr
    have hgz := hn.gsz
    have hrgz : n.regs.length ≤ 300 := by
      have := hn.sz
      unfold Net.decl Net.rw at this
      simp only [List.length_append, List.length_map] at this
      omega
    have hro : n.roots.length ≤ 300 := by
      have := hn.sz
      unfold Net.decl at this
      unfold Net.roots
      simp only [List.length_append] at this ⊢
      omega
    have hig : n.ins.length ≤ 300 := by
      unfold Net.roots at hro
      rw [List.length_append] at hro
      omega
    have e2 := e1.trans (Same.new hl1 (o := .lst (n.ins.map V.str)))
    refine ⟨_, rfl, p, _, _, _, rfl, rfl, SqT.of (e2 _ _ hp), atI_nat (j := 2) rfl, p3, rfl, ⟨_, SqT.of (e2 _ _ h3)⟩, fun L hL => ?_⟩
    refine lc_data (walk_tup (xs := rs)) ((n.regs.map (·.w)).map D.str) (by rw [List.length_map, List.length_map]; exact lr) (by omega) hL (fun H2 e => SqT.of (e _ _ (e2 _ _ h3))) ?_ ?_
    · rintro i x dd _ H2 Q' hi e ⟨rfl, hx⟩ hdd qk
      obtain ⟨r, hr', rrg⟩ := rr.at hx
      obtain ⟨q, x1, x2, x3, rfl, hq, q1, q2, q3⟩ := rrg.t3
      rw [q1.eStr] at hq
      rw [List.getElem?_map, List.getElem?_map, hr'] at hdd
      cases hdd
      exact ⟨rfl, _, rfl, q, _, _, _, rfl, rfl, SqT.of (e _ _ (e2 _ _ hq)), rfl, qk _ _ (Same.refl _) (.str _)⟩
    · intro H3 ws e3 hL3 rws
      obtain rfl := rws.strs
      have e03 := e2.trans e3
      have hl13 : H3 l1 = some (.lst (n.ins.map V.str)) := e3 _ _ upd_same
      refine ⟨l1, L, _, _, rfl, rfl, hl13, hL3, ?_, fun l3 hl3 => ?_⟩
      · have : n.ins.length + n.regs.length ≤ 600 := by
          unfold Net.roots Net.rw at hro
          simp only [List.length_append, List.length_map] at hro
          omega
        exact sz5 (by simp only [List.length_map]; omega)
      have e4 := e3.trans (Same.new hl3 (o := .lst (n.ins.map V.str ++ (n.regs.map (·.w)).map V.str)))
      have e04 := e2.trans e4
      have hLg4 : (upd H3 l3 (.lst (n.ins.map V.str ++ (n.regs.map (·.w)).map V.str))) Lg = some (.lst gus) := e4 _ _ (Same.new hl1 _ _ hLg)
      have rgu4 : RepL (upd H3 l3 (.lst (n.ins.map V.str ++ (n.regs.map (·.w)).map V.str))) ((sortL n).map Gate.d) gus := (rgu.ex (Same.new hl1)).ex e4
      have hl3v : (upd H3 l3 (.lst (n.ins.map V.str ++ (n.regs.map (·.w)).map V.str))) l3 = some (.lst (n.roots.map V.str)) := by
        rw [upd_same]
        unfold Net.roots Net.rw
        rw [List.map_append]
      generalize upd H3 l3 (.lst (n.ins.map V.str ++ (n.regs.map (·.w)).map V.str)) = H4 at e4 e04 hLg4 rgu4 hl3v ⊢
      refine ⟨_, rfl, p, _, _, _, rfl, rfl, SqT.of (e04 _ _ hp), atI_nat (j := 2) rfl, p3, rfl, ⟨_, SqT.of (e04 _ _ h3)⟩, fun L5 hL5 => ?_⟩
      refine lc_data (walk_tup (xs := rs)) ((n.regs.map (·.fi)).map bitD) (by rw [List.length_map, List.length_map]; exact lr) (by omega) hL5 (fun H5 e => SqT.of (e _ _ (e04 _ _ h3))) ?_ ?_
      · rintro i x dd _ H5 Q' hi e ⟨rfl, hx⟩ hdd qk
        obtain ⟨r, hr', rrg⟩ := rr.at hx
        obtain ⟨q, x1, x2, x3, rfl, hq, q1, q2, q3⟩ := rrg.t3
        rw [q1.eStr, q2.eInt] at hq
        rw [List.getElem?_map, List.getElem?_map, hr'] at hdd
        cases hdd
        exact ⟨rfl, _, rfl, q, _, _, _, rfl, rfl, SqT.of (e _ _ (e04 _ _ hq)), atI_nat (j := 1) rfl, qk _ _ (Same.refl _) (.int _)⟩
      · intro H5 ws5 e5 hL5v rws5
        obtain rfl := rws5.bits
        have e05 := e04.trans e5
        refine ⟨L5, _, rfl, .inl ⟨SqL.of hL5v, fun t0 ht0 => ⟨sz5 (by simp), fun lp hlp => ⟨sz5 (by simp), fun lt hlt => ?_⟩⟩⟩⟩
        have s1 := Same.new ht0 (o := .tup ((n.regs.map (·.fi)).map bitV))
        have s2 := Same.new hlp (o := .lst [.ref t0])
        have s3 := Same.new hlt (o := .lst [])
        have e08 := e05.trans (s1.trans (s2.trans s3))
        have e48 := e5.trans (s1.trans (s2.trans s3))
        have hlplt : lp ≠ lt := fun z => by rw [← z, upd_same] at hlt; cases hlt
        have hlp8 : upd (upd (upd H5 t0 (.tup ((n.regs.map (·.fi)).map bitV))) lp (.lst [.ref t0])) lt (.lst []) lp = some (.lst [.ref t0]) := by rw [upd_ne hlplt, upd_same]
        have ht08 := s3 _ _ (s2 _ _ (upd_same (H := H5) (a := t0) (o := .tup ((n.regs.map (·.fi)).map bitV))))
        have hlt8 : upd (upd (upd H5 t0 (.tup ((n.regs.map (·.fi)).map bitV))) lp (.lst [.ref t0])) lt (.lst []) lt = some (.lst []) := upd_same
        have hLg5 := (e5 _ _ hLg4)
        have hl35 := (e5 _ _ hl3v)
        have hLglp : Lg ≠ lp := fun z => by rw [z] at hLg5; rw [s1 _ _ hLg5] at hlp; cases hlp
        have hl3lp : l3 ≠ lp := fun z => by rw [z] at hl35; rw [s1 _ _ hl35] at hlp; cases hlp
        have hLglt : Lg ≠ lt := fun z => by rw [z] at hLg5; rw [(s1.trans s2) _ _ hLg5] at hlt; cases hlt
        have hl3lt : l3 ≠ lt := fun z => by rw [z] at hl35; rw [(s1.trans s2) _ _ hl35] at hlt; cases hlt
        have hlpH : H lp = none := same_none (e05.trans s1) hlp
        have hltH : H lt = none := same_none (e05.trans (s1.trans s2)) hlt
        generalize upd (upd (upd H5 t0 (.tup ((n.regs.map (·.fi)).map bitV))) lp (.lst [.ref t0])) lt (.lst []) = H8 at e08 e48 hlp8 ht08 hlt8 ⊢
        have lu := ru.len
        rw [List.length_map] at lu
        refine ⟨_, rfl, pr, rfl, ⟨_, SqT.of (e08 _ _ hpr)⟩, ?_⟩
        refine for_it (walk_tup (xs := us)) (fun i σ H' => Same H H' ∧ (H' Lg = some (.lst gus) ∧ RepL H' ((sortL n).map Gate.d) gus) ∧ H' l3 = some (.lst (n.roots.map V.str)) ∧ (∃ (ps : List V) (t : Addr) (ds : List Addr) (ρs : List (S → Bool)) (st' : List Bool), H' lp = some (.lst ps) ∧ ps.length = i + 1 ∧ ps[i]? = some (.ref t) ∧ H' t = some (.tup (st'.map bitV)) ∧ H' lt = some (.lst (ds.map V.ref)) ∧ Ticks H' ds n.decl ρs ∧ ds.length = i ∧ RunF n (n.regs.map (·.fi)) (rows.take i) ρs st' ∧ st'.length = n.regs.length) ∧ ∃ o7 o8 o9 o10 o11, σ = [some (.ref p), some (.ref pr), some (.ref Lg), some (.ref l3), none, some (.ref lp), some (.ref lt), o7, o8, o9, o10, o11, none])
          ⟨e08, ⟨e48 _ _ hLg4, rgu4.ex e48⟩, e48 _ _ hl3v, ⟨[.ref t0], t0, [], [], n.regs.map (·.fi), hlp8, rfl, rfl, ht08, hlt8, ⟨rfl, fun i d ρ h => by simp at h⟩, rfl, .nil, by rw [List.length_map]⟩, _, _, _, _, _, rfl⟩ (fun i σ H' _ h => SqT.of (h.1 _ _ hpr)) ?_ ?_
        · rintro i y σ _ H9 hi ⟨e9, ⟨hLg9, rgu9⟩, hl39, ⟨ps, t, ds, ρs, st', hlp9, hpl, hpi, ht9, hlt9, htk, hdl, hrun, hstl⟩, o7, o8, o9, o10, o11, rfl⟩ ⟨rfl, hy⟩
          obtain ⟨r, hr', rrow⟩ := ru.at hy
          obtain ⟨pw, rfl, hpw⟩ := rrow.bits
          have hrl' := hrl r (List.mem_of_getElem? hr')
          obtain ⟨ρ, hgood⟩ := good_exists hn.sd hrl' hstl
          have hpi' : ps[i]? = some (.ref t) := hpi
          intro d hd
          have sn := Same.new hd (o := .dK [])
          have e10 := e9.trans sn
          refine ⟨_, rfl, _, rfl, _, rfl, lt, _, rfl, .inl (SqL.of (sn _ _ hlt9)), lp, _, _, _, rfl, rfl, SqL.of (sn _ _ hlp9), atI_nat (j := (ds.map V.ref).length) (by rw [List.length_map, hdl]; exact hpi'), ?_⟩
          refine ⟨pw, t, _, _, rfl, rfl, e10 _ _ hpw, sn _ _ ht9, sz5 (by rw [List.length_map, List.length_map, hrl', hstl]; omega), fun pb H11 e11 hpb => ?_⟩
          have hd11 := e11 _ _ (upd_same (H := H9) (a := d) (o := .dK []))
          have e911 := sn.trans e11
          refine ⟨_, rfl, l3, _, rfl, .inl (SqL.of (e911 _ _ hl39)), _, rfl, by rw [List.length_map]; omega, by rw [List.length_map]; omega, ?_⟩
          have hbits : r ++ st' = n.roots.map ρ := by
            unfold Net.roots
            rw [List.map_append, hgood.2.1, hgood.2.2]
          refine for_it walk_r0 (fun k σ H' => Kp d H11 H' ∧ SD H' d k (inV ρ (n.roots.take k)) ∧ ∃ o10 o11, σ = [some (.ref p), some (.ref pr), some (.ref Lg), some (.ref l3), none, some (.ref lp), some (.ref lt), some (.ref pw), some (.ref d), some (.ref pb), o10, o11, none]) ⟨Kp.refl, ⟨[], hd11, Nat.le_refl _, fun x => by rw [List.take_zero]; rfl⟩, _, _, rfl⟩ (fun _ _ _ _ _ => True.intro) ?_ ?_
          · rintro k2 y σ _ H12 hk ⟨e12, sd, o10', o11', rfl⟩ ⟨rfl, rfl⟩
            rw [List.length_map, Int.toNat_natCast] at hk
            obtain ⟨x, hx⟩ : ∃ x, n.roots[k2]? = some x := ⟨_, List.getElem?_eq_getElem hk⟩
            have nd9 : ∀ {b : Addr} {o : HO}, H9 b = some o → b ≠ d := fun h z => by rw [z, hd] at h; cases h
            have hpbd : pb ≠ d := fun z => by rw [z, hd11] at hpb; cases hpb
            have hl12 := e12 _ _ (e911 _ _ hl39) (nd9 hl39)
            have hpb12 := e12 _ _ hpb hpbd
            obtain ⟨kvs, a1, a2, a3⟩ := sd.put (by omega) x (bitV (ρ x))
            refine ⟨_, rfl, _, rfl, pb, _, _, _, rfl, rfl, SqT.of hpb12, atI_nat (j := k2) (by rw [← List.map_append, hbits, List.getElem?_map, List.getElem?_map, hx]; rfl), _, rfl, _, rfl, _, rfl, l3, _, _, _, rfl, rfl, SqL.of hl12, atI_nat (j := k2) (by rw [List.getElem?_map, hx]; rfl), d, _, rfl, a2, e12.upd _, a3.imp fun z => ?_, _, _, rfl⟩
            rw [take_succ hx]
            exact inV_snoc _ _ _ _
          · rintro σ H12 ⟨e12, sd, o10', o11', rfl⟩
            rw [List.length_map, Int.toNat_natCast, List.take_length] at sd
            have nd9 : ∀ {b : Addr} {o : HO}, H9 b = some o → b ≠ d := fun h z => by rw [z, hd] at h; cases h
            have e9L : ∀ {b : Addr} {o : HO}, H9 b = some o → H11 b = some o ∧ b ≠ d := fun h => ⟨e911 _ _ h, nd9 h⟩
            obtain ⟨htopo, hperm⟩ := sort_ok hn.sd
            have hLg12 : ∀ {H'}, Kp d H11 H' → H' Lg = some (.lst gus) := fun e => e _ _ (e911 _ _ hLg9) (nd9 hLg9)
            refine ⟨_, rfl, Lg, rfl, ⟨_, SqL.of (hLg12 e12)⟩, ?_⟩
            refine for_it (walk_list (xs := gus)) (fun j σ H' => Kp d H11 H' ∧ SD H' d (300 + j) (inV ρ (n.roots ++ ((sortL n).take j).map (·.w))) ∧ ∃ o10 o11, σ = [some (.ref p), some (.ref pr), some (.ref Lg), some (.ref l3), none, some (.ref lp), some (.ref lt), some (.ref pw), some (.ref d), some (.ref pb), o10, o11, none]) ⟨e12, (sd.mono hro).imp fun x => by rw [List.take_zero, List.map_nil, List.append_nil], _, _, rfl⟩ (fun j σ H' _ h => SqL.of (hLg12 h.1)) ?_ ?_
            · rintro j y σ _ H13 hj ⟨e13, sd13, o10'', o11'', rfl⟩ ⟨rfl, hy⟩
              have lgu := rgu9.len
              rw [List.length_map] at lgu
              have hsl : (sortL n).length ≤ 300 := by
                have := hperm.length_eq
                unfold sortL
                omega
              obtain ⟨g, hg, rgg9⟩ := rgu9.at hy
              have tx13 : Tx H9 H13 := fun b xs h => e13 _ _ (e911 _ _ h) (nd9 h)
              have rgg := rgg9.tx tx13
              have hgm : g ∈ n.gates := hperm.mem_iff.mp (List.mem_of_getElem? hg)
              obtain ⟨q, x1, x2, x3, rfl, hq, q1, q2, q3⟩ := rgg.t3
              rw [q1.eStr, q2.eStr] at hq
              obtain ⟨pa, rfl, hpa⟩ := q3.strs
              have hgN : g.args.length = g.op.ar := hn.sd.ar g hgm
              have har : g.args.length ≤ 3 := by rw [hgN]; exact ar_le _
              refine ⟨_, rfl, q, _, _, _, rfl, rfl, SqT.of hq, atI_nat (j := 1) rfl, _, rfl, q, _, _, _, rfl, rfl, SqT.of hq, atI_nat (j := 2) rfl, pa, rfl, ⟨_, SqT.of hpa⟩, fun Lb hLb => ?_⟩
              refine lc_data (walk_tup (xs := g.args.map V.str)) ((g.args.map ρ).map bitD) (by rw [List.length_map, List.length_map, List.length_map]) (by rw [List.length_map]; omega) hLb (fun H14 e => SqT.of (e _ _ hpa)) ?_ ?_
              · rintro i2 y2 dd _ H14 Q14 hi2 e14 ⟨rfl, hy2⟩ hdd qk
                obtain ⟨x, hx, rfl⟩ := strs_get hy2
                rw [List.getElem?_map, List.getElem?_map, hx] at hdd
                cases hdd
                have hin := htopo.t j g hg x (List.mem_of_getElem? hx)
                have hgx := (sd13.same e14).get x
                rw [show inV ρ (n.roots ++ ((sortL n).take j).map (·.w)) x = some (bitV (ρ x)) from if_pos hin] at hgx
                exact ⟨rfl, _, rfl, _, rfl, d, _, rfl, hgx, qk _ _ (Same.refl _) (.int _)⟩
              · intro H14 ws14 e14 hL14 rws14
                obtain rfl := rws14.bits
                refine ⟨g.op, Lb, g.args.map ρ, rfl, hL14, by rw [List.length_map]; exact hgN, fun H15 e15 => ?_⟩
                have e1315 := e14.trans e15
                obtain ⟨kvs, a1, a2, a3⟩ := (sd13.same e1315).put (by omega) g.w (bitV (ρ g.w))
                have hev : g.op.ev (g.args.map ρ) = ρ g.w := (hgood.1 g hgm).symm
                rw [hev]
                refine ⟨_, rfl, _, rfl, q, _, _, _, rfl, rfl, SqT.of (e1315 _ _ hq), rfl, d, _, rfl, a2, (e13.trans e1315.kp).upd _, (a3.mono (by omega)).imp fun z => ?_, _, _, rfl⟩
                rw [take_succ hg, List.map_append, ← List.append_assoc]
                exact inV_snoc _ _ _ _
            · rintro σ H13 ⟨e13, sd13, o10'', o11'', rfl⟩
              have lgu := rgu9.len
              rw [List.length_map] at lgu
              rw [← lgu, List.take_length] at sd13
              have tx13 : Tx H9 H13 := fun b xs h => e13 _ _ (e911 _ _ h) (nd9 h)
              have k9 : ∀ {b : Addr} {o : HO}, H9 b = some o → H13 b = some o := fun h => e13 _ _ (e911 _ _ h) (nd9 h)
              have htick : Tick H13 d n.decl ρ := ⟨_, _, sd13, fun x hx => by
                refine if_pos ?_
                have hx' : x ∈ n.roots ++ n.gw := by
                  unfold Net.decl at hx
                  unfold Net.roots
                  rcases List.mem_append.mp hx with h | h
                  · rcases List.mem_append.mp h with h | h
                    · exact List.mem_append_left _ (List.mem_append_left _ h)
                    · exact List.mem_append_right _ h
                  · exact List.mem_append_left _ (List.mem_append_right _ h)
                rcases List.mem_append.mp hx' with h | h
                · exact List.mem_append_left _ h
                · exact List.mem_append_right _ ((hperm.map (·.w)).mem_iff.mpr h)⟩
              have hlp13 := k9 hlp9
              have hlt13 := k9 hlt9
              have e013 : Same H H13 := fun b o h => k9 (e9 _ _ h)
              refine ⟨_, rfl, .inl ⟨rfl, _, SqL.of hlp13⟩, _, rfl, p, _, _, _, rfl, rfl, SqT.of (e013 _ _ hp), atI_nat (j := 2) rfl, p3, rfl, ⟨_, SqT.of (e013 _ _ h3)⟩, fun Lc hLc => ?_⟩
              refine lc_data (walk_tup (xs := rs)) ((n.regs.map fun g => ρ g.src).map bitD) (by rw [List.length_map, List.length_map]; exact lr) (by omega) hLc (fun H14 e => SqT.of (e _ _ (e013 _ _ h3))) ?_ ?_
              · rintro i2 y2 dd _ H14 Q14 hi2 e14 ⟨rfl, hy2⟩ hdd qk
                obtain ⟨r2, hr2, rrg⟩ := rr.at hy2
                obtain ⟨q, x1, x2, x3, rfl, hq, q1, q2, q3⟩ := rrg.t3
                rw [q3.eStr] at hq
                rw [List.getElem?_map, List.getElem?_map, hr2] at hdd
                cases hdd
                exact ⟨rfl, _, rfl, _, rfl, q, _, _, _, rfl, rfl, SqT.of (e14 _ _ (e013 _ _ hq)), atI_nat (j := 2) rfl, d, _, rfl, (htick.same e14).get (hn.sd.src r2 (List.mem_of_getElem? hr2)), qk _ _ (Same.refl _) (.int _)⟩
              · intro H14 ws14 e14 hL14 rws14
                obtain rfl := rws14.bits
                refine ⟨Lc, _, rfl, .inl ⟨SqL.of hL14, fun t2 ht2 => ?_⟩⟩
                have e15 := Same.new ht2 (o := .tup ((n.regs.map fun g => ρ g.src).map bitV))
                have e1315 := e14.trans e15
                have hlp15 := e1315 _ _ hlp13
                have hlt15 := e1315 _ _ hlt13
                have ht215 : (upd H14 t2 (.tup ((n.regs.map fun g => ρ g.src).map bitV))) t2 = some (.tup ((n.regs.map fun g => ρ g.src).map bitV)) := upd_same
                generalize upd H14 t2 (.tup ((n.regs.map fun g => ρ g.src).map bitV)) = H15 at e15 e1315 hlp15 hlt15 ht215 ⊢
                have hus3 : us.length ≤ 300 := by omega
                refine ⟨lp, ps, .ref t2, rfl, rfl, hlp15, sz5' (by omega), ?_⟩
                refine ⟨_, rfl, .inl ⟨rfl, _, SqL.of ((upd_ne (Ne.symm hlplt)).trans hlt15)⟩, _, rfl, lt, ds.map V.ref, .ref d, rfl, rfl, (upd_ne (Ne.symm hlplt)).trans hlt15, sz5' (by rw [List.length_map]; omega), ?_⟩
                have hL : ∀ {b : Addr}, b ≠ lp → b ≠ lt → upd (upd H15 lp (.lst (ps ++ [.ref t2]))) lt (.lst (ds.map V.ref ++ [.ref d])) b = H15 b := fun h1 h2 => by rw [upd_ne h2, upd_ne h1]
                have nlp : ∀ {b : Addr} {xs : List V}, H15 b = some (.tup xs) → b ≠ lp ∧ b ≠ lt := fun h => ⟨fun z => (by rw [z, hlp15] at h; cases h), fun z => (by rw [z, hlt15] at h; cases h)⟩
                have txf : Tx H15 (upd (upd H15 lp (.lst (ps ++ [.ref t2]))) lt (.lst (ds.map V.ref ++ [.ref d]))) := fun b xs h => (hL (nlp h).1 (nlp h).2).trans h
                have e0f : Same H (upd (upd H15 lp (.lst (ps ++ [.ref t2]))) lt (.lst (ds.map V.ref ++ [.ref d]))) := ((e013.trans e1315).mut hlpH).mut hltH
                have dne : ∀ {b : Addr} {kv : List (Key × V)}, H15 b = some (.dK kv) → b ≠ lp ∧ b ≠ lt := fun h => ⟨fun z => (by rw [z, hlp15] at h; cases h), fun z => (by rw [z, hlt15] at h; cases h)⟩
                have tickf : ∀ {b : Addr} {xs : List Str} {σ' : Str → Bool}, Tick H15 b xs σ' → Tick (upd (upd H15 lp (.lst (ps ++ [.ref t2]))) lt (.lst (ds.map V.ref ++ [.ref d]))) b xs σ' := fun ⟨m, f, s1, s2⟩ => by
                  obtain ⟨kv, hkv⟩ := s1.dict
                  exact ⟨m, f, s1.at (hL (dne hkv).1 (dne hkv).2), s2⟩
                have tick9 : ∀ {b : Addr} {xs : List Str} {σ' : Str → Bool}, Tick H9 b xs σ' → Tick H15 b xs σ' := fun ⟨m, f, s1, s2⟩ => by
                  obtain ⟨kv, hkv⟩ := s1.dict
                  exact ⟨m, f, s1.at ((e1315 _ _ (k9 hkv)).trans hkv.symm), s2⟩
                have hlg15 := e1315 _ _ (k9 hLg9)
                have hl315 := e1315 _ _ (k9 hl39)
                refine ⟨e0f, ⟨(hL hLglp hLglt).trans hlg15, (rgu9.tx (tx13.trans e1315.tx)).tx txf⟩, (hL hl3lp hl3lt).trans hl315, ⟨ps ++ [.ref t2], t2, ds ++ [d], ρs ++ [ρ], n.regs.map fun g => ρ g.src, ?_, ?_, ?_, txf _ _ ht215, ?_, ?_, ?_, ?_, ?_⟩, _, _, _, _, _, rfl⟩
                · rw [upd_ne hlplt, upd_same]
                · rw [List.length_append, hpl]; rfl
                · rw [List.getElem?_append_right (by omega), hpl, Nat.sub_self]; rfl
                · rw [upd_same, List.map_append]; rfl
                · refine ⟨by rw [List.length_append, List.length_append, htk.1]; rfl, fun i2 d2 ρ2 h1 h2 => ?_⟩
                  by_cases hlt2 : i2 < ds.length
                  · rw [List.getElem?_append_left hlt2] at h1
                    rw [List.getElem?_append_left (by rw [← htk.1]; exact hlt2)] at h2
                    exact tickf (tick9 (htk.2 i2 d2 ρ2 h1 h2))
                  · rw [List.getElem?_append_right (by omega)] at h1
                    rw [List.getElem?_append_right (by rw [← htk.1]; omega), ← htk.1] at h2
                    have h0 : i2 - ds.length = 0 := by
                      have := (List.getElem?_eq_some_iff.mp h1).1
                      rw [List.length_singleton] at this
                      omega
                    rw [h0] at h1 h2
                    cases h1
                    cases h2
                    exact tickf (htick.same e1315)
                · rw [List.length_append, hdl]; rfl
                · rw [take_succ hr']
                  exact .snoc hrun hgood
                · rw [List.length_map]
        · rintro σ H9 ⟨e9, _, _, ⟨ps, t, ds, ρs, st', hlp9, _, _, _, hlt9, htk, _, hrun, _⟩, o7, o8, o9, o10, o11, rfl⟩
          rw [← lu, List.take_length] at hrun
          refine ⟨_, rfl, _, rfl, sz5 (by simp), fun q hq => ?_⟩
          have eq' := Same.new hq (o := .tup [.ref lt, .ref lp])
          exact k q lt lp ds ps ρs st' _ (e9.trans eq') upd_same (eq' _ _ hlt9) ⟨htk.1, fun i d ρ h1 h2 => (htk.2 i d ρ h1 h2).same eq'⟩ hrun
end
end Wi
set_option maxHeartbeats 4000000
set_option maxRecDepth 100000
namespace Wi
open PySem L2 PySem.Spec PyProof.Rows
/-! V8: the law's run from a state -/
def Net.withFi (n : Net) (st : List Bool) : Net := ⟨n.ins, n.gates, n.regs.zipWith (fun r b => ⟨r.w, b, r.src⟩) st, n.outs⟩
theorem zip_map1 {α β γ δ : Type} {f : α → β → γ} {g : γ → δ} {h : α → δ} (e : ∀ a b, g (f a b) = h a) : ∀ {l : List α} {m : List β}, m.length = l.length → (l.zipWith f m).map g = l.map h
  | [], _, _ => rfl
  | _ :: _, [], q => by cases q
  | a :: l, b :: m, q => by
    show g (f a b) :: (l.zipWith f m).map g = h a :: l.map h
    rw [e, zip_map1 e (by simpa using q)]
theorem zip_map2 {α β γ δ : Type} {f : α → β → γ} {g : γ → δ} {h : β → δ} (e : ∀ a b, g (f a b) = h b) : ∀ {l : List α} {m : List β}, m.length = l.length → (l.zipWith f m).map g = m.map h
  | [], [], _ => rfl
  | [], _ :: _, q => by cases q
  | _ :: _, [], q => by cases q
  | a :: l, b :: m, q => by
    show g (f a b) :: (l.zipWith f m).map g = h b :: m.map h
    rw [e, zip_map2 e (by simpa using q)]
section
variable {n : Net} {st : List Bool}
def wfR (r : Reg) (b : Bool) : Reg := ⟨r.w, b, r.src⟩
theorem withFi_w (h : st.length = n.regs.length) : (n.withFi st).rw = n.rw := zip_map1 (f := wfR) (g := fun r : Reg => r.w) (h := fun r : Reg => r.w) (fun _ _ => rfl) h
theorem withFi_fi (h : st.length = n.regs.length) : (n.withFi st).regs.map (·.fi) = st := (zip_map2 (f := wfR) (g := fun r : Reg => r.fi) (h := id) (fun _ _ => rfl) h).trans (List.map_id _)
theorem withFi_src (h : st.length = n.regs.length) (ρ : S → Bool) : ((n.withFi st).regs.map fun g => ρ g.src) = n.regs.map fun g => ρ g.src := zip_map1 (f := wfR) (g := fun r : Reg => ρ r.src) (h := fun r : Reg => ρ r.src) (fun _ _ => rfl) h
theorem withFi_srcs (h : st.length = n.regs.length) : (n.withFi st).regs.map (·.src) = n.regs.map (·.src) := zip_map1 (f := wfR) (g := fun r : Reg => r.src) (h := fun r : Reg => r.src) (fun _ _ => rfl) h
theorem withFi_decl (h : st.length = n.regs.length) : (n.withFi st).decl = n.decl := by
  unfold Net.decl
  rw [withFi_w h]
  rfl
theorem withFi_len (h : st.length = n.regs.length) : (n.withFi st).regs.length = n.regs.length := by
  have := congrArg List.length (withFi_w h)
  unfold Net.rw at this
  simpa using this
theorem withFi_ok (hn : NOk n) (h : st.length = n.regs.length) : NOk (n.withFi st) := by
  have hd := withFi_decl h
  refine ⟨⟨hd ▸ hn.sd.nd, hd ▸ hn.sd.wire, hn.sd.ar, fun g hg a ha => hd ▸ hn.sd.args g hg a ha, fun r hr => ?_, fun o ho => hd ▸ hn.sd.outs o ho, hn.sd.ond, hn.sd.acyc⟩, hd ▸ hn.sz, hn.osz⟩
  have : r.src ∈ n.regs.map (·.src) := withFi_srcs h ▸ List.mem_map_of_mem hr
  obtain ⟨q, hq, e⟩ := List.mem_map.mp this
  rw [hd, ← e]
  exact hn.sd.src q hq
theorem withFi_good (h : st.length = n.regs.length) {row s : List Bool} {ρ : S → Bool} : Good (n.withFi st) row s ρ ↔ Good n row s ρ := by
  unfold Good
  rw [withFi_w h]
  rfl
theorem withFi_run (h : st.length = n.regs.length) : ∀ {rows : List (List Bool)} {s : List Bool} {os : List (List Bool)}, RunR (n.withFi st) s rows os → RunR n s rows os
  | [], _, _, r => r
  | r :: rs, s, os, ⟨ρ, os', g, e, t⟩ => ⟨ρ, os', (withFi_good h).mp g, e, by
    rw [withFi_src h ρ] at t
    exact withFi_run h t⟩
theorem withFi_at (h : st.length = n.regs.length) {i : Nat} {r : Reg} {b : Bool} (hr : n.regs[i]? = some r) (hb : st[i]? = some b) : (n.withFi st).regs[i]? = some ⟨r.w, b, r.src⟩ := by
  show (n.regs.zipWith _ st)[i]? = _
  rw [List.getElem?_zipWith, hr, hb]
end
section
variable {P : Program} {w : World} {K : PySem.W.Frag} {mg : Str → Option Value} {base : Heap}
theorem Ticks.sub {H : Hp} {ds : List Addr} {xs ys : List Str} {ρs : List (Str → Bool)} (h : Ticks H ds xs ρs) (hs : ∀ y ∈ ys, y ∈ xs) : Ticks H ds ys ρs :=
  ⟨h.1, fun i d ρ a b => let ⟨n, f, s, q⟩ := h.2 i d ρ a b; ⟨n, f, s, fun y hy => q y (hs y hy)⟩⟩
theorem Ticks.same {H H' : Hp} {ds : List Addr} {xs : List Str} {ρs : List (Str → Bool)} (h : Ticks H ds xs ρs) (e : Same H H') : Ticks H' ds xs ρs := ⟨h.1, fun i d ρ a b => (h.2 i d ρ a b).same e⟩
theorem sc_law_rows_from : FnScope ["_law_net", "_law_bits", "_law_rows", "_law_regs", "_law_k"] ["_law_net", "_law_bits", "_law_rows"] (defScope (top 119)) :=
  ⟨rfl, rfl, rfl, by decide +kernel, rfl, by decide +kernel, by decide +kernel⟩
def spRowsF : Sp := fun vs H Q _ => ∃ (vn vb vr : V) (n : Net) (st : List Bool) (rows : List (List Bool)), vs = [vn, vb, vr] ∧ Rep H n.d vn ∧ NOk n ∧ Rep H (bitsD st) vb ∧ st.length = n.regs.length ∧ Rep H (rowsD rows) vr ∧ (∀ r ∈ rows, r.length = n.ins.length) ∧ rows.length ≤ 300 ∧
  ∀ v H' os, Same H H' → RunR n st rows os → Rep H' (rowsD os) v → Q v H'
theorem cal_law_rows_from (F : Df K mg "_law_rows_from" "_law_rows_from" 119) (B : Bl mg) (C_law_play : Cal P w K mg base CX0 2 "_law_play" ["_law_net", "_law_rows"] spPlay) (C_law_shown : Cal P w K mg base CX0 1 "_law_shown" ["_law_ticks", "_law_texts"] spShown) : Cal P w K mg base CX0 3 "_law_rows_from" ["_law_net", "_law_bits", "_law_rows"] spRowsF := by
  refine F.cal sc_law_rows_from (fun vs H Q E h => ?_) (fun _ _ _ _ _ _ us hl => match us, hl with | [_, _, _], _ => rfl) (fun f cdv A outer s H vs Q E hr h => ?_)
  · obtain ⟨_, _, _, _, _, _, rfl, _⟩ := h
    rfl
  · obtain ⟨vn, vb, vr, n, st, rows, rfl, rv, hn, rb, hst, rr0, hrl, hrz, k⟩ := h
    refine ⟨_, (pss_cons (ps_setLc (i := 3) (own := [("_law_k", 4)]) rfl sc_law_rows_from.nd rfl rfl (sw_true rfl rfl rfl (by decide +kernel)) (pi_range1 rfl B.range (pa_cons (pe_callB call_len_seq rfl B.len PySem.boot_len (pa_cons (pe_ix (r := rIxT K) ix_tup (pv 0) pe_int (fun _ _ => rfl)) pa_nil)) pa_nil)) (blkOk_by (N := ["_law_net", "_law_bits", "_law_rows", "_law_regs", "_law_k"]) (sc := defScope (top 119)) (own := [("_law_k", 4)]) (by decide +kernel)) (fun _ _ _ _ _ => (pg_name (i := 4) sc_law_rows_from.nd rfl (Or.inl rfl))) (fun _ _ _ _ _ => pts_nil) (fun _ _ _ _ _ => (pe_tup (pa_cons (pe_ix (r := rIxT K) ix_tup (pe_ix (r := rIxT K) ix_tup (pe_ix (r := rIxT K) ix_tup (pv 0) pe_int (fun _ _ => rfl)) (pv 4) (fun _ _ => rfl)) pe_int (fun _ _ => rfl)) (pa_cons (pe_ix (r := rIxT K) ix_tup (pv 1) (pv 4) (fun _ _ => rfl)) (pa_cons (pe_ix (r := rIxT K) ix_tup (pe_ix (r := rIxT K) ix_tup (pe_ix (r := rIxT K) ix_tup (pv 0) pe_int (fun _ _ => rfl)) (pv 4) (fun _ _ => rfl)) pe_int (fun _ _ => rfl)) pa_nil))))))
      (pss_one (ps_ret (pe_callC C_law_shown (hr.mono (by decide)) rfl pass0 (pa_cons (pe_ix (r := rIxT K) ix_tup (pe_callC C_law_play (hr.mono (by decide)) rfl pass0 (pa_cons (pe_tup (pa_cons (pe_ix (r := rIxT K) ix_tup (pv 0) pe_int (fun _ _ => rfl)) (pa_cons (pe_ix (r := rIxT K) ix_tup (pv 0) pe_int (fun _ _ => rfl)) (pa_cons (pe_callTy call_tuple_of rfl B.tuple (by decide +kernel) (pa_cons (pv 3) pa_nil)) (pa_cons (pe_ix (r := rIxT K) ix_tup (pv 0) pe_int (fun _ _ => rfl)) pa_nil))))) (pa_cons (pv 2) pa_nil))) pe_int (fun _ _ => rfl)) (pa_cons (pe_ix (r := rIxT K) ix_tup (pv 0) pe_int (fun _ _ => rfl)) pa_nil)))))), ?_⟩
    obtain ⟨p, v1, v2, v3, v4, rfl, hp, r1, r2, r3, r4⟩ := rv.t4
    obtain ⟨p3, rs, rfl, h3, rr⟩ := r3.eTup
    obtain ⟨pb, rfl, hpb⟩ := rb.bits
    have lr := rr.len
    rw [List.length_map] at lr
    have hrgz := hn.rsz
    refine ⟨_, rfl, p, _, _, _, rfl, rfl, SqT.of hp, atI_nat (j := 2) rfl, p3, _, rfl, .inr (SqT.of h3), _, rfl, by omega, by omega, fun L hL => ?_⟩
    refine lc_data walk_r0 ((n.withFi st).regs.map Reg.d) (by rw [List.length_map, withFi_len hst, Int.toNat_natCast]; exact lr) (by omega) hL (fun _ _ => True.intro) ?_ ?_
    · rintro i x dd _ H1 Q1 hi e ⟨rfl, rfl⟩ hdd qk
      rw [Int.toNat_natCast] at hi
      have hil : i < n.regs.length := by omega
      have hr' : n.regs[i]? = some n.regs[i] := List.getElem?_eq_getElem hil
      have hb' : st[i]? = some st[i] := List.getElem?_eq_getElem (by omega)
      obtain ⟨u, hu, ru⟩ := rr.get (i := i) (d := (n.regs[i]).d) (by rw [List.getElem?_map, hr']; rfl)
      obtain ⟨q, x1, x2, x3, rfl, hq, q1, q2, q3⟩ := ru.t3
      rw [q1.eStr, q3.eStr] at hq
      rw [List.getElem?_map, withFi_at hst hr' hb'] at hdd
      cases hdd
      refine ⟨rfl, _, rfl, p, _, _, _, rfl, rfl, SqT.of (e _ _ hp), atI_nat (j := 2) rfl, _, rfl, p3, _, _, _, rfl, rfl, SqT.of (e _ _ h3), atI_nat hu, q, _, _, _, rfl, rfl, SqT.of (e _ _ hq), rfl, ?_⟩
      refine ⟨_, rfl, _, rfl, pb, _, _, _, rfl, rfl, SqT.of (e _ _ hpb), atI_nat (j := i) (by rw [List.getElem?_map, hb']; rfl), ?_⟩
      refine ⟨_, rfl, p, _, _, _, rfl, rfl, SqT.of (e _ _ hp), atI_nat (j := 2) rfl, _, rfl, p3, _, _, _, rfl, rfl, SqT.of (e _ _ h3), atI_nat hu, q, _, _, _, rfl, rfl, SqT.of (e _ _ hq), atI_nat (j := 2) rfl, sz5 (by simp), fun t ht => ?_⟩
      exact qk _ _ (Same.new ht) (.tup upd_same (.cons (.str _) (.cons (.int _) (.cons (.str _) .nil))))
    · intro H1 ws e1 hL1 rws
      refine ⟨_, rfl, p, _, _, _, rfl, rfl, SqT.of (e1 _ _ hp), rfl, _, rfl, p, _, _, _, rfl, rfl, SqT.of (e1 _ _ hp), atI_nat (j := 1) rfl, _, rfl, L, _, rfl, .inl ⟨SqL.of hL1, fun t ht => ?_⟩⟩
      have e2 := Same.new ht (o := .tup ws)
      have e02 := e1.trans e2
      refine ⟨_, rfl, p, _, _, _, rfl, rfl, SqT.of (e02 _ _ hp), atI_nat (j := 3) rfl, sz5 (by simp), fun pn hpn => ?_⟩
      have e3 := Same.new hpn (o := .tup [v1, v2, .ref t, v4])
      have e03 := e02.trans e3
      refine ⟨_, rfl, _, vr, n.withFi st, rows, rfl, ?_, withFi_ok hn hst, rr0.ex e03, hrl, hrz, fun q lt lp ds ps ρs st' H4 e4 hq hlt htk hrun => ?_⟩
      · exact .tup upd_same (.cons (r1.ex e03) (.cons (r2.ex e03) (.cons (.tup (e3 _ _ upd_same) ((rws.ex e2).ex e3)) (.cons (r4.ex e03) .nil))))
      have e04 := e03.trans e4
      refine ⟨q, _, _, _, rfl, rfl, SqT.of hq, rfl, _, rfl, p, _, _, _, rfl, rfl, SqT.of (e04 _ _ hp), atI_nat (j := 3) rfl, ?_⟩
      have hlen : ds.length = rows.length := htk.1.trans hrun.len
      refine ⟨lt, v4, ds, n.outs, ρs, rfl, hlt, r4.ex e04, htk.sub fun y hy => (withFi_ok hn hst).sd.outs y hy, by omega, by have := hn.osz; omega, fun v H5 e5 r5 => ?_⟩
      refine k v H5 _ (e04.trans e5) ?_ r5
      have := hrun.all
      rw [withFi_fi hst] at this
      exact withFi_run hst this
end
end Wi
set_option maxHeartbeats 4000000
set_option maxRecDepth 100000
namespace Wi
open PySem L2 PySem.Spec PyProof.Rows
/-! V9: the law's visit -/
theorem flat_succ {α β : Type} (f : α → List β) {l : List α} {j : Nat} {x : α} (h : l[j]? = some x) : (l.take (j + 1)).flatMap f = (l.take j).flatMap f ++ f x := by
  rw [take_succ h, List.flatMap_append]
  simp
/-- two lists that grow: what they have got -/
structure VS (A R : Addr) (H H1 : Hp) (xs ys us ws : List V) (gs : List Gate) (rs : List Reg) : Prop where
  ek : Keep A R H H1
  a : H1 A = some (.lst (xs ++ us))
  r : H1 R = some (.lst (ys ++ ws))
  rg : RepL H1 (gs.map Gate.d) us
  rr : RepL H1 (rs.map Reg.d) ws
section
variable {A R : Addr} {H H1 H2 H3 : Hp} {xs ys us ws : List V} {gs gs' : List Gate} {rs rs' : List Reg}
theorem VS.lg (h : VS A R H H1 xs ys us ws gs rs) : us.length = gs.length := by have := h.rg.len; rw [List.length_map] at this; exact this.symm
theorem VS.lr (h : VS A R H H1 xs ys us ws gs rs) : ws.length = rs.length := by have := h.rr.len; rw [List.length_map] at this; exact this.symm
theorem VS.start (ha : H A = some (.lst xs)) (hr : H R = some (.lst ys)) : VS A R H H xs ys [] [] [] [] := ⟨Keep.refl, by rw [List.append_nil]; exact ha, by rw [List.append_nil]; exact hr, .nil, .nil⟩
theorem VS.cast (h : VS A R H H1 xs ys us ws gs rs) (e1 : gs = gs') (e2 : rs = rs') : VS A R H H1 xs ys us ws gs' rs' := e1 ▸ e2 ▸ h
theorem VS.same (h : VS A R H H1 xs ys us ws gs rs) (e : Same H1 H2) : VS A R H H2 xs ys us ws gs rs := ⟨h.ek.trans e.keep, e _ _ h.a, e _ _ h.r, h.rg.ex e, h.rr.ex e⟩
theorem VS.gate (h : VS A R H H1 xs ys us ws gs rs) (n : A ≠ R) {t : V} {g : Gate} (rt : Rep H1 g.d t) : VS A R H (upd H1 A (.lst (xs ++ us ++ [t]))) xs ys (us ++ [t]) ws (gs ++ [g]) rs := by
  have tx := (Tx.refl H1).mut (o := .lst (xs ++ us ++ [t])) h.a fun _ z => nomatch z
  refine ⟨h.ek.updA _, by rw [upd_same, List.append_assoc], by rw [upd_ne (Ne.symm n)]; exact h.r, ?_, h.rr.tx tx⟩
  rw [List.map_append]
  exact (h.rg.tx tx).snoc (rt.tx tx)
theorem VS.reg (h : VS A R H H1 xs ys us ws gs rs) (n : A ≠ R) {t : V} {g : Reg} (rt : Rep H1 g.d t) : VS A R H (upd H1 R (.lst (ys ++ ws ++ [t]))) xs ys us (ws ++ [t]) gs (rs ++ [g]) := by
  have tx := (Tx.refl H1).mut (o := .lst (ys ++ ws ++ [t])) h.r fun _ z => nomatch z
  refine ⟨h.ek.updR _, by rw [upd_ne n]; exact h.a, by rw [upd_same, List.append_assoc], h.rg.tx tx, ?_⟩
  rw [List.map_append]
  exact (h.rr.tx tx).snoc (rt.tx tx)
theorem VS.app (h : VS A R H H1 xs ys us ws gs rs) {us3 ws3 : List V} {gs3 : List Gate} {rs3 : List Reg} (k : VS A R H1 H3 (xs ++ us) (ys ++ ws) us3 ws3 gs3 rs3) : VS A R H H3 xs ys (us ++ us3) (ws ++ ws3) (gs ++ gs3) (rs ++ rs3) := by
  have tx := k.ek.tx h.a h.r
  refine ⟨h.ek.trans k.ek, by rw [← List.append_assoc]; exact k.a, by rw [← List.append_assoc]; exact k.r, ?_, ?_⟩
  · rw [List.map_append]; exact (h.rg.tx tx).app k.rg
  · rw [List.map_append]; exact (h.rr.tx tx).app k.rr
/-- what stood and is neither A nor R -/
theorem VS.tup (h : VS A R H H1 xs ys us ws gs rs) (ha : H A = some (.lst xs)) (hr : H R = some (.lst ys)) : Tx H H1 := h.ek.tx ha hr
end
theorem atZO (fi : Bool) : atI [V.str "zero", .str "one"] (b2i fi) = some (.str (if fi then Op.one else Op.zero).s) := by
  cases fi
  · exact atI_nat (j := 0) rfl
  · exact atI_nat (j := 1) rfl
section
variable {P : Program} {w : World} {K : PySem.W.Frag} {mg : Str → Option Value} {base : Heap}
theorem sc_law_visit : FnScope ["_law_modules", "_law_label", "_law_prefix", "_law_gates", "_law_rows", "_law_item", "_law_wire", "_law_signal", "_law_source", "_law_ports", "_law_k"] ["_law_modules", "_law_label", "_law_prefix", "_law_gates", "_law_rows"] (defScope (top 107)) :=
  ⟨rfl, rfl, rfl, by decide +kernel, rfl, by decide +kernel, by decide +kernel⟩
def spLVisit (k : Nat) : Sp := fun vs H Q _ => ∃ (x pre : S) (d A R : Addr) (ds : List Mod) (i : Nat) (m : Mod) (xs ys : List V), vs = [.ref d, .str x, .str pre, .ref A, .ref R] ∧ modAt ds x = some m ∧ MDl H d ds ∧ DOk ds ∧ ds[i]? = some m ∧ i < k ∧ A ≠ R ∧ H A = some (.lst xs) ∧ H R = some (.lst ys) ∧
  xs.length + (visG ds k m pre).length ≤ 60000 ∧ ys.length + (visR ds k m pre).length ≤ 60000 ∧ pre.length + 400 * i ≤ 10000 ∧
  ∀ H' us ws, VS A R H H' xs ys us ws (visG ds k m pre) (visR ds k m pre) → Q .non H'
theorem cal_law_visit0 (F : Df K mg "_law_visit" "_law_visit" 107) : Cal P w K mg base CX0 2 "_law_visit" ["_law_modules", "_law_label", "_law_prefix", "_law_gates", "_law_rows"] (spLVisit 0) := by
  refine F.cal sc_law_visit (fun vs H Q E h => ?_) (fun _ _ _ _ _ _ us hl => match us, hl with | [_, _, _, _, _], _ => rfl) (fun f cdv A outer s H vs Q E hr h => ?_)
  · obtain ⟨_, _, _, _, _, _, _, _, _, _, rfl, _⟩ := h
    rfl
  · obtain ⟨_, _, _, _, _, _, _, _, _, _, _, _, _, _, _, h, _⟩ := h
    exact absurd h (Nat.not_lt_zero _)
theorem cal_law_visit_succ (F : Df K mg "_law_visit" "_law_visit" 107) (B : Bl mg) (k0 : Nat) (C_law_visit : Cal P w K mg base CX0 (2 + k0) "_law_visit" ["_law_modules", "_law_label", "_law_prefix", "_law_gates", "_law_rows"] (spLVisit k0)) : Cal P w K mg base CX0 (2 + k0 + 1) "_law_visit" ["_law_modules", "_law_label", "_law_prefix", "_law_gates", "_law_rows"] (spLVisit (k0 + 1)) := by
  refine F.cal sc_law_visit (fun vs H Q E h => ?_) (fun _ _ _ _ _ _ us hl => match us, hl with | [_, _, _, _, _], _ => rfl) (fun f cdv A_ outer s H vs Q E hr h => ?_)
  · obtain ⟨_, _, _, _, _, _, _, _, _, _, rfl, _⟩ := h
    rfl
  · obtain ⟨lab, pre, d, A, R, ds, i, m, xs, ys, rfl, hlab, md, D, hm, hik, hAR, hA, hR, hgz, hrz, hpre, k⟩ := h
    refine ⟨_, (pss_one (ps_for PassesOwn.never rfl (pi_tup (pe_ix (r := rIxT K) ix_tup (pe_dget (hu_of hr) (pv 0) (pv 1) (fun _ _ => rfl)) pe_int (fun _ _ => rfl))) (pg_name (i := 5) sc_law_visit.nd rfl (Or.inl rfl))
        (pss_cons (ps_set (i := 6) sc_law_visit.nd rfl (Or.inl rfl) (pe_op op_add_str (pv 2) (pe_ix (r := rIxT K) ix_tup (pv 5) pe_int (fun _ _ => rfl))))
        (pss_one (ps_if (pt_cmpR op_eq (pe_ix (r := rIxT K) ix_tup (pv 5) pe_int (fun _ _ => rfl)) pe_str (nomark _))
          (pss_one (ps_expr (pe_bm PySem.F.plainAttrs_list PySem.F.slot_list_append PySem.F.type_list_append mt_append (pv 3) (pa_cons (pe_tup (pa_cons (pv 6) (pa_cons (pe_ix (r := rIxT K) ix_tup (pv 5) pe_int (fun _ _ => rfl)) (pa_cons (pe_callTy call_tuple_of rfl B.tuple (by decide +kernel) (pa_cons (pe_lc (own := [("_law_signal", 7)]) rfl sc_law_visit.nd (pi_tup (pe_ix (r := rIxT K) ix_tup (pv 5) pe_int (fun _ _ => rfl))) (blkOk_by (N := ["_law_modules", "_law_label", "_law_prefix", "_law_gates", "_law_rows", "_law_item", "_law_wire", "_law_signal", "_law_source", "_law_ports", "_law_k"]) (sc := defScope (top 107)) (own := [("_law_signal", 7)]) (by decide +kernel)) (fun _ _ _ _ _ => (pg_name (i := 7) sc_law_visit.nd rfl (Or.inl rfl))) (fun _ _ _ _ _ => pts_nil) (fun _ _ _ _ _ => (pe_op op_add_str (pv 2) (pv 7)))) pa_nil)) pa_nil)))) pa_nil))))
          (pss_one (ps_if (pt_cmpR op_eq (pe_ix (r := rIxT K) ix_tup (pv 5) pe_int (fun _ _ => rfl)) pe_str (nomark _))
            (pss_cons (ps_set (i := 8) sc_law_visit.nd rfl (Or.inl rfl) (pe_op op_add_str (pv 2) (pe_ix (r := rIxT K) ix_tup (pv 5) pe_int (fun _ _ => rfl))))
            (pss_cons (ps_if (pt_cmpR op_notN (pe_ix (r := rIxT K) ix_tup (pv 5) pe_int (fun _ _ => rfl)) pe_non (nomark _))
              (pss_cons (ps_expr (pe_bm PySem.F.plainAttrs_list PySem.F.slot_list_append PySem.F.type_list_append mt_append (pv 3) (pa_cons (pe_tup (pa_cons (pe_op op_add_str (pv 6) pe_str) (pa_cons pe_str (pa_cons (pe_tup (pa_cons (pe_op op_add_str (pv 2) (pe_ix (r := rIxT K) ix_tup (pv 5) pe_int (fun _ _ => rfl))) (pa_cons (pv 6) (pa_cons (pv 8) pa_nil)))) pa_nil)))) pa_nil)))
              (pss_one (ps_set (i := 8) sc_law_visit.nd rfl (Or.inl rfl) (pe_op op_add_str (pv 6) pe_str))))
              pss_nil)
            (pss_cons (ps_if (pt_cmpR op_notN (pe_ix (r := rIxT K) ix_tup (pv 5) pe_int (fun _ _ => rfl)) pe_non (nomark _))
              (pss_cons (ps_expr (pe_bm PySem.F.plainAttrs_list PySem.F.slot_list_append PySem.F.type_list_append mt_append (pv 3) (pa_cons (pe_tup (pa_cons (pe_op op_add_str (pv 6) pe_str) (pa_cons (pe_ix (r := rIxL K) ix_list (pe_lst (pa_cons pe_str (pa_cons pe_str pa_nil))) (pe_ix (r := rIxT K) ix_tup (pv 5) pe_int (fun _ _ => rfl)) (fun _ _ => rfl)) (pa_cons (pe_tup pa_nil) pa_nil)))) pa_nil)))
              (pss_cons (ps_expr (pe_bm PySem.F.plainAttrs_list PySem.F.slot_list_append PySem.F.type_list_append mt_append (pv 3) (pa_cons (pe_tup (pa_cons (pe_op op_add_str (pv 6) pe_str) (pa_cons pe_str (pa_cons (pe_tup (pa_cons (pe_op op_add_str (pv 2) (pe_ix (r := rIxT K) ix_tup (pv 5) pe_int (fun _ _ => rfl))) (pa_cons (pv 8) (pa_cons (pe_op op_add_str (pv 6) pe_str) pa_nil)))) pa_nil)))) pa_nil)))
              (pss_one (ps_set (i := 8) sc_law_visit.nd rfl (Or.inl rfl) (pe_op op_add_str (pv 6) pe_str)))))
              pss_nil)
            (pss_one (ps_expr (pe_bm PySem.F.plainAttrs_list PySem.F.slot_list_append PySem.F.type_list_append mt_append (pv 4) (pa_cons (pe_tup (pa_cons (pv 6) (pa_cons (pe_ix (r := rIxT K) ix_tup (pv 5) pe_int (fun _ _ => rfl)) (pa_cons (pv 8) pa_nil)))) pa_nil)))))))
            (pss_cons (ps_set (i := 9) sc_law_visit.nd rfl (Or.inl rfl) (pe_ix (r := rIxT K) ix_tup (pe_dget (hu_of hr) (pv 0) (pe_ix (r := rIxT K) ix_tup (pv 5) pe_int (fun _ _ => rfl)) (fun _ _ => rfl)) pe_int (fun _ _ => rfl)))
            (pss_cons (ps_for PassesOwn.never rfl (pi_range1 rfl B.range (pa_cons (pe_callB call_len_seq rfl B.len PySem.boot_len (pa_cons (pv 9) pa_nil)) pa_nil)) (pg_name (i := 10) sc_law_visit.nd rfl (Or.inl rfl))
              (pss_one (ps_expr (pe_bm PySem.F.plainAttrs_list PySem.F.slot_list_append PySem.F.type_list_append mt_append (pv 3) (pa_cons (pe_tup (pa_cons (pe_op op_add_str (pe_op op_add_str (pv 6) pe_str) (pe_ix (r := rIxT K) ix_tup (pv 9) (pv 10) (fun _ _ => rfl))) (pa_cons pe_str (pa_cons (pe_tup (pa_cons (pe_op op_add_str (pv 2) (pe_ix (r := rIxT K) ix_tup (pe_ix (r := rIxT K) ix_tup (pv 5) pe_int (fun _ _ => rfl)) (pv 10) (fun _ _ => rfl))) pa_nil)) pa_nil)))) pa_nil)))))
            (pss_one (ps_expr (pe_callC C_law_visit hr rfl pass0 (pa_cons (pv 0) (pa_cons (pe_ix (r := rIxT K) ix_tup (pv 5) pe_int (fun _ _ => rfl)) (pa_cons (pe_op op_add_str (pv 6) pe_str) (pa_cons (pv 3) (pa_cons (pv 4) pa_nil))))))))))))))))), ?_⟩
    have ok := D.ok i m hm
    have hsl := sig_len D hm
    have hil := item_len D hm
    obtain ⟨vm, hvm, rv⟩ := md.getS hlab
    obtain ⟨p, p1, p2, p3, us0, rfl, hp, h1, h2, h3, ru, lu⟩ := rv.modT
    have hgv : visG ds (k0 + 1) m pre = m.items.flatMap (itemG ds (visG ds k0) pre) := rfl
    have hrv : visR ds (k0 + 1) m pre = m.items.flatMap (itemR ds (visR ds k0) pre) := rfl
    rw [hgv] at hgz k
    rw [hrv] at hrz k
    have lh := (by decide +kernel : holdS.length = 5)
    have lf := (by decide +kernel : firstS.length = 6)
    have lc := (by decide +kernel : clearS.length = 6)
    refine ⟨_, rfl, _, rfl, d, _, rfl, hvm, p, _, _, _, rfl, rfl, SqT.of hp, atI_nat (j := 3) rfl, p3, rfl, ⟨_, SqT.of h3⟩, ?_⟩
    refine for_it (walk_tup (xs := us0)) (fun j σ H' => (∃ us ws, VS A R H H' xs ys us ws ((m.items.take j).flatMap (itemG ds (visG ds k0) pre)) ((m.items.take j).flatMap (itemR ds (visR ds k0) pre))) ∧ ∃ o5 o6 o8 o9 o10, σ = [some (.ref d), some (.str lab), some (.str pre), some (.ref A), some (.ref R), o5, o6, none, o8, o9, o10])
      ⟨⟨[], [], VS.start hA hR⟩, _, _, _, _, _, rfl⟩ (fun j σ H' _ h => let ⟨_, _, z⟩ := h.1; SqT.of (z.tup hA hR _ _ h3)) ?_ ?_
    · rintro j y σ _ H1 hj ⟨⟨us, ws, vs⟩, o5, o6, o8, o9, o10, rfl⟩ ⟨rfl, hy⟩
      obtain ⟨it, hit, rit0⟩ := ru.at hy
      have him := List.mem_of_getElem? hit
      have rit := rit0.tx (vs.tup hA hR)
      have lus := vs.lg
      have lws := vs.lr
      have bg := flat_take_le (itemG ds (visG ds k0) pre) hit
      have br := flat_take_le (itemR ds (visR ds k0) pre) hit
      have hx8 := hil it him
      have hxs := hsl it him
      have lpx := len_app pre it.nm
      have hA1 := vs.a
      have hR1 := vs.r
      obtain ⟨q, a, b, r, rfl, hq⟩ := rit.itemT
      rw [flat_succ _ hit, flat_succ _ hit]
      refine ⟨_, rfl, _, rfl, q, _, _, _, rfl, rfl, SqT.of hq, atI_nat (j := 1) rfl, _, _, rfl, rfl, sz5 (by omega), ?_⟩
      generalize hnm : it.nm = nm at lpx hx8 ⊢
      refine ⟨_, rfl, q, _, _, _, rfl, rfl, SqT.of hq, atI_nat (j := 0) rfl, rfl, _, rfl, ?_⟩
      cases it with
      | gate x o sg =>
        obtain ⟨q', qs, hqe, hq', hqs⟩ := itemGate rit
        cases hqe
        obtain rfl : x = nm := hnm
        refine ifT kGG ⟨_, rfl, .inl ⟨rfl, _, SqL.of hA1⟩, ?_⟩
        refine ⟨_, rfl, _, rfl, q, _, _, _, rfl, rfl, SqT.of hq', rfl, _, rfl, q, _, _, _, rfl, rfl, SqT.of hq', rfl, qs, rfl, ⟨_, SqT.of hqs⟩, fun L hL => ?_⟩
        have hsg : sg.length ≤ 3 := by
          have : sg.length = o.ar := ok.ok _ him
          rw [this]; exact ar_le o
        refine lc_data (walk_tup (xs := sg.map V.str)) ((sg.map fun s => pre ++ s).map Wi.D.str) (by rw [List.length_map, List.length_map, List.length_map]) (by rw [List.length_map]; omega) hL (fun H2 e => SqT.of (e _ _ hqs)) ?_ ?_
        · rintro i' z dd _ H2 Q' hi' e ⟨rfl, hz⟩ hd qk
          obtain ⟨c, hc, rfl⟩ := strs_get hz
          rw [List.getElem?_map, List.getElem?_map, hc] at hd
          cases hd
          have := hxs c (List.mem_of_getElem? hc)
          exact ⟨rfl, _, rfl, _, rfl, _, _, rfl, rfl, sz5 (by omega), qk _ _ (Same.refl _) (.str _)⟩
        · intro H2 us' e2 hL2 ru'
          rw [ru'.strs] at hL2
          refine ⟨L, _, rfl, .inl ⟨SqL.of hL2, fun t ht => ⟨sz5 (by simp), fun t2 ht2 => ?_⟩⟩⟩
          have e3 := e2.trans ((Same.new ht (o := .tup ((sg.map fun s => pre ++ s).map V.str))).trans (Same.new ht2 (o := .tup [.str (pre ++ x), .str o.s, .ref t])))
          have v3 := vs.same e3
          refine ⟨A, xs ++ us, V.ref t2, rfl, rfl, v3.a, sz5' (by rw [List.length_append]; omega), ?_⟩
          exact ⟨⟨_, _, (v3.gate hAR (g := ⟨pre ++ x, o, sg.map fun s => pre ++ s⟩) (rep_gate upd_same (Rep.ofStrs (Same.new ht2 _ _ upd_same)))).cast rfl (List.append_nil _).symm⟩, _, _, _, _, _, rfl⟩
      | reg x fi sg wh cl =>
        obtain ⟨q', hqe, hq'⟩ := itemReg rit
        cases hqe
        obtain rfl : x = nm := hnm
        have hx8' : x.length ≤ 8 := hx8
        have lps := len_app pre sg
        have lpx' : (pre ++ x).length = pre.length + x.length := lpx
        have lsg : sg.length ≤ 300 := hxs sg (List.mem_cons_self ..)
        have kq : ∀ {H'}, Same H1 H' → H' q = some (.tup [.str rS, .str x, .int (b2i fi), .str sg, oV wh, oV cl]) := fun e => e _ _ hq'
        refine ifF kRG ⟨_, rfl, q, _, _, _, rfl, rfl, SqT.of hq', rfl, rfl, _, rfl, ifT kRR ?_⟩
        refine ⟨_, rfl, _, rfl, q, _, _, _, rfl, rfl, SqT.of hq', atI_nat (j := 3) rfl, _, _, rfl, rfl, sz5 (by omega), ?_⟩
        refine ⟨_, rfl, q, _, _, _, rfl, rfl, SqT.of hq', atI_nat (j := 4) rfl, rfl, _, rfl, ?_⟩
        rw [isnon_o]
        cases wh with
        | none =>
          refine iteF ⟨_, rfl, q, _, _, _, rfl, rfl, SqT.of hq', atI_nat (j := 5) rfl, rfl, _, rfl, ?_⟩
          rw [isnon_o]
          cases cl with
          | none =>
            refine iteF ?_
            refine ⟨_, rfl, .inl ⟨rfl, _, SqL.of vs.r⟩, _, rfl, _, rfl, q, _, _, _, rfl, rfl, SqT.of hq', atI_nat (j := 2) rfl, _, rfl, sz5 (by simp), fun t7 ht7 => ?_⟩
            have v7 := vs.same (Same.new ht7 (o := .tup [.str (pre ++ x), .int (b2i fi), .str (pre ++ sg)]))
            refine ⟨R, ys ++ ws, _, rfl, rfl, v7.r, sz5' (by rw [List.length_append]; omega), ?_⟩
            exact ⟨⟨_, _, (v7.reg hAR (g := ⟨pre ++ x, fi, pre ++ sg⟩) (.tup upd_same (.cons (.str _) (.cons (.int _) (.cons (.str _) .nil))))).cast ((List.append_nil _).symm) rfl⟩, _, _, _, _, _, rfl⟩
          | some c =>
            have lc2 : c.length ≤ 300 := hxs c (by show c ∈ sg :: (Option.toList _ ++ [c]); simp)
            refine iteT ⟨_, rfl, .inl ⟨rfl, _, SqL.of vs.a⟩, _, rfl, _, _, rfl, rfl, sz5 (by show (pre ++ x).length + firstS.length ≤ 100000; omega), sz5 (by simp), fun l hl => ?_⟩
            have e0 := Same.new hl (o := .lst [.str "zero", .str "one"])
            refine ⟨_, rfl, q, _, _, _, rfl, rfl, SqT.of (e0 _ _ hq'), atI_nat (j := 2) rfl, l, _, _, _, rfl, rfl, SqL.of upd_same, atZO fi, sz5 (by simp), fun t ht => ⟨sz5 (by simp), fun t2 ht2 => ?_⟩⟩
            have e5 := e0.trans ((Same.new ht (o := .tup [])).trans (Same.new ht2 (o := .tup [.str (pre ++ x ++ firstS), .str (if fi then Op.one else Op.zero).s, .ref t])))
            have v5 := vs.same e5
            have hq5 := e5 _ _ hq'
            refine ⟨A, xs ++ us, _, rfl, rfl, v5.a, sz5' (by simp only [List.length_append, List.length_cons, List.length_nil]; omega), ?_⟩
            have vf := v5.gate hAR (g := ⟨pre ++ x ++ firstS, if fi then Op.one else Op.zero, []⟩) (rep_gate upd_same (Rep.ofStrs (l := []) (Same.new ht2 _ _ upd_same)))
            have hqf : (upd (upd (upd (upd H1 l (.lst [.str "zero", .str "one"])) t (.tup [])) t2 (.tup [.str (pre ++ x ++ firstS), .str (if fi then Op.one else Op.zero).s, .ref t])) A (.lst (xs ++ us ++ [.ref t2]))) q = _ := (upd_ne (fun z => by rw [z, v5.a] at hq5; cases hq5)).trans hq5
            generalize upd (upd (upd (upd H1 l (.lst [.str "zero", .str "one"])) t (.tup [])) t2 (.tup [.str (pre ++ x ++ firstS), .str (if fi then Op.one else Op.zero).s, .ref t])) A (.lst (xs ++ us ++ [.ref t2])) = Hf at vf hqf ⊢
            refine ⟨_, rfl, .inl ⟨rfl, _, SqL.of vf.a⟩, _, rfl, _, _, rfl, rfl, sz5 (by show (pre ++ x).length + clearS.length ≤ 100000; omega), _, rfl, _, rfl, q, _, _, _, rfl, rfl, SqT.of hqf, atI_nat (j := 5) rfl, _, _, rfl, rfl, sz5 (by omega), _, rfl, _, rfl, _, _, rfl, rfl, sz5 (by show (pre ++ x).length + firstS.length ≤ 100000; omega), sz5 (by simp), fun t5 ht5 => ⟨sz5 (by simp), fun t6 ht6 => ?_⟩⟩
            have e6 := (Same.new ht5 (o := .tup [.str (pre ++ c), .str (pre ++ sg), .str (pre ++ x ++ firstS)])).trans (Same.new ht6 (o := .tup [.str (pre ++ x ++ clearS), .str "mux", .ref t5]))
            have v6 := vf.same e6
            have hq6 := e6 _ _ hqf
            refine ⟨A, xs ++ (us ++ [V.ref t2]), _, rfl, rfl, v6.a, sz5' (by simp only [List.length_append, List.length_cons, List.length_nil]; omega), ?_⟩
            have vc := v6.gate hAR (g := ⟨pre ++ x ++ clearS, .mux, [pre ++ c, pre ++ sg, pre ++ x ++ firstS]⟩) (rep_gate upd_same (Rep.ofStrs (l := [pre ++ c, pre ++ sg, pre ++ x ++ firstS]) (Same.new ht6 _ _ upd_same)))
            have hqc : (upd (upd (upd Hf t5 (.tup [.str (pre ++ c), .str (pre ++ sg), .str (pre ++ x ++ firstS)])) t6 (.tup [.str (pre ++ x ++ clearS), .str "mux", .ref t5])) A (.lst (xs ++ (us ++ [V.ref t2]) ++ [.ref t6]))) q = _ := (upd_ne (fun z => by rw [z, v6.a] at hq6; cases hq6)).trans hq6
            refine ⟨_, rfl, _, _, rfl, rfl, sz5 (by show (pre ++ x).length + clearS.length ≤ 100000; omega), ?_⟩
            generalize upd (upd (upd Hf t5 (.tup [.str (pre ++ c), .str (pre ++ sg), .str (pre ++ x ++ firstS)])) t6 (.tup [.str (pre ++ x ++ clearS), .str "mux", .ref t5])) A (.lst (xs ++ (us ++ [V.ref t2]) ++ [.ref t6])) = Hc at vc hqc ⊢
            refine ⟨_, rfl, .inl ⟨rfl, _, SqL.of vc.r⟩, _, rfl, _, rfl, q, _, _, _, rfl, rfl, SqT.of hqc, atI_nat (j := 2) rfl, _, rfl, sz5 (by simp), fun t7 ht7 => ?_⟩
            have v7 := vc.same (Same.new ht7 (o := .tup [.str (pre ++ x), .int (b2i fi), .str (pre ++ x ++ clearS)]))
            refine ⟨R, ys ++ ws, _, rfl, rfl, v7.r, sz5' (by rw [List.length_append]; omega), ?_⟩
            exact ⟨⟨_, _, (v7.reg hAR (g := ⟨pre ++ x, fi, pre ++ x ++ clearS⟩) (.tup upd_same (.cons (.str _) (.cons (.int _) (.cons (.str _) .nil))))).cast (by rw [List.append_assoc]; rfl) rfl⟩, _, _, _, _, _, rfl⟩
        | some z =>
          have lz : z.length ≤ 300 := hxs z (by show z ∈ sg :: ([z] ++ cl.toList); simp)
          refine iteT ⟨_, rfl, .inl ⟨rfl, _, SqL.of vs.a⟩, _, rfl, _, _, rfl, rfl, sz5 (by show (pre ++ x).length + holdS.length ≤ 100000; omega), _, rfl, _, rfl, q, _, _, _, rfl, rfl, SqT.of hq', atI_nat (j := 4) rfl, _, _, rfl, rfl, sz5 (by omega), _, rfl, _, rfl, sz5 (by simp), fun t3 ht3 => ⟨sz5 (by simp), fun t4 ht4 => ?_⟩⟩
          have e4 := (Same.new ht3 (o := .tup [.str (pre ++ z), .str (pre ++ x), .str (pre ++ sg)])).trans (Same.new ht4 (o := .tup [.str (pre ++ x ++ holdS), .str "mux", .ref t3]))
          have v4 := vs.same e4
          have hq4 := e4 _ _ hq'
          refine ⟨A, xs ++ us, _, rfl, rfl, v4.a, sz5' (by rw [List.length_append]; omega), ?_⟩
          have vh := v4.gate hAR (g := ⟨pre ++ x ++ holdS, .mux, [pre ++ z, pre ++ x, pre ++ sg]⟩) (rep_gate upd_same (Rep.ofStrs (l := [pre ++ z, pre ++ x, pre ++ sg]) (Same.new ht4 _ _ upd_same)))
          have hqh : (upd (upd (upd H1 t3 (.tup [.str (pre ++ z), .str (pre ++ x), .str (pre ++ sg)])) t4 (.tup [.str (pre ++ x ++ holdS), .str "mux", .ref t3])) A (.lst (xs ++ us ++ [.ref t4]))) q = _ := (upd_ne (fun z => by rw [z, v4.a] at hq4; cases hq4)).trans hq4
          refine ⟨_, rfl, _, _, rfl, rfl, sz5 (by show (pre ++ x).length + holdS.length ≤ 100000; omega), _, rfl, q, _, _, _, rfl, rfl, SqT.of hqh, atI_nat (j := 5) rfl, rfl, _, rfl, ?_⟩
          have lw := vh.lg
          generalize upd (upd (upd H1 t3 (.tup [.str (pre ++ z), .str (pre ++ x), .str (pre ++ sg)])) t4 (.tup [.str (pre ++ x ++ holdS), .str "mux", .ref t3])) A (.lst (xs ++ us ++ [.ref t4])) = Hh at vh hqh ⊢
          rw [isnon_o]
          cases cl with
          | none =>
            refine iteF ?_
            refine ⟨_, rfl, .inl ⟨rfl, _, SqL.of vh.r⟩, _, rfl, _, rfl, q, _, _, _, rfl, rfl, SqT.of hqh, atI_nat (j := 2) rfl, _, rfl, sz5 (by simp), fun t7 ht7 => ?_⟩
            have v7 := vh.same (Same.new ht7 (o := .tup [.str (pre ++ x), .int (b2i fi), .str (pre ++ x ++ holdS)]))
            refine ⟨R, ys ++ ws, _, rfl, rfl, v7.r, sz5' (by rw [List.length_append]; omega), ?_⟩
            exact ⟨⟨_, _, (v7.reg hAR (g := ⟨pre ++ x, fi, pre ++ x ++ holdS⟩) (.tup upd_same (.cons (.str _) (.cons (.int _) (.cons (.str _) .nil))))).cast (rfl) rfl⟩, _, _, _, _, _, rfl⟩
          | some c =>
            have lc2 : c.length ≤ 300 := hxs c (by show c ∈ sg :: (Option.toList _ ++ [c]); simp)
            refine iteT ⟨_, rfl, .inl ⟨rfl, _, SqL.of vh.a⟩, _, rfl, _, _, rfl, rfl, sz5 (by show (pre ++ x).length + firstS.length ≤ 100000; omega), sz5 (by simp), fun l hl => ?_⟩
            have e0 := Same.new hl (o := .lst [.str "zero", .str "one"])
            refine ⟨_, rfl, q, _, _, _, rfl, rfl, SqT.of (e0 _ _ hqh), atI_nat (j := 2) rfl, l, _, _, _, rfl, rfl, SqL.of upd_same, atZO fi, sz5 (by simp), fun t ht => ⟨sz5 (by simp), fun t2 ht2 => ?_⟩⟩
            have e5 := e0.trans ((Same.new ht (o := .tup [])).trans (Same.new ht2 (o := .tup [.str (pre ++ x ++ firstS), .str (if fi then Op.one else Op.zero).s, .ref t])))
            have v5 := vh.same e5
            have hq5 := e5 _ _ hqh
            refine ⟨A, xs ++ (us ++ [.ref t4]), _, rfl, rfl, v5.a, sz5' (by simp only [List.length_append, List.length_cons, List.length_nil]; omega), ?_⟩
            have vf := v5.gate hAR (g := ⟨pre ++ x ++ firstS, if fi then Op.one else Op.zero, []⟩) (rep_gate upd_same (Rep.ofStrs (l := []) (Same.new ht2 _ _ upd_same)))
            have hqf : (upd (upd (upd (upd Hh l (.lst [.str "zero", .str "one"])) t (.tup [])) t2 (.tup [.str (pre ++ x ++ firstS), .str (if fi then Op.one else Op.zero).s, .ref t])) A (.lst (xs ++ (us ++ [.ref t4]) ++ [.ref t2]))) q = _ := (upd_ne (fun z => by rw [z, v5.a] at hq5; cases hq5)).trans hq5
            generalize upd (upd (upd (upd Hh l (.lst [.str "zero", .str "one"])) t (.tup [])) t2 (.tup [.str (pre ++ x ++ firstS), .str (if fi then Op.one else Op.zero).s, .ref t])) A (.lst (xs ++ (us ++ [.ref t4]) ++ [.ref t2])) = Hf at vf hqf ⊢
            refine ⟨_, rfl, .inl ⟨rfl, _, SqL.of vf.a⟩, _, rfl, _, _, rfl, rfl, sz5 (by show (pre ++ x).length + clearS.length ≤ 100000; omega), _, rfl, _, rfl, q, _, _, _, rfl, rfl, SqT.of hqf, atI_nat (j := 5) rfl, _, _, rfl, rfl, sz5 (by omega), _, rfl, _, rfl, _, _, rfl, rfl, sz5 (by show (pre ++ x).length + firstS.length ≤ 100000; omega), sz5 (by simp), fun t5 ht5 => ⟨sz5 (by simp), fun t6 ht6 => ?_⟩⟩
            have e6 := (Same.new ht5 (o := .tup [.str (pre ++ c), .str (pre ++ x ++ holdS), .str (pre ++ x ++ firstS)])).trans (Same.new ht6 (o := .tup [.str (pre ++ x ++ clearS), .str "mux", .ref t5]))
            have v6 := vf.same e6
            have hq6 := e6 _ _ hqf
            refine ⟨A, xs ++ ((us ++ [.ref t4]) ++ [V.ref t2]), _, rfl, rfl, v6.a, sz5' (by simp only [List.length_append, List.length_cons, List.length_nil]; omega), ?_⟩
            have vc := v6.gate hAR (g := ⟨pre ++ x ++ clearS, .mux, [pre ++ c, pre ++ x ++ holdS, pre ++ x ++ firstS]⟩) (rep_gate upd_same (Rep.ofStrs (l := [pre ++ c, pre ++ x ++ holdS, pre ++ x ++ firstS]) (Same.new ht6 _ _ upd_same)))
            have hqc : (upd (upd (upd Hf t5 (.tup [.str (pre ++ c), .str (pre ++ x ++ holdS), .str (pre ++ x ++ firstS)])) t6 (.tup [.str (pre ++ x ++ clearS), .str "mux", .ref t5])) A (.lst (xs ++ ((us ++ [.ref t4]) ++ [V.ref t2]) ++ [.ref t6]))) q = _ := (upd_ne (fun z => by rw [z, v6.a] at hq6; cases hq6)).trans hq6
            refine ⟨_, rfl, _, _, rfl, rfl, sz5 (by show (pre ++ x).length + clearS.length ≤ 100000; omega), ?_⟩
            generalize upd (upd (upd Hf t5 (.tup [.str (pre ++ c), .str (pre ++ x ++ holdS), .str (pre ++ x ++ firstS)])) t6 (.tup [.str (pre ++ x ++ clearS), .str "mux", .ref t5])) A (.lst (xs ++ ((us ++ [.ref t4]) ++ [V.ref t2]) ++ [.ref t6])) = Hc at vc hqc ⊢
            refine ⟨_, rfl, .inl ⟨rfl, _, SqL.of vc.r⟩, _, rfl, _, rfl, q, _, _, _, rfl, rfl, SqT.of hqc, atI_nat (j := 2) rfl, _, rfl, sz5 (by simp), fun t7 ht7 => ?_⟩
            have v7 := vc.same (Same.new ht7 (o := .tup [.str (pre ++ x), .int (b2i fi), .str (pre ++ x ++ clearS)]))
            refine ⟨R, ys ++ ws, _, rfl, rfl, v7.r, sz5' (by rw [List.length_append]; omega), ?_⟩
            exact ⟨⟨_, _, (v7.reg hAR (g := ⟨pre ++ x, fi, pre ++ x ++ clearS⟩) (.tup upd_same (.cons (.str _) (.cons (.int _) (.cons (.str _) .nil))))).cast (by rw [List.append_assoc, List.append_assoc]; rfl) rfl⟩, _, _, _, _, _, rfl⟩
      | use x md' sg =>
        obtain ⟨q', qs, hqe, hq', hqs⟩ := itemUse rit
        cases hqe
        obtain rfl : x = nm := hnm
        have hx8' : x.length ≤ 8 := hx8
        have lpx' : (pre ++ x).length = pre.length + x.length := lpx
        obtain ⟨u, hmd, hsl2⟩ := ok.ok _ him
        have hmd' := modAt_take hmd
        obtain ⟨j', hj', hdj⟩ := mod_ix hmd
        have md1 := md.keep vs.ek hA hR
        obtain ⟨vu, hvu, rvu⟩ := md1.getS hmd'
        obtain ⟨pu, pu1, pu2, pu3, uus, rfl, hpu, hu1, hu2, hu3, ruu, luu⟩ := rvu.modT
        rw [itemG_use hmd', List.length_append] at bg
        rw [itemR_use hmd'] at br
        have hui : u.ins.length ≤ 10 := (D.nm u (List.mem_of_getElem? hdj)).sz.ins
        have lpg : (portG pre x u.ins sg).length = u.ins.length := by unfold portG; rw [List.length_map, List.length_zip, hsl2, Nat.min_self]
        refine ifF kUG ⟨_, rfl, q, _, _, _, rfl, rfl, SqT.of hq', rfl, rfl, _, rfl, ifF kUR ?_⟩
        refine ⟨_, rfl, _, rfl, q, _, _, _, rfl, rfl, SqT.of hq', atI_nat (j := 2) rfl, d, _, rfl, hvu, pu, _, _, _, rfl, rfl, SqT.of hpu, rfl, ?_⟩
        refine ⟨_, rfl, pu1, _, rfl, .inr (SqT.of hu1), _, rfl, by rw [List.length_map]; omega, by rw [List.length_map]; omega, ?_⟩
        refine for_it walk_r0 (fun j2 σ H' => (∃ us2, VS A R H1 H' (xs ++ us) (ys ++ ws) us2 [] ((portG pre x u.ins sg).take j2) []) ∧ ∃ o10, σ = [some (.ref d), some (.str lab), some (.str pre), some (.ref A), some (.ref R), some (.ref q), some (.str (pre ++ x)), none, o8, some (.ref pu1), o10])
          ⟨⟨[], VS.start hA1 hR1⟩, _, rfl⟩ (fun _ _ _ _ _ => True.intro) ?_ ?_
        · rintro j2 y σ _ H2 hj2 ⟨⟨us2, v2⟩, o10', rfl⟩ ⟨rfl, rfl⟩
          rw [List.length_map, Int.toNat_natCast] at hj2
          obtain ⟨pt, hpt⟩ : ∃ z, u.ins[j2]? = some z := ⟨_, List.getElem?_eq_getElem hj2⟩
          obtain ⟨sgn, hsgn⟩ : ∃ z, sg[j2]? = some z := ⟨_, List.getElem?_eq_getElem (by omega)⟩
          have hpt8 : pt.length ≤ 8 := name_len ((D.ok j' u hdj).dclN _ (List.mem_append_left _ (List.mem_of_getElem? hpt)))
          have hsg3 := hxs sgn (List.mem_of_getElem? hsgn)
          have tx2 := v2.tup hA1 hR1
          have l2 := v2.lg
          rw [List.length_take, lpg] at l2
          have ldx : (pre ++ x ++ dotS).length = (pre ++ x).length + 1 := by rw [len_app (pre ++ x), len_dot]
          refine ⟨_, rfl, .inl ⟨rfl, _, SqL.of v2.a⟩, _, rfl, _, _, rfl, rfl, sz5 (by show (pre ++ x).length + 1 ≤ 100000; omega), _, rfl, _, rfl, pu1, _, _, _, rfl, rfl, SqT.of (tx2 _ _ hu1), atI_nat (j := j2) (by rw [List.getElem?_map, hpt]; rfl), _, _, rfl, rfl, sz5 (by show (pre ++ x ++ dotS).length + pt.length ≤ 100000; omega), ?_⟩
          refine ⟨_, rfl, _, rfl, q, _, _, _, rfl, rfl, SqT.of (tx2 _ _ hq'), atI_nat (j := 3) rfl, _, rfl, qs, _, _, _, rfl, rfl, SqT.of (tx2 _ _ hqs), atI_nat (j := j2) (by rw [List.getElem?_map, hsgn]; rfl), _, _, rfl, rfl, sz5 (by omega), sz5 (by simp), fun t ht => ⟨sz5 (by simp), fun t2 ht2 => ?_⟩⟩
          have e4 := (Same.new ht (o := .tup [.str (pre ++ sgn)])).trans (Same.new ht2 (o := .tup [.str (pre ++ x ++ dotS ++ pt), .str "buf", .ref t]))
          have v4 := v2.same e4
          refine ⟨A, xs ++ us ++ us2, V.ref t2, rfl, rfl, v4.a, sz5' (by rw [List.length_append, List.length_append]; omega), ?_⟩
          have hgt : (portG pre x u.ins sg)[j2]? = some ⟨pre ++ x ++ dotS ++ pt, .buf, [pre ++ sgn]⟩ := by
            unfold portG
            have hz : (u.ins.zip sg)[j2]? = some (pt, sgn) := by
              rw [List.getElem?_zip_eq_some]
              exact ⟨hpt, hsgn⟩
            rw [List.getElem?_map, hz]
            rfl
          exact ⟨⟨_, (v4.gate hAR (g := ⟨pre ++ x ++ dotS ++ pt, .buf, [pre ++ sgn]⟩) (rep_gate upd_same (Rep.ofStrs (l := [pre ++ sgn]) (Same.new ht2 _ _ upd_same)))).cast (take_succ hgt).symm rfl⟩, _, rfl⟩
        · rintro σ H2 ⟨⟨us2, v2⟩, o10', rfl⟩
          rw [List.length_map, Int.toNat_natCast, show u.ins.length = (portG pre x u.ins sg).length from lpg.symm, List.take_length] at v2
          have l2 := v2.lg
          rw [lpg] at l2
          have tx2 := v2.tup hA1 hR1
          have hR2 := v2.r
          rw [List.append_nil] at hR2
          have v12 := vs.app v2
          refine ⟨_, rfl, _, rfl, q, _, _, _, rfl, rfl, SqT.of (tx2 _ _ hq'), atI_nat (j := 2) rfl, _, rfl, _, _, rfl, rfl, sz5 (by show (pre ++ x).length + 1 ≤ 100000; omega), _, rfl, _, rfl, md', pre ++ x ++ dotS, d, A, R, ds, j', u, xs ++ us ++ us2, ys ++ ws, rfl, hmd', md1.keep v2.ek hA1 hR1, D, hdj, by omega, hAR, v2.a, hR2, by rw [List.length_append, List.length_append]; omega, by rw [List.length_append]; omega, by rw [len_app, len_dot]; omega, fun H3 us3 ws3 v3 => ?_⟩
          have v13 := vs.app ((v2.cast rfl rfl).app (us3 := us3) (ws3 := ws3) (gs3 := visG ds k0 u (pre ++ x ++ dotS)) (rs3 := visR ds k0 u (pre ++ x ++ dotS)) (by rw [List.append_nil]; exact v3))
          exact ⟨⟨_, _, v13.cast (by rw [itemG_use hmd']) (by rw [itemR_use hmd']; rfl)⟩, _, _, _, _, _, rfl⟩
    · rintro σ H1 ⟨⟨us, ws, vs⟩, o5, o6, o8, o9, o10, rfl⟩
      rw [lu, List.take_length] at vs
      exact k H1 us ws vs
theorem cal_law_visit (F : Df K mg "_law_visit" "_law_visit" 107) (B : Bl mg) : ∀ k, Cal P w K mg base CX0 (2 + k) "_law_visit" ["_law_modules", "_law_label", "_law_prefix", "_law_gates", "_law_rows"] (spLVisit k)
  | 0 => cal_law_visit0 F
  | k + 1 => cal_law_visit_succ F B k (cal_law_visit F B k)
theorem sc_law_flat : FnScope ["_law_design", "_law_label", "_law_modules", "_law_module", "_law_gates", "_law_rows"] ["_law_design", "_law_label"] (defScope (top 108)) :=
  ⟨rfl, rfl, rfl, by decide +kernel, rfl, by decide +kernel, by decide +kernel⟩
def spLFlat : Sp := fun vs H Q _ => ∃ (v : V) (x : S) (ds : List Mod) (m : Mod) (i : Nat), vs = [v, .str x] ∧ Rep H (desD ds) v ∧ DOk ds ∧ ds[i]? = some m ∧ m.nm = x ∧ (visG ds 10 m PySem.Str.empty).length ≤ 60000 ∧ (visR ds 10 m PySem.Str.empty).length ≤ 60000 ∧ ∀ v' H', Same H H' → Rep H' (flatN ds 10 m).d v' → Q v' H'
theorem cal_law_flat (F : Df K mg "_law_flat" "_law_flat" 108) (B : Bl mg) (C_law_visit : Cal P w K mg base CX0 12 "_law_visit" ["_law_modules", "_law_label", "_law_prefix", "_law_gates", "_law_rows"] (spLVisit 10)) : Cal P w K mg base CX0 13 "_law_flat" ["_law_design", "_law_label"] spLFlat := by
  refine F.cal sc_law_flat (fun vs H Q E h => ?_) (fun _ _ _ _ _ _ us hl => match us, hl with | [_, _], _ => rfl) (fun f cdv A_ outer s H vs Q E hr h => ?_)
  · obtain ⟨_, _, _, _, _, rfl, _⟩ := h
    rfl
  · obtain ⟨v, x, ds, m, im, rfl, rv, hd, him, hnm, hgz, hrz, k⟩ := h
    refine ⟨_, (pss_cons (ps_set (i := 2) sc_law_flat.nd rfl (Or.inl rfl) pe_dnewK)
      (pss_cons (ps_for PassesOwn.never rfl (pi_tup (pv 0)) (pg_name (i := 3) sc_law_flat.nd rfl (Or.inl rfl))
        (pss_one (ps_dput (hu_of hr) (pv 2) (pe_ix (r := rIxT K) ix_tup (pv 3) pe_int (fun _ _ => rfl)) (pv 3) rfl)))
      (pss_cons (ps_set (i := 4) sc_law_flat.nd rfl (Or.inl rfl) (pe_lst pa_nil))
      (pss_cons (ps_set (i := 5) sc_law_flat.nd rfl (Or.inl rfl) (pe_lst pa_nil))
      (pss_cons (ps_expr (pe_callC C_law_visit (hr.mono (by decide)) rfl pass0 (pa_cons (pv 2) (pa_cons (pv 1) (pa_cons pe_str (pa_cons (pv 4) (pa_cons (pv 5) pa_nil)))))))
      (pss_one (ps_ret (pe_tup (pa_cons (pe_ix (r := rIxT K) ix_tup (pe_dget (hu_of hr) (pv 2) (pv 1) (fun _ _ => rfl)) pe_int (fun _ _ => rfl)) (pa_cons (pe_callTy call_tuple_of rfl B.tuple (by decide +kernel) (pa_cons (pv 4) pa_nil)) (pa_cons (pe_callTy call_tuple_of rfl B.tuple (by decide +kernel) (pa_cons (pv 5) pa_nil)) (pa_cons (pe_ix (r := rIxT K) ix_tup (pe_dget (hu_of hr) (pv 2) (pv 1) (fun _ _ => rfl)) pe_int (fun _ _ => rfl)) pa_nil)))))))))))), ?_⟩
    obtain ⟨p, us, rfl, hp, ru⟩ := rv.eTup
    have lu := ru.len
    rw [List.length_map] at lu
    have hsz := hd.sz
    have hil : im < ds.length := (List.getElem?_eq_some_iff.mp him).1
    intro d hd0
    have e0 := Same.new hd0 (o := .dK [])
    refine ⟨_, rfl, p, rfl, ⟨_, SqT.of (e0 _ _ hp)⟩, ?_⟩
    refine for_it (walk_tup (xs := us)) (fun j σ H' => Same H H' ∧ (∃ f, SD H' d (ds.take j).length f ∧ (∀ x, modAt (ds.take j) x = none → f x = none) ∧ ∀ x u, modAt (ds.take j) x = some u → ∃ v, f x = some v ∧ Rep H' u.d v) ∧ ∃ o3, σ = [some (.ref p), some (.str x), some (.ref d), o3, none, none])
      ⟨e0, ⟨_, by simpa using SD.new, fun _ _ => rfl, fun x u h => by simp [modAt] at h⟩, _, rfl⟩ (fun j σ H' _ h => SqT.of (h.1 _ _ hp)) ?_ ?_
    · rintro j y σ _ H2 hj ⟨e2, hk, o3, rfl⟩ ⟨rfl, hy⟩
      obtain ⟨u, hu, ru2⟩ := ru.at hy
      obtain ⟨pm, q1, q2, q3, uus, rfl, hpm, hq1, hq2, hq3, rui, lui⟩ := (ru2.ex e2).modT
      obtain ⟨f0, s1, s2, s3⟩ := hk
      have hlt : (ds.take j).length ≤ 9 := by rw [List.length_take]; omega
      obtain ⟨kvs, b1, b2, f', c1, c2, c3⟩ := putMDl (n := 0) (v := V.ref pm) ⟨f0, s1.mono (by omega), s2, s3⟩ hlt (hd.ok j u hu).nmNew (ru2.ex e2) ⟨f0, s1, s2, s3⟩
      refine ⟨_, rfl, _, rfl, _, rfl, pm, _, _, _, rfl, rfl, SqT.of hpm, rfl, d, _, rfl, b2, e2.mut hd0, ⟨f', ?_, ?_, ?_⟩, _, rfl⟩
      · rw [take_succ hu]; exact c1
      · rw [take_succ hu]; exact c2
      · rw [take_succ hu]; exact c3
    · rintro σ H2 ⟨e2, ⟨f0, s1, s2, s3⟩, o3, rfl⟩
      rw [← lu, List.take_length] at s1 s2 s3
      have md : MDl H2 d ds := ⟨f0, s1.mono (by omega), s2, s3⟩
      have hmo : modAt ds x = some m := by rw [← hnm]; exact modAt_nm hd.ok him
      refine ⟨sz5 (by simp), fun A hA => ⟨sz5 (by simp), fun R hR => ?_⟩⟩
      have hAR : A ≠ R := fun z => by rw [← z, upd_same] at hR; cases hR
      have hR2 : H2 R = none := by rwa [upd_ne (Ne.symm hAR)] at hR
      have e3 : Same H2 (upd (upd H2 A (.lst [])) R (.lst [])) := (Same.new hA).mut hR2
      refine ⟨_, rfl, _, rfl, _, rfl, _, rfl, x, PySem.Str.empty, d, A, R, ds, im, m, [], [], rfl, hmo, md.same e3, hd, him, by omega, hAR, by rw [upd_ne hAR, upd_same], upd_same, by simpa using hgz, by simpa using hrz, by show 0 + 400 * im ≤ 10000; omega, fun H6 us6 ws6 v6 => ?_⟩
      have e26 : Same H2 H6 := v6.ek.same e3 hA hR2
      have e06 := e2.trans e26
      obtain ⟨vm, hvm, rvm⟩ := (md.same e26).getS hmo
      obtain ⟨pm, q1, q2, q3, uus, rfl, hpm, hq1, hq2, hq3, rui, lui⟩ := rvm.modT
      have hA6 := v6.a
      have hR6 := v6.r
      rw [List.nil_append] at hA6 hR6
      refine ⟨_, rfl, _, rfl, d, _, rfl, hvm, pm, _, _, _, rfl, rfl, SqT.of hpm, atI_nat (j := 1) rfl, _, rfl, A, _, rfl, .inl ⟨SqL.of hA6, fun l1 hl1 => ?_⟩⟩
      have e7 := Same.new hl1 (o := .tup us6)
      refine ⟨_, rfl, R, _, rfl, .inl ⟨SqL.of (e7 _ _ hR6), fun l2 hl2 => ?_⟩⟩
      have e8 := Same.new hl2 (o := .tup ws6)
      have e68 := e7.trans e8
      obtain ⟨vm2, hvm2, rvm2⟩ := ((md.same e26).same e68).getS hmo
      obtain ⟨pm2, q1', q2', q3', uus', rfl, hpm2, hq1', hq2', hq3', rui', lui'⟩ := rvm2.modT
      refine ⟨_, rfl, _, rfl, d, _, rfl, hvm2, pm2, _, _, _, rfl, rfl, SqT.of hpm2, atI_nat (j := 2) rfl, sz5 (by simp), fun l3 hl3 => ?_⟩
      have e9 := Same.new hl3 (o := .tup [.ref q1, .ref l1, .ref l2, .ref q2'])
      have e69 := e68.trans e9
      refine k _ _ (e06.trans e69) ?_
      exact .tup upd_same (.cons (Rep.ofStrs (e69 _ _ hq1)) (.cons (.tup ((e8.trans e9) _ _ upd_same) (v6.rg.ex e69)) (.cons (.tup (e9 _ _ upd_same) (v6.rr.ex e69)) (.cons (Rep.ofStrs (e9 _ _ hq2')) .nil))))
end
end Wi
set_option maxHeartbeats 4000000
set_option maxRecDepth 100000
namespace Wi
open PySem L2 PySem.Spec PyProof.Rows NdefX
/-! V10: what flat_size and flatten tell -/
structure XC (K : PySem.W.Frag) (D C : Addr) : Prop where
  xf : XfC K D
  is : XisC K D
  kit : PySem.W.kitOne K (.ref D) (.ref C) = some false
  own : PySem.W.exmOne K (.ref D) (.ref D) = some true
inductive Ans (ds : List Mod) (sized : Bool) (o : Option S) : D → Prop
  | size (m : Mod) (h : selM ds o = some m) (s : sized = true) : Ans ds sized o (.tup [.str "told", .int ((sizeV ds 10 m : Nat) : Int)])
  | net (m : Mod) (h : selM ds o = some m) (s : sized = false) (z : sizeV ds 10 m ≤ 200) : Ans ds sized o (.tup [.str "told", (flatN ds 10 m).d])
  | big (m : Mod) (h : selM ds o = some m) (s : sized = false) (z : 200 < sizeV ds 10 m) : Ans ds sized o (.tup [.str "large", .str "gates", .int 200, .bl false])
  | unk (t : S) (h : o = some t) (n : t ∉ ds.map (·.nm)) : Ans ds sized o (.tup [.str "unknown", .str t, .bl false])
def askO (given : Bool) (lab : Option S) : Option S := if given then lab else none
section
variable {w : World} {K : PySem.W.Frag} {mg : Str → Option Value} {base : Heap}
theorem sc_law_asked : FnScope ["_law_sized", "_law_design", "_law_given", "_law_label", "e"] ["_law_sized", "_law_design", "_law_given", "_law_label"] (defScope (top 118)) :=
  ⟨rfl, rfl, rfl, by decide +kernel, rfl, by decide +kernel, by decide +kernel⟩
def spAsked : Sp := fun vs H Q _ => ∃ (sized given : Bool) (v : V) (ds : List Mod) (lab : Option S), vs = [.bl sized, v, .bl given, oV lab] ∧ Rep H (desD ds) v ∧ DOk ds ∧ ds ≠ [] ∧ (∀ t, lab = some t → t.length ≤ 300) ∧ ∀ d v' H', Same H H' → Ans ds sized (askO given lab) d → Rep H' d v' → Q v' H'
theorem cal_law_asked {CU CT : Addr} (F : Df K mg "_law_asked" "_law_asked" 118) (B : Bl mg) (U : UNC K mg CU) (UT : TLC K mg CT) (XU : XC K CU CT) (XT : XC K CT CU) (XN : PySem.W.exmOne K (.ref CT) (.ref CU) = some false)
    (C_flat_size : CalF PySem.Challenge.pw_wirewatch_k95_whole_flat_and_rewritten w K mg base (L2.CX PySem.Challenge.pw_wirewatch_k95_whole_flat_and_rewritten w) 7 "flat_size" "flat_size" 41 [("top", .non)] ["design", "top"] (spFSize CU))
    (C_flatten : CalF PySem.Challenge.pw_wirewatch_k95_whole_flat_and_rewritten w K mg base (L2.CX PySem.Challenge.pw_wirewatch_k95_whole_flat_and_rewritten w) 13 "flatten" "flatten" 44 [("top", .non)] ["design", "top"] (spFlat CU CT)) : Cal PySem.Challenge.pw_wirewatch_k95_whole_flat_and_rewritten w K mg base (L2.CX PySem.Challenge.pw_wirewatch_k95_whole_flat_and_rewritten w) 14 "_law_asked" ["_law_sized", "_law_design", "_law_given", "_law_label"] spAsked := by
  refine F.calX sc_law_asked (fun vs H Q E h => ?_) (fun _ _ _ _ _ _ us hl => match us, hl with | [_, _, _, _], _ => rfl) (fun f cdv A outer s H vs Q E hr h => ?_)
  · obtain ⟨_, _, _, _, _, rfl, _⟩ := h
    rfl
  · obtain ⟨sized, given, v, ds, lab, rfl, rv, hd, hne, hlab, k⟩ := h
    refine ⟨_, (pss_one (ps_tryAs rfl rfl sc_law_asked.nd takes_none5 (fun W pn xe tk _ => (pss_cons (ps_if (PW.pt (pw_and (pt_val (pv 0)) (pw_and1 (pt_val (pv 2)))))
          (pss_one (ps_ret (pe_tup (pa_cons pe_str (pa_cons (pe_callTS "top" C_flat_size (by decide) (hr.mono (by decide)) rfl (fun σ => passAt tk σ) (fun _ _ _ _ _ _ us ws h1 h2 => match us, ws, h1, h2 with | [_], [_], _, _ => rfl) (pa_cons (pv 1) pa_nil) (pk_cons (pv 3) pk_nil)) pa_nil)))))
          pss_nil)
        (pss_cons (ps_if (pt_val (pv 0))
          (pss_one (ps_ret (pe_tup (pa_cons pe_str (pa_cons (pe_callDS C_flat_size (by decide) (hr.mono (by decide)) rfl (fun σ => passAt tk σ) rfl (fun _ _ _ _ _ _ us ks h1 h2 => match us, ks, h1, h2 with | [_], [_], _, _ => ⟨_, _, _, _, _, _, rfl, rfl, rfl⟩) (pa_cons (pv 1) pa_nil)) pa_nil)))))
          pss_nil)
        (pss_cons (ps_if (pt_val (pv 2))
          (pss_one (ps_ret (pe_tup (pa_cons pe_str (pa_cons (pe_callTS "top" C_flatten (by decide) (hr.mono (by decide)) rfl (fun σ => passAt tk σ) (fun _ _ _ _ _ _ us ws h1 h2 => match us, ws, h1, h2 with | [_], [_], _, _ => rfl) (pa_cons (pv 1) pa_nil) (pk_cons (pv 3) pk_nil)) pa_nil)))))
          pss_nil)
        (pss_one (ps_ret (pe_tup (pa_cons pe_str (pa_cons (pe_callDS C_flatten (by decide) (hr.mono (by decide)) rfl (fun σ => passAt tk σ) rfl (fun _ _ _ _ _ _ us ks h1 h2 => match us, ks, h1, h2 with | [_], [_], _, _ => ⟨_, _, _, _, _, _, rfl, rfl, rfl⟩) (pa_cons (pv 1) pa_nil)) pa_nil)))))))))
        (.cons (i := 4) rfl rfl ⟨rfl, by decide, .inl U.gl⟩ (fun a oe cls d pn hz hf => (pss_one (ps_ret (pe_tup (pa_cons pe_str (pa_cons (pe_xf XU.xf U.no hz hf (pv 4)) (pa_cons (pe_callB (call_isX hz hf) rfl B.isinstance (by decide +kernel) (pa_cons (pv 4) (pa_cons (pe_globR rfl UT.gl) pa_nil))) pa_nil)))))))
        (.cons (i := 4) rfl rfl ⟨rfl, by decide, .inl UT.gl⟩ (fun a oe cls d pn hz hf => (pss_one (ps_ret (pe_tup (pa_cons pe_str (pa_cons (pe_xf XT.xf UT.no hz hf (pv 4)) (pa_cons (pe_xf XT.xf UT.no2 hz hf (pv 4)) (pa_cons (pe_callB (call_isX hz hf) rfl B.isinstance (by decide +kernel) (pa_cons (pv 4) (pa_cons (pe_globR rfl U.gl) pa_nil))) pa_nil))))))))
        .nil)))), ?_⟩
    have told2 : ∀ (a b : D) (x y : V) (H1 : Hp), Same H H1 → Rep H1 a x → Rep H1 b y → Ans ds sized (askO given lab) (.tup [a, b]) → ([x, y] : List V).length ≤ sizeLine ∧ ∀ p, H1 p = none → Q (.ref p) (upd H1 p (.tup [x, y])) := fun a b x y H1 e ra rb an =>
      ⟨sz5 (by simp), fun p hp => k _ _ _ (e.trans (Same.new hp)) an (.tup upd_same (.cons (ra.ex (Same.new hp)) (.cons (rb.ex (Same.new hp)) .nil)))⟩
    have lo : ∀ t, askO given lab = some t → t.length ≤ 300 := fun t ht => by
      unfold askO at ht
      cases given
      · cases ht
      · exact hlab t ht
    have unk : ∀ {σ : L2.St} {D : Ends} {W0 : WX} {l : List Cla} (t : S) (H1 : Hp), True := fun _ _ => trivial
    cases sized with
    | true =>
      cases given with
      | true =>
        refine ⟨_, rfl, _, rfl, ifT rfl ⟨_, rfl, _, rfl, ifT rfl ⟨_, rfl, _, rfl, rfl, rfl, ds, v, lab, rfl, rv, hd, hne, hlab, fun m H1 e1 hm => ?_, fun t H1 e1 ht hn d H2 e2 hx => ?_⟩⟩⟩
        · exact told2 _ _ _ _ H1 e1 (.str _) (.int _) (.size m hm rfl)
        · refine ⟨true, XU.own, fun _ a ha => ?_, fun z => Bool.noConfusion z⟩
          refine ⟨_, rfl, rfl, rfl, d, _, _, rfl, hx, rfl, _, rfl, CU, CT, d, _, false, rfl, rfl, rfl, hx, ⟨XU.is, XU.kit⟩, sz5 (by simp), fun p hp => k _ _ _ ((e1.trans e2).trans (Same.new hp)) (.unk t ht hn) (.tup upd_same (.cons (.str _) (.cons (.str _) (.cons (.bl _) .nil))))⟩
      | false =>
        refine ⟨_, rfl, _, rfl, ifT rfl ⟨_, rfl, _, rfl, ifF rfl ⟨_, rfl, _, rfl, ifT rfl ⟨_, rfl, ds, v, none, rfl, rv, hd, hne, (fun t z => by cases z), fun m H1 e1 hm => ?_, fun t H1 e1 ht hn => by cases ht⟩⟩⟩⟩
        exact told2 _ _ _ _ H1 e1 (.str _) (.int _) (.size m hm rfl)
    | false =>
      cases given with
      | true =>
        refine ⟨_, rfl, _, rfl, ifF rfl (iteF ⟨_, rfl, _, rfl, ifF rfl ⟨_, rfl, _, rfl, ifT rfl ⟨_, rfl, _, rfl, rfl, rfl, ds, v, lab, rfl, rv, hd, hne, hlab, fun m v' H1 e1 hm hz r => ?_, fun m H1 e1 hm hz d H2 e2 hx => ?_, fun t H1 e1 ht hn d H2 e2 hx => ?_⟩⟩⟩)⟩
        · exact told2 _ _ _ _ H1 e1 (.str _) r (.net m hm rfl hz)
        · refine ⟨false, XN, fun z => Bool.noConfusion z, fun _ => ⟨true, XT.own, fun _ a ha => ?_, fun z => Bool.noConfusion z⟩⟩
          refine ⟨_, rfl, rfl, rfl, d, _, _, rfl, hx, rfl, _, rfl, rfl, rfl, d, _, _, rfl, hx, rfl, _, rfl, CT, CU, d, _, false, rfl, rfl, rfl, hx, ⟨XT.is, XT.kit⟩, sz5 (by simp), fun p hp => k _ _ _ ((e1.trans e2).trans (Same.new hp)) (.big m hm rfl hz) (.tup upd_same (.cons (.str _) (.cons (.str _) (.cons (.int _) (.cons (.bl _) .nil)))))⟩
        · refine ⟨true, XU.own, fun _ a ha => ?_, fun z => Bool.noConfusion z⟩
          refine ⟨_, rfl, rfl, rfl, d, _, _, rfl, hx, rfl, _, rfl, CU, CT, d, _, false, rfl, rfl, rfl, hx, ⟨XU.is, XU.kit⟩, sz5 (by simp), fun p hp => k _ _ _ ((e1.trans e2).trans (Same.new hp)) (.unk t ht hn) (.tup upd_same (.cons (.str _) (.cons (.str _) (.cons (.bl _) .nil))))⟩
      | false =>
        refine ⟨_, rfl, _, rfl, ifF rfl (iteF ⟨_, rfl, _, rfl, ifF rfl ⟨_, rfl, _, rfl, ifF rfl ⟨_, rfl, ds, v, none, rfl, rv, hd, hne, (fun t z => by cases z), fun m v' H1 e1 hm hz r => ?_, fun m H1 e1 hm hz d H2 e2 hx => ?_, fun t H1 e1 ht hn => by cases ht⟩⟩⟩)⟩
        · exact told2 _ _ _ _ H1 e1 (.str _) r (.net m hm rfl hz)
        · refine ⟨false, XN, fun z => Bool.noConfusion z, fun _ => ⟨true, XT.own, fun _ a ha => ?_, fun z => Bool.noConfusion z⟩⟩
          refine ⟨_, rfl, rfl, rfl, d, _, _, rfl, hx, rfl, _, rfl, rfl, rfl, d, _, _, rfl, hx, rfl, _, rfl, CT, CU, d, _, false, rfl, rfl, rfl, hx, ⟨XT.is, XT.kit⟩, sz5 (by simp), fun p hp => k _ _ _ ((e1.trans e2).trans (Same.new hp)) (.big m hm rfl hz) (.tup upd_same (.cons (.str _) (.cons (.str _) (.cons (.int _) (.cons (.bl _) .nil)))))⟩
end
end Wi
set_option maxHeartbeats 4000000
set_option maxRecDepth 100000
namespace Wi
open PySem L2 PySem.Spec PyProof.Rows
/-! V11a: modules as the law makes them (plain) -/
theorem combOf (i : Item) : i.isReg = false ↔ (!i.isReg) = true := by cases i <;> simp [Item.isReg]
structure SlimI (ds : List Mod) (ins regL : List S) (its : List Item) : Prop where
  nr : ∀ i ∈ its, i.isReg = false
  ok : ∀ i ∈ its, ItemOk ds i
  ord : ∀ (j : Nat) (i : Item), its[j]? = some i → ∀ s ∈ i.sgs, s ∈ ins ++ regL ++ (its.take j).flatMap (Item.outSig ds)
theorem SlimI.nil {ds : List Mod} {ins regL : List S} : SlimI ds ins regL [] := ⟨fun _ h => (nomatch h), fun _ h => (nomatch h), fun j i h => by simp at h⟩
theorem SlimI.snoc {ds : List Mod} {ins regL : List S} {its : List Item} (h : SlimI ds ins regL its) {i : Item} (hr : i.isReg = false) (ok : ItemOk ds i) (sg : ∀ s ∈ i.sgs, s ∈ ins ++ regL ++ its.flatMap (Item.outSig ds)) : SlimI ds ins regL (its ++ [i]) := by
  refine ⟨fun j hj => ?_, fun j hj => ?_, fun j x hx s hs => ?_⟩
  · rcases List.mem_append.mp hj with q | q
    · exact h.nr j q
    · rw [List.mem_singleton.mp q]; exact hr
  · rcases List.mem_append.mp hj with q | q
    · exact h.ok j q
    · rw [List.mem_singleton.mp q]; exact ok
  · by_cases hlt : j < its.length
    · rw [List.getElem?_append_left hlt] at hx
      rw [List.take_append_of_le_length (Nat.le_of_lt hlt)]
      exact h.ord j x hx s hs
    · have ej : j = its.length := by
        have h1 := (List.getElem?_eq_some_iff.mp hx).1
        rw [List.length_append, List.length_singleton] at h1
        omega
      subst ej
      rw [List.getElem?_append_right (Nat.le_refl _)] at hx
      have ex : i = x := by simpa using hx
      subst ex
      rw [List.take_append_of_le_length (Nat.le_refl _), List.take_length]
      exact sg s hs
structure SlimR (rd : List S) (its all : List Item) (done : List S) : Prop where
  comb : (all.filter fun i => !i.isReg) = its
  regs : ((all.filter fun i => i.isReg).map (·.nm)).Perm done
  sg : ∀ i ∈ all, i.isReg = true → ∀ s ∈ i.sgs, s ∈ rd
theorem SlimR.start {rd : List S} {its : List Item} (h : ∀ i ∈ its, i.isReg = false) : SlimR rd its its [] := by
  refine ⟨List.filter_eq_self.mpr fun i hi => by rw [h i hi]; rfl, ?_, fun i hi hr => ?_⟩
  · rw [List.filter_eq_nil_iff.mpr fun i hi => by rw [h i hi]; exact Bool.false_ne_true]
    exact List.Perm.refl _
  · rw [h i hi] at hr; cases hr
theorem SlimR.ins {rd : List S} {its all : List Item} {done : List S} (h : SlimR rd its all done) {i : Item} (hr : i.isReg = true) (hs : ∀ s ∈ i.sgs, s ∈ rd) (k : Nat) : SlimR rd its (all.take k ++ [i] ++ all.drop k) (done ++ [i.nm]) := by
  have hall : all.take k ++ all.drop k = all := List.take_append_drop k all
  refine ⟨?_, ?_, fun j hj hjr => ?_⟩
  · rw [List.filter_append, List.filter_append, show ([i].filter fun i => !i.isReg) = [] from by rw [List.filter_cons, hr]; rfl, List.append_nil, ← List.filter_append, hall]
    exact h.comb
  · rw [List.filter_append, List.filter_append, show ([i].filter fun i => i.isReg) = [i] from by rw [List.filter_cons, hr]; rfl]
    have e : ((all.take k).filter fun i => i.isReg) ++ ((all.drop k).filter fun i => i.isReg) = all.filter fun i => i.isReg := by rw [← List.filter_append, hall]
    have p1 : (((all.take k).filter fun i => i.isReg) ++ [i] ++ ((all.drop k).filter fun i => i.isReg)).Perm ((all.filter fun i => i.isReg) ++ [i]) := by
      rw [← e, List.append_assoc, List.append_assoc]
      exact List.Perm.append_left _ List.perm_append_comm
    refine (p1.map (·.nm)).trans ?_
    rw [List.map_append]
    exact List.Perm.append_right _ h.regs
  · have hj' : j ∈ all ∨ j = i := by
      rcases List.mem_append.mp hj with q | q
      · rcases List.mem_append.mp q with q | q
        · exact .inl (List.mem_of_mem_take q)
        · exact .inr (List.mem_singleton.mp q)
      · exact .inl (List.mem_of_mem_drop q)
    rcases hj' with q | q
    · exact h.sg j q hjr
    · rw [q]; exact hs
theorem has_dot (x o : S) : 46 ∈ ls (x ++ dotS ++ o) := by
  rw [ls_app, ls_app, ls_dot]
  simp
/-- the plain ones of what is ready -/
def noDot (x : S) : Bool := !decide (46 ∈ ls x)
theorem noDot_name {x : S} (h : isName x = true) : noDot x = true := by
  unfold noDot
  rw [decide_eq_false fun m => no_dot h 46 m rfl]; rfl
theorem noDot_port (x o : S) : noDot (x ++ dotS ++ o) = false := by
  unfold noDot
  rw [decide_eq_true (has_dot x o)]; rfl
theorem outSig_use {ds : List Mod} {x md : S} {sg : List S} {u : Mod} (h : modAt ds md = some u) : Item.outSig ds (.use x md sg) = u.outs.map fun o => x ++ dotS ++ o := ports_some (sg := sg) h
def gNames (its : List Item) : List S := (its.filter fun i => !i.isUse).map (·.nm)
theorem filt_out {ds : List Mod} : ∀ {its : List Item}, (∀ i ∈ its, i.isReg = false) → (∀ i ∈ its, ItemOk ds i) → (∀ i ∈ its, isName i.nm = true) → (its.flatMap (Item.outSig ds)).filter noDot = gNames its
  | [], _, _, _ => rfl
  | i :: r, h1, h2, h3 => by
    have ih := filt_out (its := r) (fun j hj => h1 j (List.mem_cons_of_mem _ hj)) (fun j hj => h2 j (List.mem_cons_of_mem _ hj)) (fun j hj => h3 j (List.mem_cons_of_mem _ hj))
    have hr := h1 i (List.mem_cons_self ..)
    have ho := h2 i (List.mem_cons_self ..)
    have hn := h3 i (List.mem_cons_self ..)
    rw [List.flatMap_cons, List.filter_append, ih]
    cases i with
    | reg => cases hr
    | gate x o sg =>
      have : noDot x = true := noDot_name hn
      show [x].filter noDot ++ gNames r = _
      rw [List.filter_cons, this]
      rfl
    | use x md sg =>
      obtain ⟨u, hu, _⟩ := ho
      rw [outSig_use hu, List.filter_eq_nil_iff.mpr fun s hs => by
        obtain ⟨o, _, rfl⟩ := List.mem_map.mp hs
        rw [noDot_port]; exact Bool.false_ne_true]
      rfl
theorem gN_sub {its : List Item} : (gNames its).Sublist (its.map (·.nm)) := List.Sublist.map _ List.filter_sublist
/-- what is ready, its plain part -/
theorem filt_ready {ds : List Mod} {ins regL : List S} {its : List Item} (hi : ∀ x ∈ ins ++ regL, isName x = true) (h1 : ∀ i ∈ its, i.isReg = false) (h2 : ∀ i ∈ its, ItemOk ds i) (h3 : ∀ i ∈ its, isName i.nm = true) :
    (ins ++ regL ++ its.flatMap (Item.outSig ds)).filter noDot = ins ++ regL ++ gNames its := by
  rw [List.filter_append, filt_out h1 h2 h3, List.filter_eq_self.mpr fun x hx => noDot_name (hi x hx)]
theorem split_perm {its all : List Item} {regL : List S} (hc : (all.filter fun i => !i.isReg) = its) (hr : ((all.filter fun i => i.isReg).map (·.nm)).Perm regL) : (all.map (·.nm)).Perm (regL ++ its.map (·.nm)) := by
  have : ∀ l : List Item, ((l.filter fun i => i.isReg) ++ l.filter fun i => !i.isReg).Perm l := fun l => by
    induction l with
    | nil => exact List.Perm.refl _
    | cons i r ih =>
      cases q : i.isReg with
      | true =>
        rw [List.filter_cons, List.filter_cons, q]
        exact ih.cons i
      | false =>
        rw [List.filter_cons, List.filter_cons, q]
        exact (List.perm_middle (a := i)).trans (ih.cons i)
  have h := (this all).map (·.nm)
  rw [List.map_append, hc] at h
  exact h.symm.trans (List.Perm.append_right _ hr)
theorem slim_ok {ds : List Mod} {x : S} {ins regL outs rs : List S} {its all : List Item} (hx : isName x = true) (hnew : x ∉ ds.map (·.nm)) (hnd : (ins ++ (regL ++ its.map (·.nm))).Nodup) (hnm : ∀ y ∈ ins ++ (regL ++ its.map (·.nm)), isName y = true)
    (hI : SlimI ds ins regL its) (hR : SlimR (ins ++ regL ++ its.flatMap (Item.outSig ds)) its all regL) (ho : (outs ++ rs).Perm ((ins ++ regL ++ its.flatMap (Item.outSig ds)).filter noDot)) : MOk ds ⟨x, ins, outs, all⟩ := by
  have sp := split_perm hR.comb hR.regs
  have hdp : (Mod.decl ⟨x, ins, outs, all⟩).Perm (ins ++ (regL ++ its.map (·.nm))) := List.Perm.append_left _ sp
  have hin : ∀ i ∈ its, isName i.nm = true := fun i hi => hnm _ (List.mem_append_right _ (List.mem_append_right _ (List.mem_map_of_mem hi)))
  have hir : ∀ y ∈ ins ++ regL, isName y = true := fun y hy => hnm y (by rw [← List.append_assoc]; exact List.mem_append_left _ hy)
  rw [filt_ready hir hI.nr hI.ok hin] at ho
  have hallI : ∀ i ∈ all, i.isReg = true ∨ i ∈ its := fun i hi => by
    cases q : i.isReg with
    | true => exact .inl rfl
    | false => exact .inr (hR.comb ▸ List.mem_filter.mpr ⟨hi, by rw [q]; rfl⟩)
  have hitsA : ∀ i ∈ its, i ∈ all := fun i hi => (List.mem_filter.mp (hR.comb ▸ hi)).1
  have hregA : ∀ y, y ∈ regL ↔ ∃ i ∈ all, i.isReg = true ∧ i.nm = y := fun y => by
    rw [← hR.regs.mem_iff]
    constructor
    · intro h
      obtain ⟨i, hi, e⟩ := List.mem_map.mp h
      obtain ⟨h1, h2⟩ := List.mem_filter.mp hi
      exact ⟨i, h1, h2, e⟩
    · rintro ⟨i, h1, h2, e⟩
      exact List.mem_map.mpr ⟨i, List.mem_filter.mpr ⟨h1, h2⟩, e⟩
  have nouse : ∀ i : Item, i.isReg = true → i.isUse = false := fun i h => by cases i <;> first | rfl | cases h
  have rdy : ∀ s ∈ ins ++ regL ++ its.flatMap (Item.outSig ds), s ∈ Mod.sigs ds ⟨x, ins, outs, all⟩ := fun s hs => by
    unfold Mod.sigs Mod.plain
    rcases List.mem_append.mp hs with q | q
    · rcases List.mem_append.mp q with q | q
      · exact List.mem_append_left _ (List.mem_append_left _ q)
      · obtain ⟨i, h1, h2, e⟩ := (hregA s).mp q
        exact List.mem_append_left _ (List.mem_append_right _ (List.mem_map.mpr ⟨i, List.mem_filter.mpr ⟨h1, by rw [nouse i h2]; rfl⟩, e⟩))
    · obtain ⟨i, hi, hsi⟩ := List.mem_flatMap.mp q
      cases i with
      | reg => cases hsi
      | gate y o sg =>
        have : s = y := List.mem_singleton.mp hsi
        exact List.mem_append_left _ (List.mem_append_right _ (List.mem_map.mpr ⟨_, List.mem_filter.mpr ⟨hitsA _ hi, rfl⟩, this.symm⟩))
      | use y md sg => exact List.mem_append_right _ (List.mem_flatMap.mpr ⟨_, hitsA _ hi, hsi⟩)
  refine ⟨hx, hnew, fun y hy => hnm y (hdp.mem_iff.mp hy), hdp.nodup_iff.mpr hnd, fun o h => ?_, ?_, fun i hi => ?_, fun i hi s hs => ?_, fun j i hji s hs => ?_⟩
  · have h' := ho.mem_iff.mp (List.mem_append_left _ h)
    unfold Mod.plain
    rcases List.mem_append.mp h' with q | q
    · rcases List.mem_append.mp q with q | q
      · exact List.mem_append_left _ q
      · obtain ⟨i, h1, h2, e⟩ := (hregA o).mp q
        exact List.mem_append_right _ (List.mem_map.mpr ⟨i, List.mem_filter.mpr ⟨h1, by rw [nouse i h2]; rfl⟩, e⟩)
    · obtain ⟨i, hi, e⟩ := List.mem_map.mp q
      obtain ⟨h1, h2⟩ := List.mem_filter.mp hi
      exact List.mem_append_right _ (List.mem_map.mpr ⟨i, List.mem_filter.mpr ⟨hitsA _ h1, h2⟩, e⟩)
  · have nd1 : (ins ++ regL ++ gNames its).Nodup := by
      rw [List.append_assoc]
      exact hnd.sublist (List.Sublist.append_left (List.Sublist.append_left gN_sub _) _)
    exact (List.nodup_append.mp (ho.nodup_iff.mpr nd1)).1
  · rcases hallI i hi with q | q
    · cases i <;> first | exact trivial | cases q
    · exact hI.ok i q
  · rcases hallI i hi with q | q
    · exact rdy s (hR.sg i hi q s hs)
    · obtain ⟨j, hj⟩ := List.mem_iff_getElem?.mp q
      have h' := hI.ord j i hj s hs
      refine rdy s ?_
      rcases List.mem_append.mp h' with z | z
      · exact List.mem_append_left _ z
      · obtain ⟨i', hi', hs'⟩ := List.mem_flatMap.mp z
        exact List.mem_append_right _ (List.mem_flatMap.mpr ⟨i', List.mem_of_mem_take hi', hs'⟩)
  · have hc : Mod.comb ⟨x, ins, outs, all⟩ = its := hR.comb
    rw [hc] at hji ⊢
    have h' := hI.ord j i hji s hs
    rcases List.mem_append.mp h' with z | z
    · rcases List.mem_append.mp z with z | z
      · exact List.mem_append_left _ (List.mem_append_left _ z)
      · exact List.mem_append_left _ (List.mem_append_right _ (hR.regs.mem_iff.mpr z))
    · exact List.mem_append_right _ z
end Wi
set_option maxHeartbeats 4000000
set_option maxRecDepth 100000
namespace Wi
open PySem L2 PySem.Spec PyProof.Rows
/-! V11: modules as the law makes them -/
theorem walk_rN {a n : Nat} : Walk (Itr (a : Int) n) n (fun _ => True) (YFn fun i : Nat => .int ((a + i : Nat) : Int)) := by
  have e : (fun i : Nat => V.int ((a : Int) + (i : Int))) = fun i : Nat => V.int ((a + i : Nat) : Int) := funext fun i => by rw [Int.natCast_add]
  rw [← e]
  exact walk_range
theorem dot_in (x : S) : (!(!(Builtin.Str.occurrences x (Str.ofString ".") 0 x.length 1).isEmpty)) = noDot x := by
  have h : (Str.ofString "." : S) = ⟨#[46]⟩ := by decide +kernel
  rw [h, PySem.StrLaws.found_one]
  rfl
def kindL : List Str := ["gate", "gate", "reg", "reg", "use"]
theorem kinds3 {z : Str} (h : z ∈ kindL) : z = gS ∨ z = rS ∨ z = uS := by
  unfold kindL at h
  simp only [List.mem_cons, List.not_mem_nil, or_false] at h
  rcases h with h | h | h | h | h
  · exact .inl h
  · exact .inl h
  · exact .inr (.inl h)
  · exact .inr (.inl h)
  · exact .inr (.inr h)
/-- the labels with their kinds, behind the inputs -/
def zipK (T ks : List Str) (j : Nat) : List (Str × Str) := (T.drop j).zip (ks.drop j)
theorem zipK_at {T ks : List Str} {j i : Nat} {t kd : Str} (h1 : T[j + i]? = some t) (h2 : ks[j + i]? = some kd) : (zipK T ks j)[i]? = some (t, kd) := by
  unfold zipK
  rw [List.getElem?_zip_eq_some]
  exact ⟨by rw [List.getElem?_drop]; exact h1, by rw [List.getElem?_drop]; exact h2⟩
theorem zipK_len {T ks : List Str} {j : Nat} (h : ks.length = T.length) : (zipK T ks j).length = T.length - j := by
  unfold zipK
  rw [List.length_zip, List.length_drop, List.length_drop, h, Nat.min_self]
theorem zipK_fst {T ks : List Str} {j : Nat} (h : ks.length = T.length) : (zipK T ks j).map (·.1) = T.drop j := by
  unfold zipK
  exact List.map_fst_zip (by rw [List.length_drop, List.length_drop, h]; exact Nat.le_refl _)
def regsOf (l : List (Str × Str)) : List Str := (l.filter fun q => decide (q.2 = rS)).map (·.1)
def nonsOf (l : List (Str × Str)) : List Str := (l.filter fun q => !decide (q.2 = rS)).map (·.1)
theorem regsOf_snoc (l : List (Str × Str)) (t kd : Str) : regsOf (l ++ [(t, kd)]) = if kd = rS then regsOf l ++ [t] else regsOf l := by
  unfold regsOf
  rw [List.filter_append, List.map_append, List.filter_cons]
  by_cases e : kd = rS
  · rw [if_pos e, if_pos (decide_eq_true e)]; rfl
  · rw [if_neg e, if_neg (by rw [decide_eq_false e]; exact Bool.false_ne_true)]; exact List.append_nil _
theorem nonsOf_snoc (l : List (Str × Str)) (t kd : Str) : nonsOf (l ++ [(t, kd)]) = if kd = rS then nonsOf l else nonsOf l ++ [t] := by
  unfold nonsOf
  rw [List.filter_append, List.map_append, List.filter_cons]
  by_cases e : kd = rS
  · rw [if_pos e, if_neg (by rw [decide_eq_true e]; exact Bool.false_ne_true)]; exact List.append_nil _
  · rw [if_neg e, if_pos (by rw [decide_eq_false e]; rfl)]; rfl
theorem rn_perm : ∀ l : List (Str × Str), (regsOf l ++ nonsOf l).Perm (l.map (·.1))
  | [] => List.Perm.refl _
  | (t, kd) :: r => by
    have ih := rn_perm r
    unfold regsOf nonsOf at ih ⊢
    rw [List.filter_cons, List.filter_cons]
    by_cases e : kd = rS
    · rw [if_pos (decide_eq_true e), if_neg (by show ¬ (!decide (kd = rS)) = true; rw [decide_eq_true e]; exact Bool.false_ne_true)]
      exact ih.cons t
    · rw [if_neg (by show ¬ decide (kd = rS) = true; rw [decide_eq_false e]; exact Bool.false_ne_true), if_pos (by show (!decide (kd = rS)) = true; rw [decide_eq_false e]; rfl)]
      exact (List.perm_middle (a := t)).trans (ih.cons t)
theorem flat10_le {α β : Type} (f : α → List β) (l : List α) (h : ∀ x ∈ l, (f x).length ≤ 10) : (l.flatMap f).length ≤ 10 * l.length := by
  induction l with
  | nil => exact Nat.le_refl _
  | cons x r ih =>
    rw [List.flatMap_cons, List.length_append, List.length_cons]
    have h1 := h x (List.mem_cons_self ..)
    have h2 := ih fun y hy => h y (List.mem_cons_of_mem _ hy)
    omega
theorem outSig_le {ds : List Mod} (D : DOk ds) (i : Item) (h : ItemOk ds i) : (Item.outSig ds i).length ≤ 10 := by
  cases i with
  | gate => exact (by decide : 1 ≤ 10)
  | reg => exact Nat.zero_le _
  | use x md sg =>
    obtain ⟨u, hu, _⟩ := h
    rw [outSig_use hu, List.length_map]
    exact (D.nm u (modAt_some hu).1).sz.outs
theorem rep_reg {H : Hp} {q : Addr} {x sg : S} {fi : Bool} {wh cl : Option S} (h : H q = some (.tup [.str rS, .str x, .int (b2i fi), .str sg, oV wh, oV cl])) : Rep H (Item.d (.reg x fi sg wh cl)) (.ref q) :=
  .tup h (.cons (.str _) (.cons (.str _) (.cons (.int _) (.cons (.str _) (.cons (rep_opt wh) (.cons (rep_opt cl) .nil))))))
theorem _root_.Wi.RepL.drop {H : Hp} : ∀ {ds : List D} {vs : List V} (n : Nat), RepL H ds vs → RepL H (ds.drop n) (vs.drop n)
  | _, _, 0, h => h
  | _, _, _ + 1, .nil => .nil
  | _, _, n + 1, .cons _ r => RepL.drop n r
theorem oD_inj {a b : Option S} (h : oD a = oD b) : a = b := by
  cases a <;> cases b <;> first | rfl | cases h
  rfl
section
variable {P : Program} {w : World} {K : PySem.W.Frag} {mg : Str → Option Value} {base : Heap}
theorem sc_law_slim_module : FnScope ["_law_store_here", "_law_text", "_law_design", "_law_inputs", "_law_texts", "_law_kinds", "_law_label", "_law_ready", "_law_k", "_law_items", "_law_module", "_law_port", "_law_picked", "_law_j", "_law_item", "_law_outputs", "_law_wire"] ["_law_store_here", "_law_text", "_law_design"] (defScope (top 116)) :=
  ⟨rfl, rfl, rfl, by decide +kernel, rfl, by decide +kernel, by decide +kernel⟩
def spSlimM : Sp := fun vs H Q _ => ∃ (a c : Addr) (x : Str) (v : V) (ds : List Mod), vs = [.ref a, .str x, v] ∧ Sto H a c ∧ isName x = true ∧ x ∉ ds.map (·.nm) ∧ Rep H (desD ds) v ∧ DOk ds ∧
  ∀ (m : Mod) v' H', m.nm = x → MOk ds m → MNm m → Kp a H H' → Sto H' a c → Rep H' m.d v' → Q v' H'
theorem cal_law_slim_module (F : Df K mg "_law_slim_module" "_law_slim_module" 116) (B : Bl mg) (C_law_take : Cal P w K mg base CX0 2 "_law_take" ["_law_store_here", "_law_many"] spTake) (C_law_pick : Cal P w K mg base CX0 3 "_law_pick" ["_law_store_here", "_law_row"] spPick)
    (C_law_labels : Cal P w K mg base CX0 4 "_law_labels" ["_law_store_here", "_law_many", "_law_dotted"] spLabels) (C_law_slim_gate : Cal P w K mg base CX0 4 "_law_slim_gate" ["_law_store_here", "_law_text", "_law_ready"] spSlimG) (C_law_some : Cal P w K mg base CX0 3 "_law_some" ["_law_store_here", "_law_row", "_law_count"] spSome) :
    Cal P w K mg base CX0 5 "_law_slim_module" ["_law_store_here", "_law_text", "_law_design"] spSlimM := by
  refine F.cal sc_law_slim_module (fun vs H Q E h => ?_) (fun _ _ _ _ _ _ us hl => match us, hl with | [_, _, _], _ => rfl) (fun f cdv A outer s H vs Q E hr h => ?_)
  · obtain ⟨_, _, _, _, _, rfl, _⟩ := h
    rfl
  · obtain ⟨a, c, x, v, ds, rfl, st, hx, hnew, rv, D, k⟩ := h
    refine ⟨_, (pss_cons (ps_set (i := 3) sc_law_slim_module.nd rfl (Or.inl rfl) (pe_callC C_law_take (hr.mono (by decide)) rfl pass0 (pa_cons (pv 0) (pa_cons pe_int pa_nil))))
      (pss_cons (ps_set (i := 4) sc_law_slim_module.nd rfl (Or.inr rfl) (pe_callC C_law_labels (hr.mono (by decide)) rfl pass0 (pa_cons (pv 0) (pa_cons (pe_op op_add (pe_op op_add (pv 3) pe_int) (pe_callC C_law_take (hr.mono (by decide)) rfl pass0 (pa_cons (pv 0) (pa_cons pe_int pa_nil)))) (pa_cons pe_bl pa_nil)))))
      (pss_cons (ps_set (i := 5) sc_law_slim_module.nd rfl (Or.inr rfl) (pe_lc (own := [("_law_label", 6)]) rfl sc_law_slim_module.nd (pi_list (pv 4)) (blkOk_by (N := ["_law_store_here", "_law_text", "_law_design", "_law_inputs", "_law_texts", "_law_kinds", "_law_label", "_law_ready", "_law_k", "_law_items", "_law_module", "_law_port", "_law_picked", "_law_j", "_law_item", "_law_outputs", "_law_wire"]) (sc := defScope (top 116)) (own := [("_law_label", 6)]) (by decide +kernel)) (fun _ _ _ _ _ => (pg_name (i := 6) sc_law_slim_module.nd rfl (Or.inl rfl))) (fun _ _ _ _ _ => pts_nil) (fun _ _ _ _ _ => (pe_callC C_law_pick (hr.mono (by decide)) rfl pass0 (pa_cons (pv 0) (pa_cons (pe_lst (pa_cons pe_str (pa_cons pe_str (pa_cons pe_str (pa_cons pe_str (pa_cons pe_str pa_nil)))))) pa_nil))))))
      (pss_cons (ps_set (i := 7) sc_law_slim_module.nd rfl (Or.inr rfl) (pe_op op_cat (pe_slice sl_list (pv 4) po_none (po_some (pv 3))) (pe_lc (own := [("_law_k", 8)]) rfl sc_law_slim_module.nd (pi_range2 rfl B.range (pa_cons (pv 3) (pa_cons (pe_callB call_len_seq rfl B.len PySem.boot_len (pa_cons (pv 4) pa_nil)) pa_nil))) (blkOk_by (N := ["_law_store_here", "_law_text", "_law_design", "_law_inputs", "_law_texts", "_law_kinds", "_law_label", "_law_ready", "_law_k", "_law_items", "_law_module", "_law_port", "_law_picked", "_law_j", "_law_item", "_law_outputs", "_law_wire"]) (sc := defScope (top 116)) (own := [("_law_k", 8)]) (by decide +kernel)) (fun _ _ _ _ _ => (pg_name (i := 8) sc_law_slim_module.nd rfl (Or.inl rfl))) (fun _ _ _ _ _ => (pts_one (pt_cmpR op_eq (pe_ix (r := rIxL K) ix_list (pv 5) (pv 8) (fun _ _ => rfl)) pe_str (nomark _)))) (fun _ _ _ _ _ => (pe_ix (r := rIxL K) ix_list (pv 4) (pv 8) (fun _ _ => rfl))))))
      (pss_cons (ps_set (i := 9) sc_law_slim_module.nd rfl (Or.inl rfl) (pe_lst pa_nil))
      (pss_cons (ps_for PassesOwn.never rfl (pi_range2 rfl B.range (pa_cons (pv 3) (pa_cons (pe_callB call_len_seq rfl B.len PySem.boot_len (pa_cons (pv 4) pa_nil)) pa_nil))) (pg_name (i := 8) sc_law_slim_module.nd rfl (Or.inr rfl))
        (pss_one (ps_if (PW.pt (pw_and (pt_cmpR op_eq (pe_ix (r := rIxL K) ix_list (pv 5) (pv 8) (fun _ _ => rfl)) pe_str (nomark _)) (pw_and (pt_cmpR op_gt (pe_callB call_len_seq rfl B.len PySem.boot_len (pa_cons (pv 2) pa_nil)) pe_int (nomark _)) (pw_and1 (pt_cmpR op_gt (pe_callB call_len_seq rfl B.len PySem.boot_len (pa_cons (pv 7) pa_nil)) pe_int (nomark _))))))
          (pss_cons (ps_set (i := 10) sc_law_slim_module.nd rfl (Or.inl rfl) (pe_callC C_law_pick (hr.mono (by decide)) rfl pass0 (pa_cons (pv 0) (pa_cons (pv 2) pa_nil))))
          (pss_cons (ps_expr (pe_bm PySem.F.plainAttrs_list PySem.F.slot_list_append PySem.F.type_list_append mt_append (pv 9) (pa_cons (pe_tup (pa_cons pe_str (pa_cons (pe_ix (r := rIxL K) ix_list (pv 4) (pv 8) (fun _ _ => rfl)) (pa_cons (pe_ix (r := rIxT K) ix_tup (pv 10) pe_int (fun _ _ => rfl)) (pa_cons (pe_callTy call_tuple_of rfl B.tuple (by decide +kernel) (pa_cons (pe_lc (own := [("_law_port", 11)]) rfl sc_law_slim_module.nd (pi_tup (pe_ix (r := rIxT K) ix_tup (pv 10) pe_int (fun _ _ => rfl))) (blkOk_by (N := ["_law_store_here", "_law_text", "_law_design", "_law_inputs", "_law_texts", "_law_kinds", "_law_label", "_law_ready", "_law_k", "_law_items", "_law_module", "_law_port", "_law_picked", "_law_j", "_law_item", "_law_outputs", "_law_wire"]) (sc := defScope (top 116)) (own := [("_law_port", 11)]) (by decide +kernel)) (fun _ _ _ _ _ => (pg_name (i := 11) sc_law_slim_module.nd rfl (Or.inl rfl))) (fun _ _ _ _ _ => pts_nil) (fun _ _ _ _ _ => (pe_callC C_law_pick (hr.mono (by decide)) rfl pass0 (pa_cons (pv 0) (pa_cons (pv 7) pa_nil))))) pa_nil)) pa_nil))))) pa_nil)))
          (pss_one (ps_set (i := 7) sc_law_slim_module.nd rfl (Or.inr rfl) (pe_op op_cat (pv 7) (pe_lc (own := [("_law_port", 11)]) rfl sc_law_slim_module.nd (pi_tup (pe_ix (r := rIxT K) ix_tup (pv 10) pe_int (fun _ _ => rfl))) (blkOk_by (N := ["_law_store_here", "_law_text", "_law_design", "_law_inputs", "_law_texts", "_law_kinds", "_law_label", "_law_ready", "_law_k", "_law_items", "_law_module", "_law_port", "_law_picked", "_law_j", "_law_item", "_law_outputs", "_law_wire"]) (sc := defScope (top 116)) (own := [("_law_port", 11)]) (by decide +kernel)) (fun _ _ _ _ _ => (pg_name (i := 11) sc_law_slim_module.nd rfl (Or.inl rfl))) (fun _ _ _ _ _ => pts_nil) (fun _ _ _ _ _ => (pe_op op_add_str (pe_op op_add_str (pe_ix (r := rIxL K) ix_list (pv 4) (pv 8) (fun _ _ => rfl)) pe_str) (pv 11)))))))))
          (pss_one (ps_if (pt_cmpR op_ne (pe_ix (r := rIxL K) ix_list (pv 5) (pv 8) (fun _ _ => rfl)) pe_str (nomark _))
            (pss_cons (ps_expr (pe_bm PySem.F.plainAttrs_list PySem.F.slot_list_append PySem.F.type_list_append mt_append (pv 9) (pa_cons (pe_op op_catS3 (pe_tup (pa_cons pe_str pa_nil)) (pe_callC C_law_slim_gate (hr.mono (by decide)) rfl pass0 (pa_cons (pv 0) (pa_cons (pe_ix (r := rIxL K) ix_list (pv 4) (pv 8) (fun _ _ => rfl)) (pa_cons (pv 7) pa_nil))))) pa_nil)))
            (pss_one (ps_set (i := 7) sc_law_slim_module.nd rfl (Or.inr rfl) (pe_op op_cat (pv 7) (pe_lst (pa_cons (pe_ix (r := rIxL K) ix_list (pv 4) (pv 8) (fun _ _ => rfl)) pa_nil))))))
            pss_nil)))))
      (pss_cons (ps_for PassesOwn.never rfl (pi_range2 rfl B.range (pa_cons (pv 3) (pa_cons (pe_callB call_len_seq rfl B.len PySem.boot_len (pa_cons (pv 4) pa_nil)) pa_nil))) (pg_name (i := 8) sc_law_slim_module.nd rfl (Or.inr rfl))
        (pss_one (ps_if (pt_cmpR op_eq (pe_ix (r := rIxL K) ix_list (pv 5) (pv 8) (fun _ _ => rfl)) pe_str (nomark _))
          (pss_cons (ps_setLc (i := 12) (own := [("_law_j", 13)]) rfl sc_law_slim_module.nd rfl rfl (sw_true rfl rfl rfl (by decide +kernel)) (pi_range1 rfl B.range (pa_cons pe_int pa_nil)) (blkOk_by (N := ["_law_store_here", "_law_text", "_law_design", "_law_inputs", "_law_texts", "_law_kinds", "_law_label", "_law_ready", "_law_k", "_law_items", "_law_module", "_law_port", "_law_picked", "_law_j", "_law_item", "_law_outputs", "_law_wire"]) (sc := defScope (top 116)) (own := [("_law_j", 13)]) (by decide +kernel)) (fun _ _ _ _ _ => (pg_name (i := 13) sc_law_slim_module.nd rfl (Or.inl rfl))) (fun _ _ _ _ _ => pts_nil) (fun _ _ _ _ _ => (pe_callC C_law_pick (hr.mono (by decide)) rfl pass0 (pa_cons (pv 0) (pa_cons (pe_op op_cat (pv 7) (pe_op op_rep (pe_lst (pa_cons pe_non pa_nil)) (pe_op op_mul (pv 13) (pe_callB (call_lenK (K := K) rfl) rfl B.len PySem.boot_len (pa_cons (pv 7) pa_nil))))) pa_nil)))))
          (pss_cons (ps_set (i := 14) sc_law_slim_module.nd rfl (Or.inl rfl) (pe_tup (pa_cons pe_str (pa_cons (pe_ix (r := rIxL K) ix_list (pv 4) (pv 8) (fun _ _ => rfl)) (pa_cons (pe_callC C_law_take (hr.mono (by decide)) rfl pass0 (pa_cons (pv 0) (pa_cons pe_int pa_nil))) (pa_cons (pe_ix (r := rIxL K) ix_list (pv 12) pe_int (fun _ _ => rfl)) (pa_cons (pe_ix (r := rIxL K) ix_list (pv 12) pe_int (fun _ _ => rfl)) (pa_cons (pe_ix (r := rIxL K) ix_list (pv 12) pe_int (fun _ _ => rfl)) pa_nil))))))))
          (pss_one (ps_expr (pe_bm PySem.F.plainAttrs_list PySem.F.slot_list_insert PySem.F.type_list_insert mt_insert (pv 9) (pa_cons (pe_callC C_law_take (hr.mono (by decide)) rfl pass0 (pa_cons (pv 0) (pa_cons (pe_op op_add (pe_callB call_len_seq rfl B.len PySem.boot_len (pa_cons (pv 9) pa_nil)) pe_int) pa_nil))) (pa_cons (pv 14) pa_nil)))))))
          pss_nil)))
      (pss_cons (ps_set (i := 15) sc_law_slim_module.nd rfl (Or.inl rfl) (pe_callC C_law_some (hr.mono (by decide)) rfl pass0 (pa_cons (pv 0) (pa_cons (pe_lc (own := [("_law_wire", 16)]) rfl sc_law_slim_module.nd (pi_list (pv 7)) (blkOk_by (N := ["_law_store_here", "_law_text", "_law_design", "_law_inputs", "_law_texts", "_law_kinds", "_law_label", "_law_ready", "_law_k", "_law_items", "_law_module", "_law_port", "_law_picked", "_law_j", "_law_item", "_law_outputs", "_law_wire"]) (sc := defScope (top 116)) (own := [("_law_wire", 16)]) (by decide +kernel)) (fun _ _ _ _ _ => (pg_name (i := 16) sc_law_slim_module.nd rfl (Or.inl rfl))) (fun _ _ _ _ _ => (pts_one (pt_cmpR op_notIn_str pe_str (pv 16) (by rfl)))) (fun _ _ _ _ _ => (pv 16))) (pa_cons (pe_callC C_law_take (hr.mono (by decide)) rfl pass0 (pa_cons (pv 0) (pa_cons pe_int pa_nil))) pa_nil)))))
      (pss_one (ps_ret (pe_tup (pa_cons (pv 1) (pa_cons (pe_callTy call_tuple_of rfl B.tuple (by decide +kernel) (pa_cons (pe_slice sl_list (pv 4) po_none (po_some (pv 3))) pa_nil)) (pa_cons (pe_callTy call_tuple_of rfl B.tuple (by decide +kernel) (pa_cons (pv 15) pa_nil)) (pa_cons (pe_callTy call_tuple_of rfl B.tuple (by decide +kernel) (pa_cons (pv 9) pa_nil)) pa_nil))))))))))))))), ?_⟩
    obtain ⟨p, usd, rfl, hp, rud⟩ := rv.eTup
    have lud := rud.len
    rw [List.length_map] at lud
    have hdz := D.sz
    refine ⟨_, rfl, a, c, 3, rfl, st, by decide, fun j0 H1 hj0 e1 s1 => ?_⟩
    have hj02 : j0 ≤ 2 := by omega
    refine ⟨_, rfl, _, rfl, _, _, rfl, rfl, _, rfl, a, c, 5, rfl, s1, by decide, fun j1 H2 hj1 e2 s2 => ?_⟩
    have hj14 : j1 ≤ 4 := by omega
    refine ⟨_, _, rfl, rfl, a, c, j0 + 1 + j1, rfl, s2, by omega, fun T TL H3 hTl hTn hTd e3 s3 hTL0 hTL => ?_⟩
    have e03 := (e1.trans e2).trans e3
    -- the kinds
    refine ⟨_, rfl, TL, rfl, ⟨_, SqL.of hTL⟩, fun KL hKL => ?_⟩
    have hTLa : TL ≠ a := s2.ne hTL0
    refine lc_draw (walk_list (xs := T.map V.str)) (fun _ d => ∃ z ∈ kindL, d = .str z) (by rw [List.length_map]; omega) hKL s3 (fun H' e => SqL.of (e _ _ hTL hTLa)) ?_ ?_
    · rintro i y _ H' Q' hi e s ⟨rfl, hy⟩ kk
      refine ⟨rfl, _, rfl, sz5 (by simp), fun q hq => ?_⟩
      have eq := Same.new hq (o := .lst [.str "gate", .str "gate", .str "reg", .str "reg", .str "use"])
      refine ⟨a, c, q, kindL.map V.str, rfl, s.same eq, .inl upd_same, s.ne hq, by decide, by decide, fun j y2 H'' hj e' s' => ?_⟩
      rw [List.getElem?_map] at hj
      obtain ⟨z, hz, rfl⟩ := Option.map_eq_some_iff.mp hj
      exact kk _ _ _ (eq.kp.trans e') s' ⟨z, List.mem_of_getElem? hz, rfl⟩ (.str z)
    intro H4 dks wks e4 s4 hkl hkp hKL4 rks
    obtain ⟨ks, rfl, hks⟩ := drawn_strs hkp
    obtain rfl := rks.strs
    rw [List.length_map, List.length_map] at hkl
    have hKL3 : H3 KL = none := hKL
    have hKLa : KL ≠ a := s3.ne hKL
    have hTL4 := e4 _ _ hTL hTLa
    -- what is ready at first
    refine ⟨_, rfl, _, rfl, _, rfl, TL, _, rfl, SqL.of hTL4, fun l1 hl1 => ?_⟩
    rw [cut_take (by rw [List.length_map]; omega), ← List.map_take]
    have e5 := Same.new hl1 (o := .lst ((T.take j0).map V.str))
    have hTL5 := e5 _ _ hTL4
    have hKL5 := e5 _ _ hKL4
    have hl15 : (upd H4 l1 (.lst ((T.take j0).map V.str))) l1 = some (.lst ((T.take j0).map V.str)) := upd_same
    have s5 := s4.same e5
    generalize upd H4 l1 (.lst ((T.take j0).map V.str)) = H5 at e5 hTL5 hKL5 hl15 s5 ⊢
    have hn : ((T.map V.str).length : Int) - (j0 : Int) = ((T.length - j0 : Nat) : Int) := by rw [List.length_map]; omega
    have hrng : -(2 ^ 62) ≤ (j0 : Int) ∧ (j0 : Int) < 2 ^ 62 ∧ -(2 ^ 62) ≤ ((T.map V.str).length : Int) ∧ ((T.map V.str).length : Int) < 2 ^ 62 := by rw [List.length_map]; omega
    have tk : ∀ i, i < T.length - j0 → ∃ t kd, T[j0 + i]? = some t ∧ ks[j0 + i]? = some kd ∧ (zipK T ks j0)[i]? = some (t, kd) ∧ isName t = true ∧ (kd = gS ∨ kd = rS ∨ kd = uS) := fun i hi => by
      have h1 : T[j0 + i]? = some T[j0 + i] := List.getElem?_eq_getElem (by omega)
      have h2 : ks[j0 + i]? = some ks[j0 + i] := List.getElem?_eq_getElem (by omega)
      exact ⟨_, _, h1, h2, zipK_at h1 h2, hTn _ (List.getElem_mem _), kinds3 (hks _ (List.getElem_mem _))⟩
    have zl : (zipK T ks j0).length = T.length - j0 := zipK_len (by omega)
    refine ⟨_, rfl, _, rfl, TL, _, rfl, .inl (SqL.of hTL5), _, _, rfl, hrng, ?_⟩
    rw [hn, Int.toNat_natCast]
    intro M2 hL2
    refine lc_it (walk_rN (a := j0) (n := T.length - j0)) (tt := fun σ H Q => tTest (tOp rEq (tOp (rIxL K) (tVar 5) (tVar 8)) (tC (.str "reg"))) σ H Q) (fun i H' => Same H5 H' ∧ H' M2 = some (.lst ((regsOf ((zipK T ks j0).take i)).map V.str))) ⟨(Same.refl _).mut hL2, upd_same⟩ (fun _ _ _ _ => True.intro) ?_ ?_
    · rintro i y _ H' hi ⟨e, hL⟩ ⟨rfl, rfl⟩
      obtain ⟨t, kd, h1, h2, h3, h4, h5⟩ := tk i hi
      refine ⟨rfl, _, rfl, _, rfl, KL, _, _, _, rfl, rfl, SqL.of (e _ _ hKL5), atI_nat (j := j0 + i) (by rw [List.getElem?_map, h2]; rfl), rfl, _, rfl, ?_⟩
      rw [take_succ h3, regsOf_snoc, eq_str]
      by_cases hk : kd = rS
      · rw [decide_eq_true (show kd = Str.ofString "reg" from hk), if_pos hk]
        refine iteT ⟨_, rfl, _, rfl, TL, _, _, _, rfl, rfl, SqL.of (e _ _ hTL5), atI_nat (j := j0 + i) (by rw [List.getElem?_map, h1]; rfl), _, hL, sz5' ?_, e.mut hL2, by rw [upd_same, List.map_append]; rfl⟩
        rw [List.length_map]
        have : (regsOf ((zipK T ks j0).take i)).length ≤ T.length := by
          unfold regsOf
          rw [List.length_map]
          refine Nat.le_trans (List.length_filter_le ..) ?_
          rw [List.length_take, zl]
          omega
        omega
      · rw [decide_eq_false (show ¬ kd = Str.ofString "reg" from hk), if_neg hk]
        exact iteF ⟨e, hL⟩
    rintro H6 ⟨e6, hL26⟩
    have hL20 := hL2
    rw [show T.length - j0 = (zipK T ks j0).length from zl.symm, List.take_length] at hL26
    have hregz : (regsOf (zipK T ks j0)).length ≤ T.length := by
      unfold regsOf
      rw [List.length_map]
      refine Nat.le_trans (List.length_filter_le ..) ?_
      omega
    refine ⟨l1, M2, _, _, rfl, rfl, e6 _ _ hl15, hL26, sz5 (by rw [List.length_map, List.length_map, List.length_take]; omega), fun R0 hR0 => ?_⟩
    rw [← List.map_append]
    have e7 := Same.new hR0 (o := .lst ((T.take j0 ++ regsOf (zipK T ks j0)).map V.str))
    have hTL7 := (e6.trans e7) _ _ hTL5
    have hKL7 := (e6.trans e7) _ _ hKL5
    have hR07 : (upd H6 R0 (.lst ((T.take j0 ++ regsOf (zipK T ks j0)).map V.str))) R0 = some (.lst ((T.take j0 ++ regsOf (zipK T ks j0)).map V.str)) := upd_same
    have s7 := s5.same (e6.trans e7)
    have e07 : Kp a H (upd H6 R0 (.lst ((T.take j0 ++ regsOf (zipK T ks j0)).map V.str))) := (e03.trans e4).trans ((e5.trans (e6.trans e7)).kp)
    have hR0a : R0 ≠ a := (s5.same e6).ne hR0
    generalize upd H6 R0 (.lst ((T.take j0 ++ regsOf (zipK T ks j0)).map V.str)) = H7 at hTL7 hKL7 hR07 s7 e07 ⊢
    -- the items
    refine ⟨sz5 (by simp), fun I hI => ?_⟩
    have hIa : I ≠ a := s7.ne hI
    have hITL : TL ≠ I := fun z => by rw [← z, hTL7] at hI; cases hI
    have e8 := Same.new hI (o := .lst [])
    have hI8 : (upd H7 I (.lst [])) I = some (.lst []) := upd_same
    have hR08 := e8 _ _ hR07
    have s8 := s7.same e8
    have k8 : Kp a H7 (upd H7 I (.lst [])) := e8.kp
    generalize upd H7 I (.lst []) = H8 at e8 hI8 hR08 s8 k8 ⊢
    have hTLk : ∀ {H'}, Kp a H7 H' → H' TL = some (.lst (T.map V.str)) := fun e => e _ _ hTL7 hTLa
    have hKLk : ∀ {H'}, Kp a H7 H' → H' KL = some (.lst (ks.map V.str)) := fun e => e _ _ hKL7 hKLa
    have txk : ∀ {H'}, Kp a H7 H' → Tx H H' := fun e => st.tx (e07.trans e)
    have hpa : ∀ {b : Addr} {xs : List V} {H'}, Sto H' a c → H' b = some (.tup xs) → b ≠ a := fun s h z => by obtain ⟨l, hl⟩ := s.lst; rw [z, hl] at h; cases h
    refine ⟨_, rfl, _, rfl, TL, _, rfl, .inl (SqL.of (hTLk k8)), _, _, rfl, hrng, ?_⟩
    rw [hn, Int.toNat_natCast]
    refine for_it (walk_rN (a := j0) (n := T.length - j0)) (fun i σ H' => Kp a H7 H' ∧ Sto H' a c ∧ (∃ (its : List Item) (us : List V) (R : Addr), H' I = some (.lst us) ∧ RepL H' (its.map Item.d) us ∧ R ≠ a ∧ R ≠ I ∧ H' R = some (.lst ((T.take j0 ++ regsOf (zipK T ks j0) ++ its.flatMap (Item.outSig ds)).map V.str)) ∧
        SlimI ds (T.take j0) (regsOf (zipK T ks j0)) its ∧ its.map (·.nm) = nonsOf ((zipK T ks j0).take i) ∧ its.length ≤ i ∧
        ∃ o6 o8 o10 o11, σ = [some (.ref a), some (.str x), some (.ref p), some (.int (j0 : Int)), some (.ref TL), some (.ref KL), o6, some (.ref R), o8, some (.ref I), o10, o11, none, none, none, none, none]))
      ⟨k8, s8, [], [], R0, hI8, .nil, hR0a, (fun z => by rw [z, hI] at hR07; cases hR07), by rw [List.flatMap_nil, List.append_nil]; exact hR08, SlimI.nil, rfl, Nat.zero_le _, _, _, _, _, rfl⟩ (fun _ _ _ _ _ => True.intro) ?_ ?_
    · rintro i y σ _ H9 hi ⟨k9, s9, its, us, R, hI9, rus, hRa, hRI, hR9, hS, hnm, hil, o6, o8, o10, o11, rfl⟩ ⟨rfl, rfl⟩
      obtain ⟨t, kd, h1, h2, h3, h4, h5⟩ := tk i hi
      have lus := rus.len
      rw [List.length_map] at lus
      have lfl := flat10_le (Item.outSig ds) its fun q hq => outSig_le D q (hS.ok q hq)
      have lrd : (T.take j0 ++ regsOf (zipK T ks j0) ++ its.flatMap (Item.outSig ds)).length ≤ 500 := by
        rw [List.length_append, List.length_append, List.length_take]
        omega
      have ht8 := name_len h4
      have atT : ∀ {H'}, Kp a H7 H' → SqL K H' TL (T.map V.str) := fun e => SqL.of (hTLk e)
      have htx : (T.map V.str)[j0 + i]? = some (.str t) := by rw [List.getElem?_map, h1]; rfl
      have hkx : (ks.map V.str)[j0 + i]? = some (.str kd) := by rw [List.getElem?_map, h2]; rfl
      rw [take_succ h3, nonsOf_snoc]
      have nxt : ∀ (H' : Hp) (it : Item) (R' : Addr) (u : V) (o10' : Option V), it.isReg = false → ItemOk ds it → it.nm = t → (∀ s ∈ it.sgs, s ∈ T.take j0 ++ regsOf (zipK T ks j0) ++ its.flatMap (Item.outSig ds)) → ¬ kd = rS → Kp a H7 H' → Sto H' a c → H' I = some (.lst (us ++ [u])) → RepL H' (its.map Item.d) us → Rep H' it.d u → R' ≠ a → R' ≠ I →
          H' R' = some (.lst ((T.take j0 ++ regsOf (zipK T ks j0) ++ its.flatMap (Item.outSig ds)).map V.str ++ (Item.outSig ds it).map V.str)) → Kp a H7 H' ∧ Sto H' a c ∧ (∃ (its : List Item) (us : List V) (R : Addr), H' I = some (.lst us) ∧ RepL H' (its.map Item.d) us ∧ R ≠ a ∧ R ≠ I ∧ H' R = some (.lst ((T.take j0 ++ regsOf (zipK T ks j0) ++ its.flatMap (Item.outSig ds)).map V.str)) ∧
            SlimI ds (T.take j0) (regsOf (zipK T ks j0)) its ∧ its.map (·.nm) = (if kd = rS then nonsOf ((zipK T ks j0).take i) else nonsOf ((zipK T ks j0).take i) ++ [t]) ∧ its.length ≤ i + 1 ∧
            ∃ p6 p8 p10 p11, ([some (.ref a), some (.str x), some (.ref p), some (.int (j0 : Int)), some (.ref TL), some (.ref KL), o6, some (.ref R'), some (.int ((j0 + i : Nat) : Int)), some (.ref I), o10', o11, none, none, none, none, none] : L2.St) = [some (.ref a), some (.str x), some (.ref p), some (.int (j0 : Int)), some (.ref TL), some (.ref KL), p6, some (.ref R), p8, some (.ref I), p10, p11, none, none, none, none, none]) := by
        intro H' it R' u o10' hir hok hnmi hsg hkd kk ss hI' ru' rit hRa' hRI' hR'
        refine ⟨kk, ss, its ++ [it], us ++ [u], R', hI', by rw [List.map_append]; exact ru'.snoc rit, hRa', hRI', ?_, hS.snoc hir hok hsg, ?_, by rw [List.length_append, List.length_singleton]; omega, _, _, _, _, rfl⟩
        · rw [hR', ← List.map_append, List.flatMap_append, List.append_assoc (T.take j0 ++ regsOf (zipK T ks j0))]
          simp
        · rw [List.map_append, hnm, if_neg hkd, ← hnmi]; rfl
      refine ⟨_, rfl, _, rfl, KL, _, _, _, rfl, rfl, SqL.of (hKLk k9), atI_nat (j := j0 + i) hkx, rfl, _, rfl, ?_⟩
      rw [eq_str]
      -- a gate
      have gate : kd = gS ∨ kd = uS → tIfS (tTest (tOp rNe (tOp (rIxL K) (tVar 5) (tVar 8)) (tC (.str "reg"))))
          (tSeq (tDrop (tBM K "list" rAppend (tVar 9) (tCons (tOp (rCatS3 K) (tTup (tCons (tC (.str "gate")) tNil)) (tCall spSlimG [] E0 (tCons (tVar 0) (tCons (tOp (rIxL K) (tVar 4) (tVar 8)) (tCons (tVar 7) tNil))))) tNil)))
            (tAsg (tOp rCat (tVar 7) (tLst (tCons (tOp (rIxL K) (tVar 4) (tVar 8)) tNil))) (gName 7))) tNext { nx := fun σ' H' => Kp a H7 H' ∧ Sto H' a c ∧ (∃ (its : List Item) (us : List V) (R : Addr), H' I = some (.lst us) ∧ RepL H' (its.map Item.d) us ∧ R ≠ a ∧ R ≠ I ∧ H' R = some (.lst ((T.take j0 ++ regsOf (zipK T ks j0) ++ its.flatMap (Item.outSig ds)).map V.str)) ∧
            SlimI ds (T.take j0) (regsOf (zipK T ks j0)) its ∧ its.map (·.nm) = (if kd = rS then nonsOf ((zipK T ks j0).take i) else nonsOf ((zipK T ks j0).take i) ++ [t]) ∧ its.length ≤ i + 1 ∧
            ∃ p6 p8 p10 p11, σ' = [some (.ref a), some (.str x), some (.ref p), some (.int (j0 : Int)), some (.ref TL), some (.ref KL), p6, some (.ref R), p8, some (.ref I), p10, p11, none, none, none, none, none]), rt := Q } [some (.ref a), some (.str x), some (.ref p), some (.int (j0 : Int)), some (.ref TL), some (.ref KL), o6, some (.ref R), some (.int ((j0 + i : Nat) : Int)), some (.ref I), o10, o11, none, none, none, none, none] H9 := by
        intro hkd
        have hkr : ¬ kd = rS := fun z => by rcases hkd with q | q <;> rw [z] at q <;> revert q <;> decide +kernel
        refine ⟨_, rfl, _, rfl, KL, _, _, _, rfl, rfl, SqL.of (hKLk k9), atI_nat (j := j0 + i) hkx, rfl, _, rfl, ?_⟩
        rw [eq_str, decide_eq_false (show ¬ kd = Str.ofString "reg" from hkr)]
        refine ifT rfl ⟨_, rfl, .inl ⟨rfl, _, SqL.of hI9⟩, sz5 (by simp), fun g1 hg1 => ?_⟩
        have eg := Same.new hg1 (o := .tup [V.str "gate"])
        have sg := s9.same eg
        refine ⟨_, rfl, _, rfl, _, rfl, TL, _, _, _, rfl, rfl, atT (k9.trans eg.kp), atI_nat (j := j0 + i) htx, _, rfl, a, c, R, t, _, rfl, sg, eg _ _ hR9, hRa, by omega, fun g vg H10 hgw hgl hgs e10 s10 rg => ?_⟩
        obtain ⟨gp, gu, rfl, hgp, rgu⟩ := rg.eTup
        have lgu := rgu.len
        have hg1a : g1 ≠ a := s9.ne hg1
        have hg1' := e10 _ _ (upd_same (H := H9) (a := g1) (o := .tup [V.str "gate"])) hg1a
        refine ⟨g1, gp, _, _, rfl, rfl, hg1', hgp, sz5 (by rw [← lgu]; show 1 + 3 ≤ 100000; decide), fun cc H11 e11 hcc => ?_⟩
        have k911 : Kp a H9 H11 := (eg.kp.trans e10).trans e11.kp
        have hI11 := k911 _ _ hI9 hIa
        have hR11 := k911 _ _ hR9 hRa
        have s11 := s10.same e11
        refine ⟨I, us, .ref cc, rfl, rfl, hI11, sz5' (by omega), ?_⟩
        have k12 : Kp a H7 (upd H11 I (.lst (us ++ [.ref cc]))) := (k9.trans k911).fresh hI
        have hR12 : (upd H11 I (.lst (us ++ [.ref cc]))) R = some (.lst ((T.take j0 ++ regsOf (zipK T ks j0) ++ its.flatMap (Item.outSig ds)).map V.str)) := (upd_ne hRI).trans hR11
        have s12 : Sto (upd H11 I (.lst (us ++ [.ref cc]))) a c := s11.fresh s7 hI
        have tx9 : Tx H9 H11 := s9.tx k911
        have tx12 : Tx H11 (upd H11 I (.lst (us ++ [.ref cc]))) := (Tx.refl H11).mut hI11 fun _ z => nomatch z
        have rit : Rep (upd H11 I (.lst (us ++ [.ref cc]))) (Item.d (.gate t g.op g.args)) (.ref cc) := by
          refine .tup (tx12 _ _ hcc) ?_
          rw [← hgw]
          exact .cons (.str _) ((rgu.ex e11).tx tx12)
        refine ⟨_, rfl, _, rfl, _, rfl, TL, _, _, _, rfl, rfl, atT k12, atI_nat (j := j0 + i) htx, sz5 (by simp), fun L3 hL3 => ?_⟩
        have e13 := Same.new hL3 (o := .lst [.str t])
        refine ⟨R, L3, _, _, rfl, rfl, e13 _ _ hR12, upd_same, sz5 (by rw [List.length_map]; show _ + 1 ≤ 100000; omega), fun R2 hR2 => ?_⟩
        have e14 := Same.new hR2 (o := .lst ((T.take j0 ++ regsOf (zipK T ks j0) ++ its.flatMap (Item.outSig ds)).map V.str ++ [.str t]))
        have e24 := e13.trans e14
        refine nxt _ (.gate t g.op g.args) R2 (.ref cc) _ rfl hgl rfl hgs hkr (k12.trans e24.kp) (s12.same e24) (e24 _ _ upd_same) (((rus.tx tx9).tx tx12).ex e24) (rit.ex e24) ((s12.same e13).ne hR2) (fun z => by rw [z, e13 _ _ upd_same] at hR2; cases hR2) ?_
        rw [upd_same]; rfl
      rcases h5 with h5 | h5 | h5
      · -- gate
        refine ifF (decide_eq_false fun z => by rw [h5] at z; revert z; decide +kernel) (iteF (gate (.inl h5)))
      · -- register
        refine ifF (decide_eq_false fun z => by rw [h5] at z; revert z; decide +kernel) (iteF ?_)
        refine ⟨_, rfl, _, rfl, KL, _, _, _, rfl, rfl, SqL.of (hKLk k9), atI_nat (j := j0 + i) hkx, rfl, _, rfl, ?_⟩
        rw [eq_str, decide_eq_true (show kd = Str.ofString "reg" from h5)]
        refine ifF rfl ⟨k9, s9, its, us, R, hI9, rus, hRa, hRI, hR9, hS, by rw [if_pos h5]; exact hnm, by omega, _, _, _, _, rfl⟩
      · -- use
        have hkr : ¬ kd = rS := fun z => by rw [h5] at z; revert z; decide +kernel
        have hp9 := txk k9 _ _ hp
        refine ifT (decide_eq_true h5) ⟨_, rfl, p, _, rfl, .inr (SqT.of hp9), _, _, rfl, rfl, _, rfl, if2 (fun hd0 => ?_) (fun hd0 => iteF (gate (.inr h5)))⟩
        refine ⟨_, rfl, R, _, rfl, .inl (SqL.of hR9), _, _, rfl, rfl, _, rfl, if2 (fun hr0 => ?_) (fun hr0 => gate (.inr h5))⟩
        have hd1 : 0 < usd.length := by have := of_decide_eq_true hd0; omega
        have hr1 : 0 < (T.take j0 ++ regsOf (zipK T ks j0) ++ its.flatMap (Item.outSig ds)).length := by
          have := of_decide_eq_true hr0
          rw [List.length_map] at this
          omega
        refine ⟨_, rfl, _, rfl, a, c, p, usd, rfl, s9, .inr hp9, hpa s9 hp9, hd1, by omega, fun j xv H10 hj e10 s10 => ?_⟩
        obtain ⟨u, hu, ru0⟩ := rud.at hj
        have k710 := k9.trans e10
        obtain ⟨pm, q1, q2, q3, uus, rfl, hpm, hq1, hq2, hq3, rui, lui⟩ := (ru0.tx (txk k710)).modT
        have hum := List.mem_of_getElem? hu
        have zu := (D.nm u hum).sz
        have hI10 := e10 _ _ hI9 hIa
        have hR10 := e10 _ _ hR9 hRa
        refine ⟨_, rfl, .inl ⟨rfl, _, SqL.of hI10⟩, _, rfl, _, rfl, TL, _, _, _, rfl, rfl, atT k710, atI_nat (j := j0 + i) htx, _, rfl, pm, _, _, _, rfl, rfl, SqT.of hpm, rfl, _, rfl, pm, _, _, _, rfl, rfl, SqT.of hpm, atI_nat (j := 1) rfl, q1, rfl, ⟨_, SqT.of hq1⟩, fun L hL => ?_⟩
        have hin := zu.ins
        refine lc_draw (walk_tup (xs := u.ins.map V.str)) (fun _ d => ∃ z ∈ T.take j0 ++ regsOf (zipK T ks j0) ++ its.flatMap (Item.outSig ds), d = .str z) (by rw [List.length_map]; omega) hL s10 (fun H' e => SqT.of (e _ _ hq1 (hpa s10 hq1))) ?_ ?_
        · rintro i2 y2 _ H' Q' hi2 e s ⟨rfl, hy2⟩ kk
          refine ⟨rfl, _, rfl, _, rfl, a, c, R, _, rfl, s, .inl (e _ _ hR10 hRa), hRa, by rw [List.length_map]; exact hr1, by rw [List.length_map]; omega, fun j2 y3 H'' hj2 e' s' => ?_⟩
          rw [List.getElem?_map] at hj2
          obtain ⟨z, hz, rfl⟩ := Option.map_eq_some_iff.mp hj2
          exact kk _ _ _ e' s' ⟨z, List.mem_of_getElem? hz, rfl⟩ (.str z)
        intro H11 dss wss e11 s11 hsl hsp hL11 rss
        obtain ⟨sg, rfl, hsg⟩ := drawn_strs hsp
        obtain rfl := rss.strs
        rw [List.length_map, List.length_map] at hsl
        refine ⟨L, _, rfl, .inl ⟨SqL.of hL11, fun t1 ht1 => ⟨sz5 (by simp), fun t2 ht2 => ?_⟩⟩⟩
        have e12 := Same.new ht1 (o := .tup (sg.map V.str))
        have e13 := Same.new ht2 (o := .tup [.str uS, .str t, .str u.nm, .ref t1])
        have k913 : Kp a H9 _ := (e10.trans e11).trans (e12.trans e13).kp
        have hI13 := k913 _ _ hI9 hIa
        have hR13 := k913 _ _ hR9 hRa
        have s13 := s11.same (e12.trans e13)
        refine ⟨I, us, .ref t2, rfl, rfl, hI13, sz5' (by omega), ?_⟩
        have rit0 : Rep (upd (upd H11 t1 (.tup (sg.map V.str))) t2 (.tup [.str uS, .str t, .str u.nm, .ref t1])) (Item.d (.use t u.nm sg)) (.ref t2) :=
          .tup upd_same (.cons (.str _) (.cons (.str _) (.cons (.str _) (.cons (Rep.ofStrs (e13 _ _ upd_same)) .nil))))
        generalize upd (upd H11 t1 (.tup (sg.map V.str))) t2 (.tup [.str uS, .str t, .str u.nm, .ref t1]) = H13 at k913 hI13 hR13 s13 rit0 ⊢
        have k14 : Kp a H7 (upd H13 I (.lst (us ++ [.ref t2]))) := (k9.trans k913).fresh hI
        have hR14 : (upd H13 I (.lst (us ++ [.ref t2]))) R = some (.lst ((T.take j0 ++ regsOf (zipK T ks j0) ++ its.flatMap (Item.outSig ds)).map V.str)) := (upd_ne hRI).trans hR13
        have s14 : Sto (upd H13 I (.lst (us ++ [.ref t2]))) a c := s13.fresh s7 hI
        have tx9 : Tx H9 H13 := s9.tx k913
        have tx14 : Tx H13 (upd H13 I (.lst (us ++ [.ref t2]))) := (Tx.refl H13).mut hI13 fun _ z => nomatch z
        have hI14 : (upd H13 I (.lst (us ++ [.ref t2]))) I = some (.lst (us ++ [.ref t2])) := upd_same
        have rit := rit0.tx tx14
        have rus14 := (rus.tx tx9).tx tx14
        generalize upd H13 I (.lst (us ++ [.ref t2])) = H14 at k14 hR14 s14 hI14 rit rus14 ⊢
        have tm : Tx H H14 := txk k14
        obtain ⟨pm', q1', q2', q3', uus', e', hpm', hq1', hq2', hq3', rui', lui'⟩ := (ru0.tx tm).modT
        cases e'
        refine ⟨_, rfl, _, rfl, pm, _, _, _, rfl, rfl, SqT.of hpm', atI_nat (j := 2) rfl, q2', rfl, ⟨_, SqT.of hq2'⟩, fun M2 hL2 => ?_⟩
        have hout := zu.outs
        refine lc_data (walk_tup (xs := u.outs.map V.str)) ((u.outs.map fun o => t ++ dotS ++ o).map Wi.D.str) (by rw [List.length_map, List.length_map, List.length_map]) (by rw [List.length_map]; omega) hL2 (fun H' e => SqT.of (e _ _ hq2')) ?_ ?_
        · rintro i2 y2 dd _ H' Q' hi2 e ⟨rfl, hy2⟩ hdd qk
          obtain ⟨o, ho, rfl⟩ := strs_get hy2
          rw [List.getElem?_map, List.getElem?_map, ho] at hdd
          cases hdd
          have lo := (D.nm u hum).out o (List.mem_of_getElem? ho)
          have ldx : (t ++ dotS).length = t.length + 1 := by rw [len_app, len_dot]
          exact ⟨rfl, _, rfl, _, rfl, TL, _, _, _, rfl, rfl, atT (k14.trans e.kp), atI_nat (j := j0 + i) htx, _, _, rfl, rfl, sz5 (by show t.length + 1 ≤ 100000; omega), _, rfl, _, _, rfl, rfl, sz5 (by show (t ++ dotS).length + o.length ≤ 100000; omega), qk _ _ (Same.refl _) (.str _)⟩
        intro H15 ws15 e15 hL15 rws15
        obtain rfl := rws15.strs
        refine ⟨R, M2, _, _, rfl, rfl, e15 _ _ hR14, hL15, sz5 (by simp only [List.length_map] at lrd ⊢; omega), fun R2 hR2 => ?_⟩
        have e16 := Same.new hR2 (o := .lst ((T.take j0 ++ regsOf (zipK T ks j0) ++ its.flatMap (Item.outSig ds)).map V.str ++ (u.outs.map fun o => t ++ dotS ++ o).map V.str))
        have e46 := e15.trans e16
        obtain ⟨ju, hju⟩ := List.mem_iff_getElem?.mp hum
        have hmu : modAt ds u.nm = some u := modAt_nm D.ok hju
        refine nxt _ (.use t u.nm sg) R2 (.ref t2) _ rfl ⟨u, hmu, hsl⟩ rfl hsg hkr (k14.trans e46.kp) (s14.same e46) (e46 _ _ hI14) (rus14.ex e46) (rit.ex e46) ((s14.same e15).ne hR2) (fun z => by rw [z, e15 _ _ hI14] at hR2; cases hR2) ?_
        rw [upd_same, outSig_use hmu]
    rintro σ H9 ⟨k9, s9, its, us, R, hI9, rus, hRa, hRI, hR9, hS, hnm, hil, o6, o8, o10, o11, rfl⟩
    rw [show T.length - j0 = (zipK T ks j0).length from zl.symm, List.take_length] at hnm
    have lfl := flat10_le (Item.outSig ds) its fun q hq => outSig_le D q (hS.ok q hq)
    have lrd : (T.take j0 ++ regsOf (zipK T ks j0) ++ its.flatMap (Item.outSig ds)).length ≤ 500 := by
      rw [List.length_append, List.length_append, List.length_take]
      omega
    generalize hrd : T.take j0 ++ regsOf (zipK T ks j0) ++ its.flatMap (Item.outSig ds) = rd at hR9 lrd
    -- the registers
    refine ⟨_, rfl, _, rfl, TL, _, rfl, .inl (SqL.of (hTLk k9)), _, _, rfl, hrng, ?_⟩
    rw [hn, Int.toNat_natCast]
    refine for_it (walk_rN (a := j0) (n := T.length - j0)) (fun i σ H' => Kp a H7 H' ∧ Sto H' a c ∧ H' R = some (.lst (rd.map V.str)) ∧ (∃ (all : List Item) (us : List V), H' I = some (.lst us) ∧ RepL H' (all.map Item.d) us ∧ SlimR rd its all (regsOf ((zipK T ks j0).take i)) ∧ all.length ≤ T.length - j0 + i ∧
        ∃ o6 o8 o10 o11 o12 o14, σ = [some (.ref a), some (.str x), some (.ref p), some (.int (j0 : Int)), some (.ref TL), some (.ref KL), o6, some (.ref R), o8, some (.ref I), o10, o11, o12, none, o14, none, none]))
      ⟨k9, s9, hR9, its, us, hI9, rus, SlimR.start hS.nr, by omega, _, _, _, _, _, _, rfl⟩ (fun _ _ _ _ _ => True.intro) ?_ ?_
    · rintro i y σ _ H10 hi ⟨k10, s10, hR10, all, us, hI10, rus10, hS2, hal, o6, o8, o10, o11, o12, o14, rfl⟩ ⟨rfl, rfl⟩
      obtain ⟨t, kd, h1, h2, h3, h4, h5⟩ := tk i hi
      have lus := rus10.len
      rw [List.length_map] at lus
      have htx : (T.map V.str)[j0 + i]? = some (.str t) := by rw [List.getElem?_map, h1]; rfl
      have hkx : (ks.map V.str)[j0 + i]? = some (.str kd) := by rw [List.getElem?_map, h2]; rfl
      rw [take_succ h3, regsOf_snoc]
      refine ⟨_, rfl, _, rfl, KL, _, _, _, rfl, rfl, SqL.of (hKLk k10), atI_nat (j := j0 + i) hkx, rfl, _, rfl, ?_⟩
      rw [eq_str]
      by_cases hk : kd = rS
      · have hreg : t ∈ regsOf (zipK T ks j0) := List.mem_map.mpr ⟨(t, kd), List.mem_filter.mpr ⟨List.mem_of_getElem? h3, decide_eq_true hk⟩, rfl⟩
        have hrd0 : 0 < rd.length := by
          have : t ∈ rd := by rw [← hrd]; exact List.mem_append_left _ (List.mem_append_right _ hreg)
          exact List.length_pos_of_mem this
        refine ifT (decide_eq_true hk) ⟨_, rfl, by decide, by decide, fun PL hPL => ?_⟩
        refine lc_draw walk_r0 (fun i d => ∃ o : Option S, d = oD o ∧ (i = 0 → o ≠ none) ∧ ∀ z, o = some z → z ∈ rd) (by decide) hPL s10 (fun _ _ => True.intro) ?_ ?_
        · rintro i2 y2 _ H' Q' hi2 e s ⟨rfl, rfl⟩ kk
          have hi3 : i2 < 3 := hi2
          have hR' := e _ _ hR10 hRa
          refine ⟨rfl, _, rfl, _, rfl, sz5 (by simp), fun nl hnl => ?_⟩
          have e1 := Same.new hnl (o := .lst [V.non])
          refine ⟨_, rfl, _, rfl, R, _, rfl, .inl (SqL.of (e1 _ _ hR')), _, _, rfl, rfl, .inl ⟨by omega, by omega⟩, ?_⟩
          have hmul : (i2 : Int) * ((rd.map V.str).length : Int) = ((i2 * rd.length : Nat) : Int) := by rw [List.length_map, Int.natCast_mul]
          show rRep (V.ref nl) (V.int ((i2 : Int) * ((rd.map V.str).length : Int))) _ _
          rw [hmul]
          have hb : i2 * rd.length ≤ 3 * 500 := Nat.mul_le_mul (by omega) lrd
          refine ⟨nl, _, _, rfl, rfl, upd_same, by omega, by omega, sz5 (by rw [Int.toNat_natCast]; simp; omega), fun rl hrl => ?_⟩
          have e2 := Same.new hrl (o := .lst (List.replicate ((i2 * rd.length : Nat) : Int).toNat [V.non]).flatten)
          have hfl : (List.replicate ((i2 * rd.length : Nat) : Int).toNat [V.non]).flatten = List.replicate (i2 * rd.length) V.non := by
            rw [Int.toNat_natCast, List.flatten_replicate_singleton]
          refine ⟨R, rl, _, _, rfl, rfl, (e1.trans e2) _ _ hR', upd_same, sz5 (by rw [hfl, List.length_map, List.length_replicate]; omega), fun pl hpl => ?_⟩
          rw [hfl] at e2 hpl ⊢
          have e3 := Same.new hpl (o := .lst (rd.map V.str ++ List.replicate (i2 * rd.length) V.non))
          have e13 := (e1.trans e2).trans e3
          refine ⟨a, c, pl, _, rfl, s.same e13, .inl upd_same, (s.same (e1.trans e2)).ne hpl, by rw [List.length_append, List.length_map]; omega, by rw [List.length_append, List.length_map, List.length_replicate]; omega, fun j y3 H'' hj e' s' => ?_⟩
          by_cases hjl : j < rd.length
          · rw [List.getElem?_append_left (by rw [List.length_map]; exact hjl), List.getElem?_map, List.getElem?_eq_getElem hjl] at hj
            cases hj
            exact kk _ _ _ (e13.kp.trans e') s' ⟨some rd[j], rfl, fun _ => by simp, fun z hz => by cases hz; exact List.getElem_mem hjl⟩ (.str _)
          · rw [List.getElem?_append_right (by rw [List.length_map]; omega), List.length_map] at hj
            have hj2 := List.mem_of_getElem? hj
            obtain ⟨hne, rfl⟩ := List.mem_replicate.mp hj2
            exact kk _ _ _ (e13.kp.trans e') s' ⟨none, rfl, fun z => absurd (by rw [z, Nat.zero_mul]) hne, fun z hz => by cases hz⟩ .non
        intro H11 dds wws e11 s11 hdl hdp hPL11 rds
        match dds, wws, hdl, hdp, hPL11, rds with
        | [d0, d1, d2], [w0, w1, w2], _, hdp, hPL11, .cons r0 (.cons r1 (.cons r2 .nil)) =>
          obtain ⟨p0, rfl, h00, h0⟩ := hdp 0 d0 rfl
          obtain ⟨p1, rfl, _, h10⟩ := hdp 1 d1 rfl
          obtain ⟨p2, rfl, _, h20⟩ := hdp 2 d2 rfl
          obtain ⟨sg, rfl⟩ : ∃ z, p0 = some z := Option.ne_none_iff_exists'.mp (h00 rfl)
          obtain rfl := r0.opt
          obtain rfl := r1.opt
          obtain rfl := r2.opt
          have hPLa : PL ≠ a := s10.ne hPL
          have k711 := k10.trans e11
          refine ⟨_, rfl, _, rfl, TL, _, _, _, rfl, rfl, SqL.of (hTLk k711), atI_nat (j := j0 + i) htx, _, rfl, a, c, 2, rfl, s11, by decide, fun b H12 hb e12 s12 => ?_⟩
          obtain ⟨fi, hfi⟩ := bit_of hb
          rw [hfi]
          have hPL12 := e12 _ _ hPL11 hPLa
          refine ⟨_, rfl, PL, _, _, _, rfl, rfl, SqL.of hPL12, atI_nat (j := 0) rfl, _, rfl, PL, _, _, _, rfl, rfl, SqL.of hPL12, atI_nat (j := 1) rfl, _, rfl, PL, _, _, _, rfl, rfl, SqL.of hPL12, atI_nat (j := 2) rfl, sz5 (by simp), fun t1 ht1 => ?_⟩
          have e13 := Same.new ht1 (o := .tup [.str rS, .str t, .int (b2i fi), .str sg, oV p1, oV p2])
          have k1013 : Kp a H10 _ := (e11.trans e12).trans e13.kp
          have hI13 := k1013 _ _ hI10 hIa
          have s13 := s12.same e13
          have rit : Rep (upd H12 t1 (.tup [.str rS, .str t, .int (b2i fi), .str sg, oV p1, oV p2])) (Item.d (.reg t fi sg p1 p2)) (.ref t1) := rep_reg upd_same
          refine ⟨_, rfl, .inl ⟨rfl, _, SqL.of hI13⟩, _, rfl, _, rfl, I, _, rfl, .inl (SqL.of hI13), _, _, rfl, rfl, a, c, us.length + 1, rfl, s13, by omega, fun j H14 hj e14 s14 => ?_⟩
          have k1014 := k1013.trans e14
          have hI14 := k1014 _ _ hI10 hIa
          have hR14 := k1014 _ _ hR10 hRa
          refine ⟨_, rfl, I, us, (j : Int), .ref t1, rfl, rfl, hI14, sz5' (by omega), by omega, by omega, ?_⟩
          rw [Int.toNat_natCast]
          have tx14 : Tx H14 (upd H14 I (.lst (us.take j ++ [.ref t1] ++ us.drop j))) := (Tx.refl H14).mut hI14 fun _ z => nomatch z
          have tx1 : Tx H10 H14 := s10.tx k1014
          have ru14 := (rus10.tx tx1).tx tx14
          refine ⟨(k10.trans k1014).fresh hI, s14.fresh s7 hI, (upd_ne hRI).trans hR14, all.take j ++ [.reg t fi sg p1 p2] ++ all.drop j, _, upd_same, ?_, ?_, ?_, _, _, _, _, _, _, rfl⟩
          · rw [List.map_append, List.map_append, List.map_take, List.map_drop]
            refine ((ru14.take j).app (.one ((rit.tx (s13.tx e14)).tx tx14))).app ?_
            exact ru14.drop j
          · rw [if_pos hk]
            refine hS2.ins (i := .reg t fi sg p1 p2) rfl (fun s hs => ?_) j
            have hs' : s ∈ sg :: (p1.toList ++ p2.toList) := hs
            rcases List.mem_cons.mp hs' with q | q
            · rw [q]; exact h0 sg rfl
            · rcases List.mem_append.mp q with q | q
              · exact h10 s (Option.mem_toList.mp q)
              · exact h20 s (Option.mem_toList.mp q)
          · have := congrArg List.length (List.take_append_drop j all)
            rw [List.length_append] at this
            rw [List.length_append, List.length_append, List.length_singleton]
            omega
      · refine ifF (decide_eq_false hk) ⟨k10, s10, hR10, all, us, hI10, rus10, by rw [if_neg hk]; exact hS2, by omega, _, _, _, _, _, _, rfl⟩
    rintro σ H10 ⟨k10, s10, hR10, all, us, hI10, rus10, hS2, hal, o6, o8, o10, o11, o12, o14, rfl⟩
    rw [show T.length - j0 = (zipK T ks j0).length from zl.symm, List.take_length] at hS2
    have lus := rus10.len
    rw [List.length_map] at lus
    -- the outputs
    refine ⟨_, rfl, _, rfl, R, rfl, ⟨_, SqL.of hR10⟩, fun L hL => ?_⟩
    refine lc_filt (walk_list (xs := rd.map V.str)) noDot (by rw [List.length_map]) (by rw [List.length_map]; omega) hL (fun H' e => SqL.of (e _ _ hR10)) (fun _ => rfl) ?_ (fun x H Qe q => ⟨_, rfl, q⟩) ?_
    · intro i2 y2 H' Qb hy2 e q
      refine ⟨_, rfl, _, _, rfl, rfl, _, rfl, ?_⟩
      rw [dot_in]
      exact q
    intro H11 e11 hL11
    have s11 := s10.same e11
    have hLa : L ≠ a := s10.ne hL
    refine ⟨_, rfl, a, c, 4, rfl, s11, by decide, fun j4 H12 hj4 e12 s12 => ?_⟩
    have hL12 := e12 _ _ hL11 hLa
    have lfz : (rd.filter noDot).length ≤ 500 := Nat.le_trans (List.length_filter_le ..) lrd
    refine ⟨a, c, L, rd.filter noDot, j4, rfl, s12, .inl hL12, hLa, by omega, by omega, fun ys rs OL H13 hperm hyl e13 s13 hOL0 hOL => ?_⟩
    have k1013 : Kp a H10 H13 := (e11.kp.trans e12).trans e13
    have k713 := k10.trans k1013
    have hI13 := k1013 _ _ hI10 hIa
    refine ⟨_, rfl, _, rfl, _, rfl, _, rfl, TL, _, rfl, SqL.of (hTLk k713), fun l2 hl2 => ?_⟩
    rw [cut_take (by rw [List.length_map]; omega), ← List.map_take]
    have f1 := Same.new hl2 (o := .lst ((T.take j0).map V.str))
    refine ⟨l2, _, rfl, .inl ⟨SqL.of upd_same, fun t1 ht1 => ?_⟩⟩
    have f2 := Same.new ht1 (o := .tup ((T.take j0).map V.str))
    refine ⟨_, rfl, OL, _, rfl, .inl ⟨SqL.of ((f1.trans f2) _ _ hOL), fun t2 ht2 => ?_⟩⟩
    have f3 := Same.new ht2 (o := .tup (ys.map V.str))
    refine ⟨_, rfl, I, _, rfl, .inl ⟨SqL.of (((f1.trans f2).trans f3) _ _ hI13), fun t3 ht3 => ⟨sz5 (by simp), fun t4 ht4 => ?_⟩⟩⟩
    have f4 := Same.new ht3 (o := .tup us)
    have f5 := Same.new ht4 (o := .tup [.str x, .ref t1, .ref t2, .ref t3])
    have f15 := ((f1.trans f2).trans f3).trans (f4.trans f5)
    have hmem : ∀ y, y ∈ T.take j0 ++ (regsOf (zipK T ks j0) ++ its.map (·.nm)) → y ∈ T := fun y hy => by
      rw [hnm] at hy
      rcases List.mem_append.mp hy with q | q
      · exact List.mem_of_mem_take q
      · have := (rn_perm (zipK T ks j0)).mem_iff.mp q
        rw [zipK_fst (by omega)] at this
        exact List.mem_of_mem_drop this
    have hndT : (T.take j0 ++ (regsOf (zipK T ks j0) ++ its.map (·.nm))).Nodup := by
      rw [hnm]
      have pp : (T.take j0 ++ (regsOf (zipK T ks j0) ++ nonsOf (zipK T ks j0))).Perm T := by
        have h1 := rn_perm (zipK T ks j0)
        rw [zipK_fst (by omega)] at h1
        have h2 := List.Perm.append_left (T.take j0) h1
        rw [List.take_append_drop] at h2
        exact h2
      exact pp.nodup_iff.mpr hTd
    subst hrd
    have mok : MOk ds ⟨x, T.take j0, ys, all⟩ := slim_ok hx hnew hndT (fun y hy => hTn y (hmem y hy)) hS hS2 hperm
    refine k ⟨x, T.take j0, ys, all⟩ _ _ rfl mok ⟨⟨?_, ?_, ?_⟩, fun it hit => ?_, fun o ho => ?_⟩ (e07.trans (k713.trans f15.kp)) (s13.same f15) ?_
    · show (T.take j0).length ≤ 10
      rw [List.length_take]; omega
    · show ys.length ≤ 10
      omega
    · show all.length ≤ 10
      have h1 := (split_perm hS2.comb hS2.regs).length_eq
      rw [List.length_map, hnm, (rn_perm (zipK T ks j0)).length_eq, List.length_map, zl] at h1
      omega
    · have := name_len (mok.dclN it.nm (List.mem_append_right _ (List.mem_map_of_mem hit)))
      omega
    · have h1 : o ∈ (T.take j0 ++ regsOf (zipK T ks j0) ++ its.flatMap (Item.outSig ds)).filter noDot := hperm.mem_iff.mp (List.mem_append_left _ ho)
      have h2 := mok.outs o ho
      have h3 : o ∈ Mod.decl ⟨x, T.take j0, ys, all⟩ := by
        unfold Mod.plain at h2
        unfold Mod.decl
        rcases List.mem_append.mp h2 with q | q
        · exact List.mem_append_left _ q
        · obtain ⟨jt, hj, rfl⟩ := List.mem_map.mp q
          exact List.mem_append_right _ (List.mem_map_of_mem (List.mem_filter.mp hj).1)
      have := name_len (mok.dclN o h3)
      omega
    · have tx13 : Tx H10 H13 := s10.tx k1013
      exact .tup upd_same (.cons (.str _) (.cons (Rep.ofStrs ((f3.trans (f4.trans f5)) _ _ upd_same)) (.cons (Rep.ofStrs ((f4.trans f5) _ _ upd_same)) (.cons (.tup (f5 _ _ upd_same) ((rus10.tx tx13).ex f15)) .nil))))
end
end Wi
set_option maxHeartbeats 4000000
set_option maxRecDepth 100000
namespace Wi
open PySem L2 PySem.Spec PyProof.Rows
/-! V12: the rewritten net is right -/
theorem DD.mono : ∀ {k : Nat} {d : D}, DD k d → DD (k + 1) d
  | 0, .tup l, h => h.elim
  | k + 1, .tup l, h => ⟨h.1, fun d hd => DD.mono (h.2 d hd)⟩
  | _, .non, _ => trivial
  | _, .bl _, _ => trivial
  | _, .int _, _ => trivial
  | _, .str _, _ => trivial
theorem DD.le {j k : Nat} {d : D} (h : DD j d) (e : j ≤ k) : DD k d := by
  induction e with
  | refl => exact h
  | step _ ih => exact ih.mono
theorem dd_tup {k : Nat} {l : List D} (h : l.length ≤ 1000) (hd : ∀ d ∈ l, DD k d) : DD (k + 1) (.tup l) := ⟨h, hd⟩
theorem dd_map {α : Type} {k : Nat} {l : List α} {f : α → D} (h : l.length ≤ 1000) (hd : ∀ x ∈ l, DD k (f x)) : DD (k + 1) (.tup (l.map f)) :=
  ⟨by rw [List.length_map]; exact h, fun d hd' => by obtain ⟨x, hx, rfl⟩ := List.mem_map.mp hd'; exact hd x hx⟩
theorem dd_strs {l : List Str} (h : l.length ≤ 1000) : DD 1 (strsD l) := dd_map h fun _ _ => trivial
theorem dd_net {n : Net} (h : NOk n) : DD 4 n.d := by
  have hg := h.gsz
  have hr := h.rsz
  have hi := h.isz
  have ho := h.osz
  refine dd_tup (by show 4 ≤ 1000; decide) fun d hd => ?_
  simp only [List.mem_cons, List.not_mem_nil, or_false] at hd
  rcases hd with rfl | rfl | rfl | rfl
  · exact (dd_strs (by omega)).le (by decide)
  · refine dd_map (by omega) fun g hgm => ?_
    have ha : g.args.length ≤ 3 := by rw [h.sd.ar g hgm]; exact ar_le _
    refine dd_tup (by show 3 ≤ 1000; decide) fun d hd => ?_
    simp only [List.mem_cons, List.not_mem_nil, or_false] at hd
    rcases hd with rfl | rfl | rfl
    · trivial
    · trivial
    · exact dd_strs (by omega)
  · refine (dd_map (k := 1) (by omega) fun r _ => ?_).le (by decide)
    refine dd_tup (by show 3 ≤ 1000; decide) fun d hd => ?_
    simp only [List.mem_cons, List.not_mem_nil, or_false] at hd
    rcases hd with rfl | rfl | rfl <;> trivial
  · exact (dd_strs (by omega)).le (by decide)
theorem dd_rows {rows : List (List Bool)} (h : rows.length ≤ 1000) (hr : ∀ r ∈ rows, r.length ≤ 1000) : DD 2 (rowsD rows) := dd_map h fun r hm => dd_map (hr r hm) fun _ _ => trivial
theorem dd_two {k : Nat} {a b : D} (ha : DD k a) (hb : DD k b) : DD (k + 1) (.tup [a, b]) := dd_tup (by show 2 ≤ 1000; decide) fun d hd => by
  simp only [List.mem_cons, List.not_mem_nil, or_false] at hd
  rcases hd with rfl | rfl
  · exact ha
  · exact hb
/-! ### rows as the comparison reads them -/
def bitP (b : Bool) : PyData := .int (b2i b)
def rowP (r : List Bool) : PyData := .tuple (r.map bitP)
def rowsP (rs : List (List Bool)) : PyData := .tuple (rs.map rowP)
theorem dpAll_bits {K : PySem.W.Frag} {H : Hp} : ∀ r : List Bool, DpAll K H (r.map bitV) (r.map bitP)
  | [] => .nil
  | _ :: r => .cons (.int _) (dpAll_bits r)
theorem dpAll_rows {K : PySem.W.Frag} {H : Hp} : ∀ {rs : List (List Bool)} {vs : List V}, RepL H (rs.map bitsD) vs → DpAll K H vs (rs.map rowP)
  | [], _, .nil => .nil
  | r :: rs, _, .cons h t => by
    obtain ⟨p, rfl, hp⟩ := h.bits
    exact .cons (.tup (SqT.of hp) (dpAll_bits r)) (dpAll_rows t)
theorem dp_rows {K : PySem.W.Frag} {H : Hp} {rs : List (List Bool)} {v : V} (h : Rep H (rowsD rs) v) : Dp K H v (rowsP rs) := by
  obtain ⟨p, us, rfl, hp, ru⟩ := h.eTup
  exact .tup (SqT.of hp) (dpAll_rows ru)
theorem lay_bits : ∀ r : List Bool, PyData.canLayAll0 (r.map bitP) = true ∧ PyData.depthAll (r.map bitP) = 0
  | [] => ⟨rfl, rfl⟩
  | b :: r => by
    obtain ⟨h1, h2⟩ := lay_bits r
    unfold bitP at h1 h2 ⊢
    simp only [List.map_cons, PyData.canLayAll0, PyData.depthAll, PyData.canLay0, PyData.depth, h1, h2]
    exact ⟨rfl, rfl⟩
theorem lay_rows : ∀ rs : List (List Bool), PyData.canLayAll0 (rs.map rowP) = true ∧ PyData.depthAll (rs.map rowP) ≤ 1
  | [] => ⟨rfl, by decide⟩
  | r :: rs => by
    obtain ⟨h1, h2⟩ := lay_rows rs
    obtain ⟨h3, h4⟩ := lay_bits r
    unfold rowP at h1 h2 ⊢
    simp only [List.map_cons, PyData.canLayAll0, PyData.depthAll, PyData.canLay0, PyData.depth, h1, h3, h4]
    exact ⟨rfl, by omega⟩
theorem shaped_rows (rs : List (List Bool)) : SeqAt.shaped (rowsP rs) = true := by
  obtain ⟨h1, h2⟩ := lay_rows rs
  unfold SeqAt.shaped rowsP
  refine Bool.and_eq_true_iff.mpr ⟨?_, decide_eq_true ?_⟩
  · simp only [PyData.canLay0, h1]
  · show PyData.depth (.tuple (rs.map rowP)) ≤ 64
    simp only [PyData.depth]
    omega
theorem eqv_bits : ∀ r : List Bool, PyData.eqvAll (r.map bitP) (r.map bitP) = true
  | [] => rfl
  | b :: r => by
    have := eqv_bits r
    unfold bitP at this ⊢
    simp only [List.map_cons, PyData.eqvAll, PyData.eqv, this, beq_self_eq_true, Bool.and_self]
theorem eqv_rowsA : ∀ rs : List (List Bool), PyData.eqvAll (rs.map rowP) (rs.map rowP) = true
  | [] => rfl
  | r :: rs => by
    have := eqv_rowsA rs
    unfold rowP at this ⊢
    simp only [List.map_cons, PyData.eqvAll, PyData.eqv, this, eqv_bits, Bool.and_self]
theorem eqv_rows (rs : List (List Bool)) : PyData.eqv (rowsP rs) (rowsP rs) = true := by
  unfold rowsP
  simp only [PyData.eqv]
  exact eqv_rowsA rs
theorem neD_rows {K : PySem.W.Frag} {H : Hp} {rs : List (List Bool)} {v u : V} {Q : VK} (h1 : Rep H (rowsD rs) v) (h2 : Rep H (rowsD rs) u) (q : Q (.bl false) H) : rNeD K v u H Q := by
  refine ⟨_, _, dp_rows h1, dp_rows h2, shaped_rows _, shaped_rows _, ?_⟩
  rw [eqv_rows]
  exact q
theorem run_lens {n : Net} : ∀ {rows : List (List Bool)} {st : List Bool} {os : List (List Bool)}, RunR n st rows os → os.length = rows.length ∧ ∀ r ∈ os, r.length = n.outs.length
  | [], _, _, h => by
    cases h
    exact ⟨rfl, fun _ h => nomatch h⟩
  | r :: rs, st, os, ⟨ρ, os', _, e, t⟩ => by
    obtain ⟨h1, h2⟩ := run_lens t
    subst e
    refine ⟨by rw [List.length_cons, List.length_cons, h1], fun x hx => ?_⟩
    rcases List.mem_cons.mp hx with q | q
    · rw [q, List.length_map]
    · exact h2 x q
section
variable {X : Cx} {CX : CXT} {k : Nat} {g x : Str} {i : Nat} {kws : List (Str × V)} {ps : List Str} {sp : Sp} {E : XK} {p pos : Pos} {e e2 : Expr} {t tk : TA} {kwE : List Keyword}
theorem pe_callT2 (q : Str) (C : CalF X.prog X.w X.K X.mg X.base CX k g x i kws ps sp) (hkws : kws ≠ []) (hr : Room k X.A) (hg : Gl X g) (hx : Passes CX X E)
    (hb : ∀ (D : Addr) (doc pm : Value) (an : Option Addr) (cdv ct : Value) (us ws : List Value), us.length = 2 → ws.length = 1 → bindArgs (PySem.W.fnOf x x (defArgs (top i)) (defBody (top i)) (defScope (top i)) .none (.ref D) doc pm an cdv ct) ⟨us, [q].zip ws⟩ = pure (ps.zip (us ++ ws)))
    (ha : PA X [e, e2] t) (hkw : PK X kwE tk) (hall : (backToKw pos (keywordEach kwE X.env)).all (·.1.isSome) = true := by rfl) (hks : (backToKw pos (keywordEach kwE X.env)).filterMap (·.1) = [q] := by rfl)
    (hdb : (g == ("__debug__" : Str)) = false := by decide) (he : starEach [e, e2] X.env = (false, eval e X.env) :: starEach [e2] X.env := by rfl)
    (hpl : ((backTo pos (starEach [e, e2] X.env)).any (·.1) || (backToKw pos (keywordEach kwE X.env)).any (·.1.isNone)) = false := by rfl) :
    PE X (.Call (.Name g p) [e, e2] kwE pos) (tCallN 2 1 sp (fun vs zs => vs ++ zs) E t tk) := pe_callF C hkws hr hg hx 2 [q] hb ha hkw hall hks hdb he hpl
theorem pe_callD2 (C : CalF X.prog X.w X.K X.mg X.base CX k g x i kws ps sp) (hkws : kws ≠ []) (hr : Room k X.A) (hg : Gl X g) (hx : Passes CX X E) (hn : 2 + kws.length = ps.length)
    (hb : ∀ (D : Addr) (doc pm : Value) (an : Option Addr) (cdv ct : Value) (us ks : List Value), us.length = 2 → ks.length = kws.length →
      KwChain D ((kws.map (·.1)).zip ks) (bindArgs (PySem.W.fnOf x x (defArgs (top i)) (defBody (top i)) (defScope (top i)) .none (.ref D) doc pm an cdv ct) ⟨us, []⟩) (ps.zip (us ++ ks)))
    (ha : PA X [e, e2] t) (hdb : (g == ("__debug__" : Str)) = false := by decide) (he : starEach [e, e2] X.env = (false, eval e X.env) :: starEach [e2] X.env := by rfl) (hpl : (backTo pos (starEach [e2] X.env)).any (·.1) = false := by rfl) :
    PE X (.Call (.Name g p) [e, e2] [] pos) (tCall sp (kws.map (·.2)) E t) := pe_callFD C hkws hr hg hx 2 hn hb ha hdb he hpl
end
def wfD (r : Reg) : D := .tup [.str r.w, .int (b2i r.fi)]
section
variable {P : Program} {w : World} {K : PySem.W.Frag} {mg : Str → Option Value} {base : Heap}
theorem sc_law_rewritten_right : FnScope ["_law_store_here", "_law_net", "_law_rows", "_law_bits", "_law_reg", "_law_most", "_law_told", "_law_fresh", "_law_firsts", "_law_due", "_law_later", "_law_other", "_law_passed"] ["_law_store_here", "_law_net", "_law_rows"] (defScope (top 120)) :=
  ⟨rfl, rfl, rfl, by decide +kernel, rfl, by decide +kernel, by decide +kernel⟩
def spRR : Sp := fun vs H Q _ => ∃ (a c : Addr) (vn vr : V) (n : Net) (rows : List (List Bool)), vs = [.ref a, vn, vr] ∧ Sto H a c ∧ Rep H n.d vn ∧ NOk n ∧ Rep H (rowsD rows) vr ∧ (∀ r ∈ rows, r.length = n.ins.length) ∧ rows.length ≤ 300 ∧ ∀ H', Kp a H H' → Q (.bl true) H'
theorem cal_law_rewritten_right {C : Addr} (F : Df K mg "_law_rewritten_right" "_law_rewritten_right" 120) (B : Bl mg) (R_Run : RunC K mg C) (C_law_take : Cal P w K mg base CX0 2 "_law_take" ["_law_store_here", "_law_many"] spTake)
    (C_rewrite : CalF P w K mg base CX0 8 "rewrite" "rewrite" 85 [("limit", .int 400)] ["net", "limit"] spRewrite) (C_law_alike : Cal P w K mg base CX0 7 "_law_alike" ["_law_actual", "_law_due"] (spA 6)) (C_law_sorted : Cal P w K mg base CX0 1 "_law_sorted" ["_law_net"] spSorted)
    (C_law_shown : Cal P w K mg base CX0 1 "_law_shown" ["_law_ticks", "_law_texts"] spShown) (C_law_play : Cal P w K mg base CX0 2 "_law_play" ["_law_net", "_law_rows"] spPlay) (C_law_rows_from : Cal P w K mg base CX0 3 "_law_rows_from" ["_law_net", "_law_bits", "_law_rows"] spRowsF)
    (C_run : CalF P w K mg base CX0 9 "run" "run" 99 [("state", .non)] ["net", "stimulus", "state"] (spRun C)) (C_trail : Cal P w K mg base CX0 8 "trail" ["net", "chain"] spTrail) (C_is_settled : Cal P w K mg base CX0 8 "is_settled" ["net"] (spNetR rSettled)) :
    Cal P w K mg base CX0 10 "_law_rewritten_right" ["_law_store_here", "_law_net", "_law_rows"] spRR := by
  refine F.cal sc_law_rewritten_right (fun vs H Q E h => ?_) (fun _ _ _ _ _ _ us hl => match us, hl with | [_, _, _], _ => rfl) (fun f cdv A outer s H vs Q E hr h => ?_)
  · obtain ⟨_, _, _, _, _, _, rfl, _⟩ := h
    rfl
  · obtain ⟨a, c, vn, vr, n, rows, rfl, st, rv, hn, rr0, hrl, hrz, k⟩ := h
    refine ⟨_, (pss_cons (ps_set (i := 3) sc_law_rewritten_right.nd rfl (Or.inl rfl) (pe_callTy call_tuple_of rfl B.tuple (by decide +kernel) (pa_cons (pe_lc (own := [("_law_reg", 4)]) rfl sc_law_rewritten_right.nd (pi_tup (pe_ix (r := rIxT K) ix_tup (pv 1) pe_int (fun _ _ => rfl))) (blkOk_by (N := ["_law_store_here", "_law_net", "_law_rows", "_law_bits", "_law_reg", "_law_most", "_law_told", "_law_fresh", "_law_firsts", "_law_due", "_law_later", "_law_other", "_law_passed"]) (sc := defScope (top 120)) (own := [("_law_reg", 4)]) (by decide +kernel)) (fun _ _ _ _ _ => (pg_name (i := 4) sc_law_rewritten_right.nd rfl (Or.inl rfl))) (fun _ _ _ _ _ => pts_nil) (fun _ _ _ _ _ => (pe_callC C_law_take (hr.mono (by decide)) rfl pass0 (pa_cons (pv 0) (pa_cons pe_int pa_nil))))) pa_nil)))
      (pss_cons (ps_set (i := 5) sc_law_rewritten_right.nd rfl (Or.inl rfl) (pe_callC C_law_take (hr.mono (by decide)) rfl pass0 (pa_cons (pv 0) (pa_cons (pe_op op_add pe_int (pe_op op_fdiv pe_int (pe_op op_add pe_int (pe_callB call_len_seq rfl B.len PySem.boot_len (pa_cons (pe_ix (r := rIxT K) ix_tup (pv 1) pe_int (fun _ _ => rfl)) pa_nil))))) pa_nil))))
      (pss_cons (ps_set (i := 6) sc_law_rewritten_right.nd rfl (Or.inl rfl) (pe_callT (E := E0) "limit" C_rewrite (by decide) (hr.mono (by decide)) rfl pass0 (fun _ _ _ _ _ _ us ws h1 h2 => match us, ws, h1, h2 with | [_], [_], _, _ => rfl) (pa_cons (pv 1) pa_nil) (pk_cons (pv 5) pk_nil)))
      (pss_cons (ps_if (PW.pt (pw_or (pt_not (pt_val (pe_callB call_isi rfl B.isinstance (by decide +kernel) (pa_cons (pv 6) (pa_cons (pe_bltn (v := .ty "tuple") (u := .type "tuple") rfl B.tuple (by decide +kernel) rfl) pa_nil))))) (pw_or (pt_cmpR op_ne (pe_callB call_len_seq rfl B.len PySem.boot_len (pa_cons (pv 6) pa_nil)) pe_int (nomark _)) (pw_or (pt_not (pt_val (pe_callB call_isi rfl B.isinstance (by decide +kernel) (pa_cons (pe_ix (r := rIxT K) ix_tup (pv 6) pe_int (fun _ _ => rfl)) (pa_cons (pe_bltn (v := .ty "tuple") (u := .type "tuple") rfl B.tuple (by decide +kernel) rfl) pa_nil))))) (pw_or1 (pt_cmpR op_gt (pe_callB call_len_seq rfl B.len PySem.boot_len (pa_cons (pe_ix (r := rIxT K) ix_tup (pv 6) pe_int (fun _ _ => rfl)) pa_nil)) (pv 5) (nomark _)))))))
        (pss_one (ps_ret pe_bl))
        pss_nil)
      (pss_cons (ps_set (i := 7) sc_law_rewritten_right.nd rfl (Or.inl rfl) (pe_ix (r := rIxT K) ix_tup (pv 6) pe_int (fun _ _ => rfl)))
      (pss_cons (ps_if (PW.pt (pw_or (pt_not (pt_val (pe_callC C_law_alike (hr.mono (by decide)) rfl pass0 (pa_cons (pe_tup (pa_cons (pe_ix (r := rIxT K) ix_tup (pv 7) pe_int (fun _ _ => rfl)) (pa_cons (pe_ix (r := rIxT K) ix_tup (pv 7) pe_int (fun _ _ => rfl)) pa_nil))) (pa_cons (pe_tup (pa_cons (pe_ix (r := rIxT K) ix_tup (pv 1) pe_int (fun _ _ => rfl)) (pa_cons (pe_ix (r := rIxT K) ix_tup (pv 1) pe_int (fun _ _ => rfl)) pa_nil))) pa_nil))))) (pw_or1 (pt_cmpR op_ne (pe_callB call_len_seq rfl B.len PySem.boot_len (pa_cons (pe_callC C_law_sorted (hr.mono (by decide)) rfl pass0 (pa_cons (pv 7) pa_nil)) pa_nil)) (pe_callB call_len_seq rfl B.len PySem.boot_len (pa_cons (pe_ix (r := rIxT K) ix_tup (pv 7) pe_int (fun _ _ => rfl)) pa_nil)) (nomark _)))))
        (pss_one (ps_ret pe_bl))
        pss_nil)
      (pss_cons (ps_set (i := 8) sc_law_rewritten_right.nd rfl (Or.inl rfl) (pe_callTy call_tuple_of rfl B.tuple (by decide +kernel) (pa_cons (pe_lc (own := [("_law_reg", 4)]) rfl sc_law_rewritten_right.nd (pi_tup (pe_ix (r := rIxT K) ix_tup (pv 1) pe_int (fun _ _ => rfl))) (blkOk_by (N := ["_law_store_here", "_law_net", "_law_rows", "_law_bits", "_law_reg", "_law_most", "_law_told", "_law_fresh", "_law_firsts", "_law_due", "_law_later", "_law_other", "_law_passed"]) (sc := defScope (top 120)) (own := [("_law_reg", 4)]) (by decide +kernel)) (fun _ _ _ _ _ => (pg_name (i := 4) sc_law_rewritten_right.nd rfl (Or.inl rfl))) (fun _ _ _ _ _ => pts_nil) (fun _ _ _ _ _ => (pe_tup (pa_cons (pe_ix (r := rIxT K) ix_tup (pv 4) pe_int (fun _ _ => rfl)) (pa_cons (pe_ix (r := rIxT K) ix_tup (pv 4) pe_int (fun _ _ => rfl)) pa_nil))))) pa_nil)))
      (pss_cons (ps_if (pt_not (pt_val (pe_callC C_law_alike (hr.mono (by decide)) rfl pass0 (pa_cons (pe_callTy call_tuple_of rfl B.tuple (by decide +kernel) (pa_cons (pe_lc (own := [("_law_reg", 4)]) rfl sc_law_rewritten_right.nd (pi_tup (pe_ix (r := rIxT K) ix_tup (pv 7) pe_int (fun _ _ => rfl))) (blkOk_by (N := ["_law_store_here", "_law_net", "_law_rows", "_law_bits", "_law_reg", "_law_most", "_law_told", "_law_fresh", "_law_firsts", "_law_due", "_law_later", "_law_other", "_law_passed"]) (sc := defScope (top 120)) (own := [("_law_reg", 4)]) (by decide +kernel)) (fun _ _ _ _ _ => (pg_name (i := 4) sc_law_rewritten_right.nd rfl (Or.inl rfl))) (fun _ _ _ _ _ => pts_nil) (fun _ _ _ _ _ => (pe_tup (pa_cons (pe_ix (r := rIxT K) ix_tup (pv 4) pe_int (fun _ _ => rfl)) (pa_cons (pe_ix (r := rIxT K) ix_tup (pv 4) pe_int (fun _ _ => rfl)) pa_nil))))) pa_nil)) (pa_cons (pv 8) pa_nil)))))
        (pss_one (ps_ret pe_bl))
        pss_nil)
      (pss_cons (ps_set (i := 9) sc_law_rewritten_right.nd rfl (Or.inl rfl) (pe_callC C_law_shown (hr.mono (by decide)) rfl pass0 (pa_cons (pe_ix (r := rIxT K) ix_tup (pe_callC C_law_play (hr.mono (by decide)) rfl pass0 (pa_cons (pv 1) (pa_cons (pv 2) pa_nil))) pe_int (fun _ _ => rfl)) (pa_cons (pe_ix (r := rIxT K) ix_tup (pv 1) pe_int (fun _ _ => rfl)) pa_nil))))
      (pss_cons (ps_set (i := 10) sc_law_rewritten_right.nd rfl (Or.inl rfl) (pe_callC C_law_rows_from (hr.mono (by decide)) rfl pass0 (pa_cons (pv 1) (pa_cons (pv 3) (pa_cons (pv 2) pa_nil)))))
      (pss_cons (ps_for PassesOwn.never rfl (pi_list (pe_lst (pa_cons (pv 1) (pa_cons (pv 7) pa_nil)))) (pg_name (i := 11) sc_law_rewritten_right.nd rfl (Or.inl rfl))
        (pss_one (ps_if (PW.pt (pw_or (pt_not (pt_val (pe_callC C_law_alike (hr.mono (by decide)) rfl pass0 (pa_cons (pe_fld (pe_callD2 (E := E0) C_run (by decide) (hr.mono (by decide)) rfl pass0 rfl (fun _ _ _ _ _ _ us ks h1 h2 => match us, ks, h1, h2 with | [_, _], [_], _, _ => ⟨_, _, _, _, _, _, rfl, rfl, rfl⟩) (pa_cons (pv 11) (pa_cons (pv 2) pa_nil))) rfl) (pa_cons (pv 9) pa_nil))))) (pw_or1 (pt_not (pt_val (pe_callC C_law_alike (hr.mono (by decide)) rfl pass0 (pa_cons (pe_fld (pe_callT2 (E := E0) "state" C_run (by decide) (hr.mono (by decide)) rfl pass0 (fun _ _ _ _ _ _ us ws h1 h2 => match us, ws, h1, h2 with | [_, _], [_], _, _ => rfl) (pa_cons (pv 11) (pa_cons (pv 2) pa_nil)) (pk_cons (pv 3) pk_nil)) rfl) (pa_cons (pv 10) pa_nil))))))))
          (pss_one (ps_ret pe_bl))
          pss_nil)))
      (pss_cons (ps_if (PW.pt (pw_or (pt_cmpR (op_neD hr.units) (pe_callC C_law_shown (hr.mono (by decide)) rfl pass0 (pa_cons (pe_ix (r := rIxT K) ix_tup (pe_callC C_law_play (hr.mono (by decide)) rfl pass0 (pa_cons (pv 7) (pa_cons (pv 2) pa_nil))) pe_int (fun _ _ => rfl)) (pa_cons (pe_ix (r := rIxT K) ix_tup (pv 1) pe_int (fun _ _ => rfl)) pa_nil))) (pv 9) (nomark _)) (pw_or1 (pt_cmpR (op_neD hr.units) (pe_callC C_law_rows_from (hr.mono (by decide)) rfl pass0 (pa_cons (pv 7) (pa_cons (pv 3) (pa_cons (pv 2) pa_nil)))) (pv 10) (nomark _)))))
        (pss_one (ps_ret pe_bl))
        pss_nil)
      (pss_cons (ps_set (i := 12) sc_law_rewritten_right.nd rfl (Or.inl rfl) (pe_callC C_trail (hr.mono (by decide)) rfl pass0 (pa_cons (pv 1) (pa_cons (pe_ix (r := rIxT K) ix_tup (pv 6) pe_int (fun _ _ => rfl)) pa_nil))))
      (pss_cons (ps_if (PW.pt (pw_or (pt_not (pt_val (pe_callB call_isi rfl B.isinstance (by decide +kernel) (pa_cons (pv 12) (pa_cons (pe_bltn (v := .ty "tuple") (u := .type "tuple") rfl B.tuple (by decide +kernel) rfl) pa_nil))))) (pw_or1 (pt_cmpR op_ne (pe_callB call_len_seq rfl B.len PySem.boot_len (pa_cons (pv 12) pa_nil)) (pe_op op_add (pe_callB call_len_seq rfl B.len PySem.boot_len (pa_cons (pe_ix (r := rIxT K) ix_tup (pv 6) pe_int (fun _ _ => rfl)) pa_nil)) pe_int) (nomark _)))))
        (pss_one (ps_ret pe_bl))
        pss_nil)
      (pss_cons (ps_if (pt_not (pt_val (pe_callC C_law_alike (hr.mono (by decide)) rfl pass0 (pa_cons (pe_tup (pa_cons (pe_ix (r := rIxT K) ix_tup (pv 12) pe_int (fun _ _ => rfl)) (pa_cons (pe_ix (r := rIxT K) ix_tup (pv 12) (pe_callB call_len_seq rfl B.len PySem.boot_len (pa_cons (pe_ix (r := rIxT K) ix_tup (pv 6) pe_int (fun _ _ => rfl)) pa_nil)) (fun _ _ => rfl)) pa_nil))) (pa_cons (pe_tup (pa_cons (pv 1) (pa_cons (pv 7) pa_nil))) pa_nil)))))
        (pss_one (ps_ret pe_bl))
        pss_nil)
      (pss_one (ps_ret (pe_or (pe_cmpR op_eq (pe_callB call_len_seq rfl B.len PySem.boot_len (pa_cons (pe_ix (r := rIxT K) ix_tup (pv 6) pe_int (fun _ _ => rfl)) pa_nil)) (pv 5) (nomark _)) (pe_one (pe_cmpR op_isBl (pe_callC C_is_settled (hr.mono (by decide)) rfl pass0 (pa_cons (pv 7) pa_nil)) pe_bl (nomark _))))))))))))))))))))), ?_⟩
    obtain ⟨p, v1, v2, v3, v4, rfl, hp, r1, r2, r3, r4⟩ := rv.t4
    obtain ⟨p2, gs, rfl, h2, rg⟩ := r2.eTup
    obtain ⟨p3, rs, rfl, h3, rr⟩ := r3.eTup
    have lg := rg.len
    have lr := rr.len
    rw [List.length_map] at lg lr
    have hgz := hn.gsz
    have hrgz := hn.rsz
    have hpa : ∀ {b : Addr} {xs : List V}, H b = some (.tup xs) → b ≠ a := fun h z => by obtain ⟨l, hl⟩ := st.lst; rw [z, hl] at h; cases h
    -- the drawn state
    refine ⟨_, rfl, p, _, _, _, rfl, rfl, SqT.of hp, atI_nat (j := 2) rfl, p3, rfl, ⟨_, SqT.of h3⟩, fun L hL => ?_⟩
    refine lc_draw (walk_tup (xs := rs)) (fun _ d => ∃ b : Bool, d = .int (b2i b)) (by omega) hL st (fun H' e => SqT.of (e _ _ h3 (hpa h3))) ?_ ?_
    · rintro i y _ H' Q' hi e s ⟨rfl, hy⟩ kk
      refine ⟨rfl, _, rfl, a, c, 2, rfl, s, by decide, fun j H3 hj e3 s3 => ?_⟩
      obtain ⟨b, hb⟩ := bit_of hj
      exact kk _ (.int j) _ e3 s3 ⟨b, by rw [hb]⟩ (.int _)
    intro H1 ds wb e1 s1 hl hpd hL1 rwb
    obtain ⟨bs, rfl⟩ := drawn_bits hpd
    rw [List.length_map] at hl
    refine ⟨L, _, rfl, .inl ⟨SqL.of hL1, fun tb htb => ?_⟩⟩
    have f1 := Same.new htb (o := .tup wb)
    have rb2 : Rep (upd H1 tb (.tup wb)) (bitsD bs) (.ref tb) := .tup upd_same (rwb.ex f1)
    have e2 := e1.trans f1.kp
    have s2 := s1.same f1
    generalize upd H1 tb (.tup wb) = H2 at rb2 e2 s2 ⊢
    have k2 : ∀ {b : Addr} {xs : List V}, H b = some (.tup xs) → H2 b = some (.tup xs) := fun h => e2 _ _ h (hpa h)
    -- the limit
    refine ⟨_, rfl, _, rfl, p, _, _, _, rfl, rfl, SqT.of (k2 hp), atI_nat (j := 1) rfl, p2, _, rfl, .inr (SqT.of (k2 h2)), _, _, rfl, rfl, _, _, rfl, rfl, ⟨by omega, by omega⟩, _, _, rfl, rfl, a, c, 2 + 900 / (15 + gs.length), rfl, s2, ?_, fun lim H3 hlim e3 s3 => ?_⟩
    · have := Nat.div_le_self 900 (15 + gs.length)
      omega
    have hlim2 : lim ≤ 902 := by
      have := Nat.div_le_self 900 (15 + gs.length)
      omega
    have tx23 : Tx H2 H3 := s2.tx e3
    have tx03 : Tx H H3 := (st.tx e2).trans tx23
    have e03 := e2.trans e3
    have rb := rb2.tx tx23
    have rn := rv.tx tx03
    have rrow := rr0.tx tx03
    have hp3 := tx03 _ _ hp
    have h33 := tx03 _ _ h3
    have rr3 := rr.tx tx03
    have r13 := r1.tx tx03
    have r43 := r4.tx tx03
    -- rewriting
    refine ⟨_, rfl, _, rfl, rfl, rfl, _, n, lim, rfl, rn, hn, by omega, fun vt H4 m ch e4 hg hcl hset rt => ?_⟩
    have hm := hg.nok hn
    obtain ⟨hms, hrf⟩ := hg.ok hn.sd
    obtain ⟨q, x0, x1, rfl, hq, q0, q1⟩ := rt.t2
    obtain ⟨pc, cs, rfl, hpc, rc⟩ := q1.eTup
    have q1' : Rep H4 (.tup (ch.map stepD)) (.ref pc) := .tup hpc rc
    have lc := rc.len
    rw [List.length_map] at lc
    have rf4 := q0
    obtain ⟨pf, y1, y2, y3, y4, rfl, hpf, f1', f2', f3', f4'⟩ := q0.t4
    obtain ⟨pf2, fg, rfl, hpf2, rfg⟩ := f2'.eTup
    obtain ⟨pf3, fr, rfl, hpf3, rfr⟩ := f3'.eTup
    have lfg := rfg.len
    have lfr := rfr.len
    rw [List.length_map] at lfg lfr
    have hmr := hm.rsz
    refine ⟨_, rfl, _, _, _, _, true, rfl, .ty _, .base (.tup hq), kit_ty (by decide +kernel), _, rfl, iteF ⟨_, rfl, q, _, rfl, .inr (SqT.of hq), rfl, _, rfl, ifF rfl ⟨_, rfl, q, _, _, _, rfl, rfl, SqT.of hq, atI_nat (j := 1) rfl, _, _, _, _, true, rfl, .ty _, .base (.tup hpc), kit_ty (by decide +kernel), _, rfl, iteF ⟨_, rfl, q, _, _, _, rfl, rfl, SqT.of hq, atI_nat (j := 1) rfl, pc, _, rfl, .inr (SqT.of hpc), _, rfl, _, _, rfl, rfl, _, rfl, ifF (decide_eq_false (by omega)) ?_⟩⟩⟩⟩
    refine ⟨_, rfl, q, _, _, _, rfl, rfl, SqT.of hq, rfl, ?_⟩
    -- inputs and outputs
    refine ⟨_, rfl, pf, _, _, _, rfl, rfl, SqT.of hpf, rfl, _, rfl, pf, _, _, _, rfl, rfl, SqT.of hpf, atI_nat (j := 3) rfl, sz5 (by simp), fun t1 ht1 => ?_⟩
    have g1 := Same.new ht1 (o := .tup [y1, y4])
    refine ⟨_, rfl, p, _, _, _, rfl, rfl, SqT.of ((e4.trans g1) _ _ hp3), rfl, _, rfl, p, _, _, _, rfl, rfl, SqT.of ((e4.trans g1) _ _ hp3), atI_nat (j := 3) rfl, sz5 (by simp), fun t2 ht2 => ?_⟩
    have g2 := Same.new ht2 (o := .tup [v1, v4])
    have hio : n.ins.length ≤ 1000 ∧ n.outs.length ≤ 1000 := by have h1 := hn.isz; have h2 := hn.osz; omega
    refine ⟨.tup [strsD n.ins, strsD n.outs], _, _, rfl, (dd_two (dd_strs hio.1) (dd_strs hio.2)).le (by decide), ?_, ?_, fun H5 e5 => ?_⟩
    · rw [hrf.ins] at f1'
      rw [hrf.outs] at f4'
      exact .tup (g2 _ _ upd_same) (.cons ((f1'.ex g1).ex g2) (.cons ((f4'.ex g1).ex g2) .nil))
    · exact .tup upd_same (.cons ((r13.ex (e4.trans g1)).ex g2) (.cons ((r43.ex (e4.trans g1)).ex g2) .nil))
    have e45 := (g1.trans g2).trans e5
    have e35 := e4.trans e45
    have rm5 := rf4.ex e45
    refine ⟨_, rfl, iteF ⟨_, rfl, _, m, rfl, rm5, hm, fun L6 us6 H6 e6 hL6 ru6 => ?_⟩⟩
    have e46 := e45.trans e6
    have e36 := e35.trans e6
    have hls : us6.length = m.gates.length := by
      have h1 := ru6.len
      rw [List.length_map] at h1
      rw [← h1]
      exact (sort_ok hm.sd).2.length_eq
    refine ⟨L6, _, rfl, .inl (SqL.of hL6), _, rfl, pf, _, _, _, rfl, rfl, SqT.of (e46 _ _ hpf), atI_nat (j := 1) rfl, pf2, _, rfl, .inr (SqT.of (e46 _ _ hpf2)), rfl, _, rfl, ifF ?_ ?_⟩
    · rw [hls, lfg]; simp
    -- the first values
    refine ⟨_, rfl, p, _, _, _, rfl, rfl, SqT.of (e36 _ _ hp3), atI_nat (j := 2) rfl, p3, rfl, ⟨_, SqT.of (e36 _ _ h33)⟩, fun L7 hL7 => ?_⟩
    have pair : ∀ {Hb : Hp} {l : List Reg} {us : List V} (rl : RepL Hb (l.map Reg.d) us) (i : Nat) (y : V) (dd : D) (H' : Hp) (Q' : VK) (σ : L2.St), Same Hb H' → us[i]? = some y → (l.map wfD)[i]? = some dd → (∀ v H'', Same H' H'' → Rep H'' dd v → Q' v H'') → σ[4]? = some (some y) →
        tTup (tCons (tOp (rIxT K) (tVar 4) (tC (.int 0))) (tCons (tOp (rIxT K) (tVar 4) (tC (.int 1))) tNil)) σ H' Q' := by
      intro Hb l us rl i y dd H' Q' σ e hy hdd kk hσ
      obtain ⟨r, hr', rrg⟩ := rl.at hy
      obtain ⟨qq, z1, z2, z3, rfl, hqq, u1, u2, u3⟩ := rrg.t3
      rw [u1.eStr, u2.eInt] at hqq
      rw [List.getElem?_map, hr'] at hdd
      cases hdd
      exact ⟨_, hσ, qq, _, _, _, rfl, rfl, SqT.of (e _ _ hqq), rfl, _, hσ, qq, _, _, _, rfl, rfl, SqT.of (e _ _ hqq), atI_nat (j := 1) rfl, sz5 (by simp), fun t ht => kk _ _ (Same.new ht) (.tup upd_same (.cons (.str _) (.cons (.int _) .nil)))⟩
    refine lc_data (walk_tup (xs := rs)) (n.regs.map wfD) (by rw [List.length_map]; exact lr) (by omega) hL7 (fun H' e => SqT.of (e _ _ (e36 _ _ h33))) ?_ ?_
    · rintro i y dd _ H' Q' hi e ⟨rfl, hy⟩ hdd kk
      exact ⟨rfl, pair (rr3.ex e36) i y dd H' Q' _ e hy hdd kk rfl⟩
    intro H7 ws7 e7 hL7' rws7
    refine ⟨L7, _, rfl, .inl ⟨SqL.of hL7', fun t8 ht8 => ?_⟩⟩
    have g8 := Same.new ht8 (o := .tup ws7)
    have r8 : Rep (upd H7 t8 (.tup ws7)) (.tup (n.regs.map wfD)) (.ref t8) := .tup upd_same (rws7.ex g8)
    have e68 := e7.trans g8
    generalize upd H7 t8 (.tup ws7) = H8 at r8 e68 ⊢
    have e48 := e46.trans e68
    refine ⟨_, rfl, pf, _, _, _, rfl, rfl, SqT.of (e48 _ _ hpf), atI_nat (j := 2) rfl, pf3, rfl, ⟨_, SqT.of (e48 _ _ hpf3)⟩, fun L9 hL9 => ?_⟩
    have hwf : m.regs.map wfD = n.regs.map wfD := by
      have h1 : ∀ l : List Reg, l.map wfD = (l.map fun r => (r.w, r.fi)).map fun q => D.tup [.str q.1, .int (b2i q.2)] := fun l => by rw [List.map_map]; rfl
      rw [h1, h1, hrf.regs]
    refine lc_data (walk_tup (xs := fr)) (n.regs.map wfD) (by rw [← hwf, List.length_map]; exact lfr) (by omega) hL9 (fun H' e => SqT.of (e _ _ (e48 _ _ hpf3))) ?_ ?_
    · rintro i y dd _ H' Q' hi e ⟨rfl, hy⟩ hdd kk
      rw [← hwf] at hdd
      exact ⟨rfl, pair (rfr.ex e48) i y dd H' Q' _ e hy hdd kk rfl⟩
    intro H9 ws9 e9 hL9' rws9
    refine ⟨L9, _, rfl, .inl ⟨SqL.of hL9', fun t10 ht10 => ?_⟩⟩
    have g10 := Same.new ht10 (o := .tup ws9)
    have r10 : Rep (upd H9 t10 (.tup ws9)) (.tup (n.regs.map wfD)) (.ref t10) := .tup upd_same (rws9.ex g10)
    have e810 := e9.trans g10
    generalize upd H9 t10 (.tup ws9) = H10 at r10 e810 ⊢
    refine ⟨_, rfl, .tup (n.regs.map wfD), _, _, rfl, (dd_map (f := wfD) (k := 1) (by omega) fun r _ => dd_two (k := 0) (a := .str r.w) (b := .int (b2i r.fi)) trivial trivial).le (by decide), r10, r8.ex e810, fun H11 e11 => ?_⟩
    refine ⟨_, rfl, iteF ?_⟩
    have e411 := (e48.trans e810).trans e11
    have e311 := e4.trans e411
    -- the runs that are due
    refine ⟨_, rfl, _, rfl, _, _, n, rows, rfl, rn.ex e311, hn, rrow.ex e311, hrl, hrz, fun qp lt lp dts pts ρs st' H12 e12 hqp hlt htk hrun => ?_⟩
    have e312 := e311.trans e12
    have lds : dts.length = rows.length := htk.1.trans hrun.len
    refine ⟨qp, _, _, _, rfl, rfl, SqT.of hqp, rfl, _, rfl, p, _, _, _, rfl, rfl, SqT.of (e312 _ _ hp3), atI_nat (j := 3) rfl, lt, v4, dts, n.outs, ρs, rfl, hlt, r43.ex e312, htk.sub fun y hy => hn.sd.outs y hy, by omega, by omega, fun vd H13 e13 rd => ?_⟩
    have hdue := hrun.all
    generalize (ρs.map fun ρ => n.outs.map ρ) = due at rd hdue
    have e313 := e312.trans e13
    refine ⟨_, rfl, _, rfl, _, rfl, _, _, _, n, bs, rows, rfl, rn.ex e313, hn, rb.ex e313, by omega, rrow.ex e313, hrl, hrz, fun vl H14 later e14 hlater rl => ?_⟩
    have e314 := e313.trans e14
    have e414 := ((e411.trans e12).trans e13).trans e14
    have rd14 := rd.ex e14
    obtain ⟨ld1, ld2⟩ := run_lens hdue
    obtain ⟨ll1, ll2⟩ := run_lens hlater
    have ddD : DD 5 (rowsD due) := (dd_rows (by omega) fun r hr => by rw [ld2 r hr]; omega).le (by decide)
    have ddL : DD 5 (rowsD later) := (dd_rows (by omega) fun r hr => by rw [ll2 r hr]; omega).le (by decide)
    -- both nets' runs
    refine ⟨_, rfl, _, rfl, sz5 (by simp), fun lo hlo => ?_⟩
    have g15 := Same.new hlo (o := .lst [.ref p, .ref pf])
    have hlo15 : (upd H14 lo (.lst [.ref p, .ref pf])) lo = some (.lst [.ref p, .ref pf]) := upd_same
    have e315 := e314.trans g15
    have e415 := e414.trans g15
    have rd15 := rd14.ex g15
    have rl15 := rl.ex g15
    generalize upd H14 lo (.lst [.ref p, .ref pf]) = H15 at hlo15 e315 e415 rd15 rl15 ⊢
    refine ⟨lo, rfl, ⟨_, SqL.of hlo15⟩, ?_⟩
    refine for_it (walk_list (xs := [.ref p, .ref pf])) (fun i σ H' => Same H15 H' ∧ ∃ o11, σ = [some (.ref a), some (.ref p), some vr, some (.ref tb), none, some (.int (lim : Int)), some (.ref q), some (.ref pf), some (.ref t8), some vd, some vl, o11, none]) ⟨Same.refl _, _, rfl⟩ (fun i σ H' _ h => SqL.of (h.1 _ _ hlo15)) ?_ ?_
    · rintro i y σ _ H16 hi ⟨e16, o11, rfl⟩ ⟨rfl, hy⟩
      have e316 := e315.trans e16
      have e416 := e415.trans e16
      have hnet : ∃ o : Net, Rep H16 o.d y ∧ NOk o ∧ o.ins = n.ins ∧ o.regs.length = n.regs.length ∧ o.regs.map (·.fi) = n.regs.map (·.fi) ∧ ∀ s os, RunR n s rows os → RunR o s rows os := by
        match i, hy with
        | 0, hy =>
          cases hy
          exact ⟨n, rn.ex e316, hn, rfl, rfl, rfl, fun _ _ h => h⟩
        | 1, hy =>
          cases hy
          refine ⟨m, rf4.ex e416, hm, hrf.ins, ?_, hrf.firsts, fun _ _ h => run_refi hrf h⟩
          have := congrArg List.length hrf.rw
          unfold Net.rw at this
          simpa using this
        | i + 2, hy => simp at hy
      obtain ⟨o, ro, ho, hoi, hor, hof, hrunO⟩ := hnet
      refine ⟨_, rfl, _, rfl, _, _, _, o, rows, o.regs.map (·.fi), rfl, ro, ho, rrow.ex e316, fun r hr => (hrl r hr).trans (by rw [hoi]), hrz, .inl ⟨rfl, rfl⟩, by rw [List.length_map], fun x H17 dx fs os v e17 hx hfs rv17 hru => ?_⟩
      have hos : os = due := run_unique ho.sd hru (by rw [hof]; exact hrunO _ _ hdue)
      subst hos
      refine ⟨x, C, dx, fs, v, rfl, hx, R_Run.cl, R_Run.a1, hfs, _, rfl, _, _, _, rfl, ddD, rv17, (rd15.ex e16).ex e17, fun H18 e18 => ?_⟩
      have e1618 := e17.trans e18
      refine ⟨_, rfl, iteF ⟨_, rfl, _, rfl, _, rfl, rfl, rfl, _, _, _, o, rows, bs, rfl, ro.ex e1618, ho, rrow.ex (e316.trans e1618), fun r hr => (hrl r hr).trans (by rw [hoi]), hrz, .inr (rb.ex (e316.trans e1618)), by omega, fun x2 H19 dx2 fs2 os2 v2 e19 hx2 hfs2 rv19 hru2 => ?_⟩⟩
      have hos2 : os2 = later := run_unique ho.sd hru2 (hrunO _ _ hlater)
      subst hos2
      refine ⟨x2, C, dx2, fs2, v2, rfl, hx2, R_Run.cl, R_Run.a1, hfs2, _, rfl, _, _, _, rfl, ddL, rv19, ((rl15.ex e16).ex e1618).ex e19, fun H20 e20 => ?_⟩
      exact ⟨_, rfl, ifF rfl ⟨(e16.trans e1618).trans (e19.trans e20), _, rfl⟩⟩
    rintro σ H16 ⟨e16, o11, rfl⟩
    have e316 := e315.trans e16
    have e416 := e415.trans e16
    -- the law's run of the rewritten net
    refine ⟨_, rfl, _, rfl, _, _, m, rows, rfl, rf4.ex e416, hm, rrow.ex e316, fun r hr => (hrl r hr).trans (by rw [hrf.ins]), hrz, fun qp2 lt2 lp2 dts2 pts2 ρs2 st2 H17 e17 hqp2 hlt2 htk2 hrun2 => ?_⟩
    have e317 := e316.trans e17
    have lds2 : dts2.length = rows.length := htk2.1.trans hrun2.len
    refine ⟨qp2, _, _, _, rfl, rfl, SqT.of hqp2, rfl, _, rfl, p, _, _, _, rfl, rfl, SqT.of (e317 _ _ hp3), atI_nat (j := 3) rfl, lt2, v4, dts2, n.outs, ρs2, rfl, hlt2, r43.ex e317, htk2.sub fun y hy => hm.sd.outs y (by rw [hrf.outs]; exact hy), by omega, by omega, fun vd2 H18 e18 rd2 => ?_⟩
    have hdue2 : (ρs2.map fun ρ => n.outs.map ρ) = due := by
      have h1 := hrun2.all
      rw [hrf.outs] at h1
      refine run_unique hm.sd h1 ?_
      rw [hrf.firsts]
      exact run_refi hrf hdue
    rw [hdue2] at rd2
    have e1618 := e17.trans e18
    refine ⟨_, rfl, neD_rows rd2 ((rd15.ex e16).ex e1618) ⟨_, rfl, ifF rfl ?_⟩⟩
    refine ⟨_, rfl, _, rfl, _, rfl, _, _, _, m, bs, rows, rfl, rf4.ex (e416.trans e1618), hm, rb.ex (e316.trans e1618), ?_, rrow.ex (e316.trans e1618), fun r hr => (hrl r hr).trans (by rw [hrf.ins]), hrz, fun vl2 H19 later2 e19 hlater2 rl2 => ?_⟩
    · have := congrArg List.length hrf.rw
      unfold Net.rw at this
      rw [List.length_map, List.length_map] at this
      omega
    have hl2 : later2 = later := run_unique hm.sd hlater2 (run_refi hrf hlater)
    subst hl2
    have e1619 := e1618.trans e19
    refine ⟨_, rfl, neD_rows rl2 ((rl15.ex e16).ex e1619) ⟨_, rfl, ifF rfl ?_⟩⟩
    have e319 := e316.trans e1619
    have e419 := e416.trans e1619
    -- the trail
    refine ⟨_, rfl, _, rfl, q, _, _, _, rfl, rfl, SqT.of (e419 _ _ hq), atI_nat (j := 1) rfl, _, _, n, m, ch, rfl, rn.ex e319, hn, q1'.ex e419, by omega, hg, fun vp H20 msl e20 hml hm0 hmc rp => ?_⟩
    have e420 := e419.trans e20
    obtain ⟨pp, ps', rfl, hpp, rps⟩ := rp.eTup
    have lps := rps.len
    rw [List.length_map, hml] at lps
    refine ⟨_, rfl, _, _, _, _, true, rfl, .ty _, .base (.tup hpp), kit_ty (by decide +kernel), _, rfl, iteF ⟨_, rfl, pp, _, rfl, .inr (SqT.of hpp), _, rfl, q, _, _, _, rfl, rfl, SqT.of (e420 _ _ hq), atI_nat (j := 1) rfl, pc, _, rfl, .inr (SqT.of (e420 _ _ hpc)), _, _, rfl, rfl, rfl, _, rfl, ifF ?_ ?_⟩⟩
    · rw [← lps, ← lc]; simp
    obtain ⟨u0, hu0, ru0⟩ := rps.get (i := 0) (d := n.d) (by rw [List.getElem?_map, hm0]; rfl)
    obtain ⟨uc, huc, ruc⟩ := rps.get (i := ch.length) (d := m.d) (by rw [List.getElem?_map, hmc]; rfl)
    rw [lc] at huc
    refine ⟨_, rfl, pp, _, _, _, rfl, rfl, SqT.of hpp, atI_nat (j := 0) hu0, _, rfl, _, rfl, q, _, _, _, rfl, rfl, SqT.of (e420 _ _ hq), atI_nat (j := 1) rfl, pc, _, rfl, .inr (SqT.of (e420 _ _ hpc)), pp, _, _, _, rfl, rfl, SqT.of hpp, atI_nat (j := cs.length) huc, sz5 (by simp), fun t21 ht21 => ?_⟩
    have g21 := Same.new ht21 (o := .tup [u0, uc])
    refine ⟨_, rfl, _, rfl, sz5 (by simp), fun t22 ht22 => ?_⟩
    have g22 := Same.new ht22 (o := .tup [.ref p, .ref pf])
    have e2022 := g21.trans g22
    refine ⟨.tup [n.d, m.d], _, _, rfl, dd_two (dd_net hn) (dd_net hm), .tup (g22 _ _ upd_same) (.cons (ru0.ex e2022) (.cons (ruc.ex e2022) .nil)), .tup upd_same (.cons (rn.ex ((e319.trans e20).trans e2022)) (.cons (rf4.ex (e420.trans e2022)) .nil)), fun H23 e23 => ?_⟩
    refine ⟨_, rfl, ifF rfl ?_⟩
    have e423 := (e420.trans e2022).trans e23
    have e323 := ((e319.trans e20).trans e2022).trans e23
    refine ⟨_, rfl, q, _, _, _, rfl, rfl, SqT.of (e423 _ _ hq), atI_nat (j := 1) rfl, pc, _, rfl, .inr (SqT.of (e423 _ _ hpc)), _, rfl, rfl, _, rfl, ?_⟩
    refine if2 (fun hz => ?_) (fun hz => ?_)
    · exact k _ (e03.trans e323.kp)
    · have hcl2 : ¬ ch.length = lim := fun z => by
        have := of_decide_eq_false hz
        exact this (by rw [← lc, z])
      rcases hset with z | z
      · exact absurd z hcl2
      refine ⟨_, rfl, m, _, rfl, rf4.ex e423, hm, fun H24 e24 => ⟨_, _, rfl, rfl, ?_⟩⟩
      rw [z]
      exact k _ (e03.trans (e323.trans e24).kp)
end
end Wi
set_option maxHeartbeats 4000000
set_option maxRecDepth 100000
namespace Wi
open PySem L2 PySem.Spec PyProof.Rows
/-! V13: the law -/
theorem if_cut {tc : TT} {ta tu tb : TS} {D : Ends} {σ : L2.St} {H : Hp} (I : L2.St → Hp → Prop) (h1 : ∀ N : L2.St → Hp → Prop, (∀ σ' H', I σ' H' → N σ' H') → tIfS tc ta tu { D with nx := N } σ H) (h2 : ∀ σ' H', I σ' H' → tb D σ' H') : tSeq (tIfS tc ta tu) tb D σ H := h1 _ h2
theorem gn_cut {i : Nat} {x : V} {σ : L2.St} {H : Hp} {k : L2.St → Hp → Prop} (h : k (σ.set i (some x)) H) : gName i x σ H k := h
theorem atI_of {xs : List V} {i : Int} {j : Nat} {x : V} (e : i = (j : Int)) (h : xs[j]? = some x) : atI xs i = some x := e ▸ atI_nat h
theorem pass_none {P : Program} {w : World} {X : Cx} : Passes (L2.CX P w) X E0 := fun _ _ _ _ _ _ _ c => by
  obtain ⟨_, _, _, _, _, _, _, _, _, _, _, _, h⟩ := c
  exact h.elim
theorem desOk_snoc {ds : List Mod} {m : Mod} (D : DesOk ds) (h : MOk ds m) : DesOk (ds ++ [m]) := fun i u hu => by
  by_cases hlt : i < ds.length
  · rw [List.getElem?_append_left hlt] at hu
    rw [List.take_append_of_le_length (Nat.le_of_lt hlt)]
    exact D i u hu
  · have ei : i = ds.length := by
      have h1 := (List.getElem?_eq_some_iff.mp hu).1
      rw [List.length_append, List.length_singleton] at h1
      omega
    subst ei
    rw [List.getElem?_append_right (Nat.le_refl _)] at hu
    have ex : m = u := by simpa using hu
    subst ex
    rw [List.take_append_of_le_length (Nat.le_refl _), List.take_length]
    exact h
/-! ### how large a visit is -/
def bnd : Nat → Nat
  | 0 => 0
  | i + 1 => 10 * (10 + bnd i)
theorem bnd_le {i j : Nat} (h : i ≤ j) : bnd i ≤ bnd j := by
  induction h with
  | refl => exact Nat.le_refl _
  | step _ ih =>
    refine Nat.le_trans ih ?_
    show _ ≤ 10 * (10 + _)
    omega
theorem sum_le {α : Type} (f : α → Nat) (b : Nat) : ∀ l : List α, (∀ x ∈ l, f x ≤ b) → (l.map f).sum ≤ l.length * b
  | [], _ => Nat.zero_le _
  | x :: r, h => by
    rw [List.map_cons, List.sum_cons, List.length_cons, Nat.add_mul, Nat.one_mul]
    have h1 := h x (List.mem_cons_self ..)
    have h2 := sum_le f b r fun y hy => h y (List.mem_cons_of_mem _ hy)
    omega
theorem sizeV_le {ds : List Mod} (D : DOk ds) : ∀ (k i : Nat) (m : Mod), ds[i]? = some m → sizeV ds k m ≤ bnd (i + 1)
  | 0, _, _, _ => Nat.zero_le _
  | k + 1, i, m, hm => by
    have z := (D.nm m (List.mem_of_getElem? hm)).sz.items
    have h : ∀ it ∈ m.items, itemSz ds (sizeV ds k) it ≤ 10 + bnd i := fun it hit => by
      cases it with
      | gate => show 1 ≤ _; omega
      | reg x fi sg wh cl =>
        show 1 + (if wh.isSome then 1 else 0) + (if cl.isSome then 2 else 0) ≤ _
        split <;> split <;> omega
      | use x md sg =>
        obtain ⟨u, hu, _⟩ := (D.ok i m hm).ok _ hit
        obtain ⟨j, hj, hju⟩ := mod_ix hu
        have h1 := sizeV_le D k j u hju
        have h2 : bnd (j + 1) ≤ bnd i := bnd_le (by omega)
        have h3 := (D.nm u (List.mem_of_getElem? hju)).sz.ins
        show (match modAt ds md with
          | some u => u.ins.length + sizeV ds k u
          | none => 0) ≤ _
        rw [modAt_take hu]
        show u.ins.length + sizeV ds k u ≤ _
        omega
    have h1 := sum_le _ _ m.items h
    show (m.items.map (itemSz ds (sizeV ds k))).sum ≤ 10 * (10 + bnd i)
    exact Nat.le_trans h1 (Nat.mul_le_mul_right _ z)
/-! ### what is told, if the top is known -/
theorem ans_size {ds : List Mod} {o : Option S} {d : D} {m : Mod} (A : Ans ds true o d) (h : selM ds o = some m) (hk : ∀ t, o = some t → t ∈ ds.map (·.nm)) : d = .tup [.str "told", .int ((sizeV ds 10 m : Nat) : Int)] := by
  cases A with
  | size m' h' s => rw [h] at h'; cases h'; rfl
  | net m' h' s z => cases s
  | big m' h' s z => cases s
  | unk t h' n => exact absurd (hk t h') n
theorem ans_flat {ds : List Mod} {o : Option S} {d : D} {m : Mod} (A : Ans ds false o d) (h : selM ds o = some m) (hk : ∀ t, o = some t → t ∈ ds.map (·.nm)) : (sizeV ds 10 m ≤ 200 ∧ d = .tup [.str "told", (flatN ds 10 m).d]) ∨ (200 < sizeV ds 10 m ∧ d = .tup [.str "large", .str "gates", .int 200, .bl false]) := by
  cases A with
  | size m' h' s => cases s
  | net m' h' s z => rw [h] at h'; cases h'; exact .inl ⟨z, rfl⟩
  | big m' h' s z => rw [h] at h'; cases h'; exact .inr ⟨z, rfl⟩
  | unk t h' n => exact absurd (hk t h') n
theorem sel_not {ds : List Mod} {x : S} (h : x ∉ ds.map (·.nm)) : selM ds (some x) = none := by
  show modAt ds x = none
  cases e : modAt ds x with
  | none => rfl
  | some u =>
    obtain ⟨h1, h2⟩ := modAt_some e
    exact absurd (List.mem_map.mpr ⟨u, h1, h2⟩) h
theorem ans_unk {ds : List Mod} {b : Bool} {x : S} {d : D} (A : Ans ds b (some x) d) (h : x ∉ ds.map (·.nm)) : d = .tup [.str "unknown", .str x, .bl false] := by
  have hn := sel_not h
  cases A with
  | size m' h' s => rw [hn] at h'; cases h'
  | net m' h' s z => rw [hn] at h'; cases h'
  | big m' h' s z => rw [hn] at h'; cases h'
  | unk t h' n => cases h'; rfl
theorem inV_vals (x : S) (l : List S) : L2.inV (V.str x) (l.map V.str) = decide (x ∈ l) := inV_str x l
/-- THE RULE of a def that raises nothing, over every base -/
theorem Df.calU {P : Program} {w : World} {K : PySem.W.Frag} {mg : Str → Option Value} {g x : Str} {i k : Nat} {N ps : List Str} {sp : Sp} (D : Df K mg g x i) (S : FnScope N ps (defScope (top i))) (len : ∀ vs H Q E, sp vs H Q E → vs.length = ps.length)
    (hb : ∀ (kV doc pm : Value) (an : Option Addr) (cdv ct : Value) (us : List Value), us.length = ps.length → bindArgs (PySem.W.fnOf x x (defArgs (top i)) (defBody (top i)) (defScope (top i)) .none kV doc pm an cdv ct) ⟨us, []⟩ = pure (ps.zip us))
    (hbody : ∀ (base : Heap) (f : Addr) (cdv : Value) (A : Around) (outer : List Env) (s : Shared) (H : Hp) (vs : List V) (Q : VK) (E : XK), Room k (A.deeper (envOfC x (defScope (top i)) s.heap.objs.size f cdv)) → sp vs H Q E →
      ∃ t, PSs (cxOf CX0 P w K mg base N x (defScope (top i)) f cdv A outer s H E).nox (defBody (top i)) t ∧ t { nx := fun _ H' => Q .non H', rt := Q } (start N vs) H) : ∃ f fd, (∀ base, FnOk P w K mg base CX0 (k + 1) f fd ps sp) ∧ mg g = some (.ref f) ∧ ∀ (s : Shared) (us : List Value), us.length = ps.length → BindsTo s fd ⟨us, []⟩ (ps.zip us) := by
  obtain ⟨f, fd, F, hg⟩ := D.ex
  refine ⟨f, fd, fun base => F.ok S len fun cdv A outer s H vs Q E hr h => ?_, hg, FunD.bindsA F hb⟩
  obtain ⟨t, h1, h2⟩ := hbody base f cdv A outer s H vs Q E hr h
  exact ⟨t, h1.nox, h2⟩
section
variable {w : World} {K : PySem.W.Frag} {mg : Str → Option Value}
theorem sc_law : FnScope ["_law_script", "_law_store_here", "_law_labels_here", "_law_design", "_law_k", "_law_given", "_law_label", "_law_sized", "_law_told", "_law_module", "_law_unknown", "_law_net", "_law_many", "_law_rows"] ["_law_script"] (defScope (top 121)) :=
  ⟨rfl, rfl, rfl, by decide +kernel, rfl, by decide +kernel, by decide +kernel⟩
def spLaw (K : PySem.W.Frag) : Sp := fun vs H Q _ => ∃ (l : Addr) (ns : List Int), vs = [.ref l] ∧ SqL K H l (ns.map V.int) ∧ ns.length ≤ 1000 ∧ ∀ H', Q (.bl true) H'
theorem cal_law (F : Df K mg "law" "law" 121) (B : Bl mg) (C_law_store : ∀ base : Heap, Cal PySem.Challenge.pw_wirewatch_k95_whole_flat_and_rewritten w K mg base CX0 2 "_law_store" ["_law_script"] (spStore K)) (C_law_take : ∀ base : Heap, Cal PySem.Challenge.pw_wirewatch_k95_whole_flat_and_rewritten w K mg base CX0 2 "_law_take" ["_law_store_here", "_law_many"] spTake)
    (C_law_pick : ∀ base : Heap, Cal PySem.Challenge.pw_wirewatch_k95_whole_flat_and_rewritten w K mg base CX0 3 "_law_pick" ["_law_store_here", "_law_row"] spPick) (C_law_chance : ∀ base : Heap, Cal PySem.Challenge.pw_wirewatch_k95_whole_flat_and_rewritten w K mg base CX0 3 "_law_chance" ["_law_store_here", "_law_many"] spChance) (C_law_labels : ∀ base : Heap, Cal PySem.Challenge.pw_wirewatch_k95_whole_flat_and_rewritten w K mg base CX0 4 "_law_labels" ["_law_store_here", "_law_many", "_law_dotted"] spLabels)
    (C_law_slim_module : ∀ base : Heap, Cal PySem.Challenge.pw_wirewatch_k95_whole_flat_and_rewritten w K mg base CX0 5 "_law_slim_module" ["_law_store_here", "_law_text", "_law_design"] spSlimM) (C_law_asked : ∀ base : Heap, Cal PySem.Challenge.pw_wirewatch_k95_whole_flat_and_rewritten w K mg base (L2.CX PySem.Challenge.pw_wirewatch_k95_whole_flat_and_rewritten w) 14 "_law_asked" ["_law_sized", "_law_design", "_law_given", "_law_label"] spAsked)
    (C_law_alike : ∀ base : Heap, Cal PySem.Challenge.pw_wirewatch_k95_whole_flat_and_rewritten w K mg base CX0 7 "_law_alike" ["_law_actual", "_law_due"] (spA 6)) (C_law_flat : ∀ base : Heap, Cal PySem.Challenge.pw_wirewatch_k95_whole_flat_and_rewritten w K mg base CX0 13 "_law_flat" ["_law_design", "_law_label"] spLFlat) (C_law_bit_rows : ∀ base : Heap, Cal PySem.Challenge.pw_wirewatch_k95_whole_flat_and_rewritten w K mg base CX0 3 "_law_bit_rows" ["_law_store_here", "_law_count", "_law_many"] spBitR)
    (C_law_rewritten_right : ∀ base : Heap, Cal PySem.Challenge.pw_wirewatch_k95_whole_flat_and_rewritten w K mg base CX0 10 "_law_rewritten_right" ["_law_store_here", "_law_net", "_law_rows"] spRR) : ∃ f fd, (∀ base : Heap, FnOk PySem.Challenge.pw_wirewatch_k95_whole_flat_and_rewritten w K mg base CX0 15 f fd ["_law_script"] (spLaw K)) ∧ mg "law" = some (.ref f) ∧ ∀ (s : Shared) (us : List Value), us.length = 1 → BindsTo s fd ⟨us, []⟩ (List.zip ["_law_script"] us) := by
  refine F.calU sc_law (fun vs H Q E h => ?_) (fun _ _ _ _ _ _ us hl => match us, hl with | [_], _ => rfl) (fun base f cdv A outer s H vs Q E hr h => ?_)
  · obtain ⟨_, _, rfl, _⟩ := h
    rfl
  · obtain ⟨l, ns, rfl, hl, hz, k⟩ := h
    have C_law_store := C_law_store base
    have C_law_take := C_law_take base
    have C_law_pick := C_law_pick base
    have C_law_chance := C_law_chance base
    have C_law_labels := C_law_labels base
    have C_law_slim_module := C_law_slim_module base
    have C_law_asked := C_law_asked base
    have C_law_alike := C_law_alike base
    have C_law_flat := C_law_flat base
    have C_law_bit_rows := C_law_bit_rows base
    have C_law_rewritten_right := C_law_rewritten_right base
    refine ⟨_, (pss_cons (ps_set (i := 1) sc_law.nd rfl (Or.inl rfl) (pe_callC C_law_store (hr.mono (by decide)) rfl pass0 (pa_cons (pv 0) pa_nil)))
      (pss_cons (ps_set (i := 2) sc_law.nd rfl (Or.inl rfl) (pe_callC C_law_labels (hr.mono (by decide)) rfl pass0 (pa_cons (pv 1) (pa_cons pe_int (pa_cons pe_bl pa_nil)))))
      (pss_cons (ps_set (i := 3) sc_law.nd rfl (Or.inl rfl) (pe_tup pa_nil))
      (pss_cons (ps_for PassesOwn.never rfl (pi_range1 rfl B.range (pa_cons (pe_op op_add pe_int (pe_callC C_law_take (hr.mono (by decide)) rfl pass0 (pa_cons (pv 1) (pa_cons pe_int pa_nil)))) pa_nil)) (pg_name (i := 4) sc_law.nd rfl (Or.inl rfl))
        (pss_one (ps_set (i := 3) sc_law.nd rfl (Or.inl rfl) (pe_op op_catS3 (pv 3) (pe_tup (pa_cons (pe_callC C_law_slim_module (hr.mono (by decide)) rfl pass0 (pa_cons (pv 1) (pa_cons (pe_ix (r := rIxL K) ix_list (pv 2) (pv 4) (fun _ _ => rfl)) (pa_cons (pv 3) pa_nil)))) pa_nil))))))
      (pss_cons (ps_set (i := 5) sc_law.nd rfl (Or.inl rfl) (pe_callC C_law_chance (hr.mono (by decide)) rfl pass0 (pa_cons (pv 1) (pa_cons pe_int pa_nil))))
      (pss_cons (ps_set (i := 6) sc_law.nd rfl (Or.inl rfl) (pe_ix (r := rIxT K) ix_tup (pe_ix (r := rIxT K) ix_tup (pv 3) (pe_op op_sub (pe_callB call_len_seq rfl B.len PySem.boot_len (pa_cons (pv 3) pa_nil)) pe_int) (fun _ _ => rfl)) pe_int (fun _ _ => rfl)))
      (pss_cons (ps_if (pt_val (pv 5))
        (pss_one (ps_set (i := 6) sc_law.nd rfl (Or.inl rfl) (pe_callC C_law_pick (hr.mono (by decide)) rfl pass0 (pa_cons (pv 1) (pa_cons (pe_lst (pa_cons pe_non (pa_cons (pe_ix (r := rIxL K) ix_list (pv 2) pe_int (fun _ _ => rfl)) (pa_cons (pe_ix (r := rIxL K) ix_list (pv 2) (pe_op op_sub (pe_callB call_len_seq rfl B.len PySem.boot_len (pa_cons (pv 3) pa_nil)) pe_int) (fun _ _ => rfl)) (pa_cons (pe_ix (r := rIxL K) ix_list (pv 2) (pe_op op_fdiv (pe_callB call_len_seq rfl B.len PySem.boot_len (pa_cons (pv 3) pa_nil)) pe_int) (fun _ _ => rfl)) (pa_cons (pe_ix (r := rIxL K) ix_list (pv 2) pe_int (fun _ _ => rfl)) (pa_cons pe_str pa_nil))))))) pa_nil)))))
        pss_nil)
      (pss_cons (ps_set (i := 7) sc_law.nd rfl (Or.inl rfl) (pe_callC (E := E0) C_law_asked (hr.mono (by decide)) rfl pass_none (pa_cons pe_bl (pa_cons (pv 3) (pa_cons (pv 5) (pa_cons (pv 6) pa_nil))))))
      (pss_cons (ps_set (i := 8) sc_law.nd rfl (Or.inl rfl) (pe_callC (E := E0) C_law_asked (hr.mono (by decide)) rfl pass_none (pa_cons pe_bl (pa_cons (pv 3) (pa_cons (pv 5) (pa_cons (pv 6) pa_nil))))))
      (pss_cons (ps_if (pt_cmpR op_isN (pv 6) pe_non (nomark _))
        (pss_one (ps_set (i := 6) sc_law.nd rfl (Or.inl rfl) (pe_ix (r := rIxT K) ix_tup (pe_ix (r := rIxT K) ix_tup (pv 3) (pe_op op_sub (pe_callB call_len_seq rfl B.len PySem.boot_len (pa_cons (pv 3) pa_nil)) pe_int) (fun _ _ => rfl)) pe_int (fun _ _ => rfl))))
        pss_nil)
      (pss_cons (ps_if (pt_cmpR op_notIn_seq (pv 6) (pe_lc (own := [("_law_module", 9)]) rfl sc_law.nd (pi_tup (pv 3)) (blkOk_by (N := ["_law_script", "_law_store_here", "_law_labels_here", "_law_design", "_law_k", "_law_given", "_law_label", "_law_sized", "_law_told", "_law_module", "_law_unknown", "_law_net", "_law_many", "_law_rows"]) (sc := defScope (top 121)) (own := [("_law_module", 9)]) (by decide +kernel)) (fun _ _ _ _ _ => (pg_name (i := 9) sc_law.nd rfl (Or.inl rfl))) (fun _ _ _ _ _ => pts_nil) (fun _ _ _ _ _ => (pe_ix (r := rIxT K) ix_tup (pv 9) pe_int (fun _ _ => rfl)))) (by rfl))
        (pss_cons (ps_set (i := 10) sc_law.nd rfl (Or.inl rfl) (pe_tup (pa_cons pe_str (pa_cons (pv 6) (pa_cons pe_bl pa_nil)))))
        (pss_one (ps_ret (pe_and (pe_callC C_law_alike (hr.mono (by decide)) rfl pass0 (pa_cons (pv 7) (pa_cons (pv 10) pa_nil))) (pe_one (pe_callC C_law_alike (hr.mono (by decide)) rfl pass0 (pa_cons (pv 8) (pa_cons (pv 10) pa_nil))))))))
        pss_nil)
      (pss_cons (ps_set (i := 11) sc_law.nd rfl (Or.inl rfl) (pe_callC C_law_flat (hr.mono (by decide)) rfl pass0 (pa_cons (pv 3) (pa_cons (pv 6) pa_nil))))
      (pss_cons (ps_set (i := 12) sc_law.nd rfl (Or.inl rfl) (pe_op op_add (pe_callB call_len_seq rfl B.len PySem.boot_len (pa_cons (pe_ix (r := rIxT K) ix_tup (pv 11) pe_int (fun _ _ => rfl)) pa_nil)) (pe_callB call_len_seq rfl B.len PySem.boot_len (pa_cons (pe_ix (r := rIxT K) ix_tup (pv 11) pe_int (fun _ _ => rfl)) pa_nil))))
      (pss_cons (ps_if (pt_not (pt_val (pe_callC C_law_alike (hr.mono (by decide)) rfl pass0 (pa_cons (pv 7) (pa_cons (pe_tup (pa_cons pe_str (pa_cons (pv 12) pa_nil))) pa_nil)))))
        (pss_one (ps_ret pe_bl))
        pss_nil)
      (pss_cons (ps_if (pt_cmpR op_gt (pv 12) pe_int (nomark _))
        (pss_one (ps_ret (pe_callC C_law_alike (hr.mono (by decide)) rfl pass0 (pa_cons (pv 8) (pa_cons (pe_tup (pa_cons pe_str (pa_cons pe_str (pa_cons pe_int (pa_cons pe_bl pa_nil))))) pa_nil)))))
        pss_nil)
      (pss_cons (ps_set (i := 13) sc_law.nd rfl (Or.inl rfl) (pe_callC C_law_bit_rows (hr.mono (by decide)) rfl pass0 (pa_cons (pv 1) (pa_cons (pe_callB call_len_seq rfl B.len PySem.boot_len (pa_cons (pe_ix (r := rIxT K) ix_tup (pv 11) pe_int (fun _ _ => rfl)) pa_nil)) (pa_cons (pe_callC C_law_take (hr.mono (by decide)) rfl pass0 (pa_cons (pv 1) (pa_cons pe_int pa_nil))) pa_nil)))))
      (pss_one (ps_ret (pe_and (pe_callC C_law_alike (hr.mono (by decide)) rfl pass0 (pa_cons (pv 8) (pa_cons (pe_tup (pa_cons pe_str (pa_cons (pv 11) pa_nil))) pa_nil))) (pe_one (pe_callC C_law_rewritten_right (hr.mono (by decide)) rfl pass0 (pa_cons (pv 1) (pa_cons (pe_ix (r := rIxT K) ix_tup (pv 8) pe_int (fun _ _ => rfl)) (pa_cons (pv 13) pa_nil)))))))))))))))))))))))), ?_⟩
    refine ⟨_, rfl, l, ns, rfl, hl, hz, fun a c H1 e1 ha0 s1 => ?_⟩
    refine ⟨_, rfl, a, c, 4, rfl, s1, by decide, fun LL TL H2 hll hnm hnd e2 s2 hT0 hT => ?_⟩
    have hTa : TL ≠ a := s1.ne hT0
    refine ⟨sz5 (by simp), fun d0 hd0 => ?_⟩
    have f3 := Same.new hd0 (o := .tup [])
    have s3 := s2.same f3
    have hT3 := f3 _ _ hT
    have hd3 : (upd H2 d0 (.tup [])) d0 = some (.tup []) := upd_same
    generalize upd H2 d0 (.tup []) = H3 at f3 s3 hT3 hd3 ⊢
    refine ⟨_, rfl, a, c, 3, rfl, s3, by decide, fun j0 H4 hj0 e4 s4 => ?_⟩
    have hj02 : j0 ≤ 2 := by omega
    have hT4 := e4 _ _ hT3 hTa
    have hpa : ∀ {H' : Hp} {b : Addr} {xs : List V}, Sto H' a c → H' b = some (.tup xs) → b ≠ a := fun s h z => by obtain ⟨l, hl⟩ := s.lst; rw [z, hl] at h; cases h
    have hd4 := e4 _ _ hd3 (hpa s3 hd3)
    refine ⟨_, _, rfl, rfl, _, rfl, by omega, by omega, ?_⟩
    rw [show ((1 : Int) + (j0 : Int)).toNat = j0 + 1 from by omega]
    refine for_it (walk_r0 (n := j0 + 1)) (fun i σ H' => Kp a H4 H' ∧ Sto H' a c ∧ ∃ (ds : List Mod) (pd : Addr) (us : List V) (o4 : Option V), H' pd = some (.tup us) ∧ RepL H' (ds.map Mod.d) us ∧ DOk ds ∧ ds.map (·.nm) = LL.take i ∧ ds.length = i ∧ σ = [some (.ref l), some (.ref a), some (.ref TL), some (.ref pd), o4, none, none, none, none, none, none, none, none, none])
      ⟨Kp.refl, s4, [], d0, [], _, hd4, .nil, ⟨fun i m h => by simp at h, fun _ h => (nomatch h), by decide⟩, by rw [List.take_zero]; rfl, rfl, rfl⟩ (fun _ _ _ _ _ => True.intro) ?_ ?_
    · rintro i y σ _ H5 hi ⟨e5, s5, ds, pd, us, o4, hpd, rds, D, hdn, hdl, rfl⟩ ⟨rfl, rfl⟩
      have hT5 := e5 _ _ hT4 hTa
      obtain ⟨x, hx⟩ : ∃ x, LL[i]? = some x := ⟨_, List.getElem?_eq_getElem (by omega)⟩
      have lus := rds.len
      rw [List.length_map] at lus
      refine ⟨_, rfl, _, rfl, _, rfl, _, rfl, TL, _, _, _, rfl, rfl, SqL.of hT5, atI_nat (j := i) (by rw [List.getElem?_map, hx]; rfl), _, rfl, a, c, x, _, ds, rfl, s5, hnm x (List.mem_of_getElem? hx), by rw [hdn]; exact nd_at hnd hx, .tup hpd rds, D, fun m v' H6 hmn hmok hmm e6 s6 rm => ⟨sz5 (by simp), fun t ht => ?_⟩⟩
      have f7 := Same.new ht (o := .tup [v'])
      have tx6 : Tx H5 H6 := s5.tx e6
      have hpd7 := f7 _ _ (tx6 _ _ hpd)
      refine ⟨pd, t, _, _, rfl, rfl, hpd7, upd_same, sz5 (by show us.length + 1 ≤ 100000; omega), fun cc H8 e8 hcc => ?_⟩
      refine ⟨(e5.trans e6).trans (f7.trans e8).kp, s6.same (f7.trans e8), ds ++ [m], cc, _, _, hcc, ?_, ⟨desOk_snoc D.ok hmok, fun u hu => ?_, by rw [List.length_append, List.length_singleton]; omega⟩, ?_, by rw [List.length_append, List.length_singleton, hdl], rfl⟩
      · rw [List.map_append]
        exact (((rds.tx tx6).ex f7).ex e8).app (.one ((rm.ex f7).ex e8))
      · rcases List.mem_append.mp hu with q | q
        · exact D.nm u q
        · rw [List.mem_singleton.mp q]; exact hmm
      · rw [List.map_append, hdn, take_succ hx, ← hmn]; rfl
    rintro σ H5 ⟨e5, s5, ds, pd, us, o4, hpd, rds, D, hdn, hdl, rfl⟩
    have lus := rds.len
    rw [List.length_map] at lus
    have hT5 := e5 _ _ hT4 hTa
    have rdes : Rep H5 (desD ds) (.ref pd) := .tup hpd rds
    have hne : ds ≠ [] := fun z => by rw [z] at hdl; simp at hdl
    obtain ⟨ml, hml⟩ : ∃ m, ds.getLast? = some m := Option.isSome_iff_exists.mp (by rw [List.getLast?_isSome]; exact hne)
    have hmix : ds[ds.length - 1]? = some ml := by rw [← List.getLast?_eq_getElem?]; exact hml
    have hLt : ∀ x ∈ LL, x.length ≤ 300 := fun x hx => by have := name_len (hnm x hx); omega
    have hLv : ∀ i, i < 4 → ∃ x, (LL.map V.str)[i]? = some (.str x) ∧ x ∈ LL := fun i hi => ⟨LL[i], by rw [List.getElem?_map, List.getElem?_eq_getElem (by omega)]; rfl, List.getElem_mem _⟩
    have hmll : ml.nm ∈ LL := by
      have : ml.nm ∈ ds.map (·.nm) := List.mem_map_of_mem (List.mem_of_getElem? hmix)
      rw [hdn] at this
      exact List.mem_of_mem_take this
    -- design[len(design) - 1][0]
    have last : ∀ (H' : Hp) (Q' : VK) (σ : L2.St), H' pd = some (.tup us) → RepL H' (ds.map Mod.d) us → σ[3]? = some (some (V.ref pd)) → Q' (.str ml.nm) H' → tOp (rIxT K) (tOp (rIxT K) (tVar 3) (tOp (rI0 fun i j => .int (i - j)) (tCB (fun xs H Q => ∃ p ys, xs = [V.ref p] ∧ (SqL K H p ys ∨ SqT K H p ys) ∧ Q (.int ys.length) H) (tCons (tVar 3) tNil)) (tC (.int 1)))) (tC (.int 0)) σ H' Q' := by
      intro H' Q' σ h1 h2 h3 q
      obtain ⟨u, hu, ru⟩ := h2.get (i := ds.length - 1) (d := ml.d) (by rw [List.getElem?_map, hmix]; rfl)
      obtain ⟨pm, q1, q2, q3, uus, rfl, hpm, _⟩ := ru.modT
      exact ⟨_, h3, _, h3, pd, _, rfl, .inr (SqT.of h1), _, _, rfl, rfl, pd, _, _, _, rfl, rfl, SqT.of h1, atI_of (j := ds.length - 1) (by omega) hu, pm, _, _, _, rfl, rfl, SqT.of hpm, rfl, q⟩
    refine ⟨_, rfl, a, c, 2, rfl, s5, by decide, fun given H6 e6 s6 => ?_⟩
    have hpd6 := e6 _ _ hpd (hpa s5 hpd)
    have rds6 := rds.tx (s5.tx e6)
    have hT6 := e6 _ _ hT5 hTa
    refine last H6 _ _ hpd6 rds6 rfl ?_
    -- the top that is asked for
    refine gn_cut ?_
    dsimp only
    refine if_cut (fun σ H' => Kp a H6 H' ∧ Sto H' a c ∧ ∃ lab : Option S, (given = false → lab = some ml.nm) ∧ (∀ t, lab = some t → t.length ≤ 300) ∧ σ = [some (.ref l), some (.ref a), some (.ref TL), some (.ref pd), o4, some (.bl given), some (oV lab), none, none, none, none, none, none, none]) (fun N hN => ?_) ?_
    · refine ⟨_, rfl, _, rfl, ?_⟩
      cases given with
      | false => exact ifF rfl (hN _ _ ⟨Kp.refl, s6, some ml.nm, fun _ => rfl, fun t ht => by cases ht; exact hLt _ hmll, rfl⟩)
      | true =>
        obtain ⟨x0, hx0, hm0⟩ := hLv 0 (by decide)
        obtain ⟨x1, hx1, hm1⟩ := hLv (us.length - 1) (by omega)
        obtain ⟨x2, hx2, hm2⟩ := hLv (us.length / 2) (by omega)
        obtain ⟨x3, hx3, hm3⟩ := hLv 3 (by decide)
        refine ifT rfl ⟨_, rfl, _, rfl, TL, _, _, _, rfl, rfl, SqL.of hT6, atI_nat (j := 0) hx0, ?_⟩
        refine ⟨_, rfl, _, rfl, pd, _, rfl, .inr (SqT.of hpd6), _, _, rfl, rfl, TL, _, _, _, rfl, rfl, SqL.of hT6, atI_of (j := us.length - 1) (by omega) hx1, ?_⟩
        refine ⟨_, rfl, _, rfl, pd, _, rfl, .inr (SqT.of hpd6), _, _, rfl, rfl, ⟨by decide, by decide⟩, TL, _, _, _, rfl, rfl, SqL.of hT6, atI_of (j := us.length / 2) (by omega) hx2, ?_⟩
        refine ⟨_, rfl, TL, _, _, _, rfl, rfl, SqL.of hT6, atI_nat (j := 3) hx3, sz5 (by simp), fun q hq => ?_⟩
        have f7 := Same.new hq (o := .lst [V.non, .str x0, .str x1, .str x2, .str x3, .str ""])
        refine ⟨a, c, q, _, rfl, s6.same f7, (.inl upd_same), s6.ne hq, by show 0 < 6; decide, by show 6 ≤ 1000000; decide, fun j y H8 hj e8 s8 => ?_⟩
        have hy : ∃ lab : Option S, y = oV lab ∧ ∀ t, lab = some t → t.length ≤ 300 := by
          match j, hj with
          | 0, hj => cases hj; exact ⟨none, rfl, fun t ht => by cases ht⟩
          | 1, hj => cases hj; exact ⟨some x0, rfl, fun t ht => by cases ht; exact hLt _ hm0⟩
          | 2, hj => cases hj; exact ⟨some x1, rfl, fun t ht => by cases ht; exact hLt _ hm1⟩
          | 3, hj => cases hj; exact ⟨some x2, rfl, fun t ht => by cases ht; exact hLt _ hm2⟩
          | 4, hj => cases hj; exact ⟨some x3, rfl, fun t ht => by cases ht; exact hLt _ hm3⟩
          | 5, hj => cases hj; exact ⟨some "", rfl, fun t ht => by cases ht; decide⟩
          | n + 6, hj => simp at hj
        obtain ⟨lab, rfl, hlab⟩ := hy
        exact hN _ _ ⟨f7.kp.trans e8, s8, lab, fun z => Bool.noConfusion z, hlab, rfl⟩
    rintro σ H7 ⟨e7, s7, lab, hg0, hlab, rfl⟩
    have tx7 : Tx H6 H7 := s6.tx e7
    have hpd7 := tx7 _ _ hpd6
    have rds7 := rds6.tx tx7
    have rdes7 : Rep H7 (desD ds) (.ref pd) := .tup hpd7 rds7
    refine ⟨_, rfl, _, rfl, _, rfl, true, given, _, ds, lab, rfl, rdes7, D, hne, hlab, fun d1 v1 H8 e8 A1 ra1 => ?_⟩
    refine ⟨_, rfl, _, rfl, _, rfl, false, given, _, ds, lab, rfl, rdes7.ex e8, D, hne, hlab, fun d2 v2 H9 e9 A2 ra2 => ?_⟩
    have e79 := e8.trans e9
    have ra1' := ra1.ex e9
    -- the name of the top
    refine gn_cut ?_
    dsimp only
    refine if_cut (fun σ H' => H' = H9 ∧ σ = [some (.ref l), some (.ref a), some (.ref TL), some (.ref pd), o4, some (.bl given), some (.str (lab.getD ml.nm)), some v1, some v2, none, none, none, none, none]) (fun N hN => ?_) ?_
    · cases lab with
      | none => exact ⟨_, rfl, rfl, _, rfl, ifT rfl (last H9 _ _ (e79 _ _ hpd7) (rds7.ex e79) rfl (hN _ _ ⟨rfl, rfl⟩))⟩
      | some t => exact ⟨_, rfl, rfl, _, rfl, ifF rfl (hN _ _ ⟨rfl, rfl⟩)⟩
    rintro σ H9' ⟨rfl, rfl⟩
    generalize hx : lab.getD ml.nm = x
    have hpd9 := e79 _ _ hpd7
    have rds9 := rds7.ex e79
    have s9 := s7.same e79
    -- is it the name of a module
    refine ⟨_, rfl, _, rfl, pd, rfl, ⟨_, SqT.of hpd9⟩, fun L hL => ?_⟩
    refine lc_data (walk_tup (xs := us)) ((ds.map (·.nm)).map Wi.D.str) (by rw [List.length_map, List.length_map]; exact lus) (by omega) hL (fun H' e => SqT.of (e _ _ hpd9)) ?_ ?_
    · rintro i y dd _ H' Q' hi e ⟨rfl, hy⟩ hdd kk
      obtain ⟨u, hu, ru⟩ := rds9.at hy
      obtain ⟨pm, q1, q2, q3, uus, rfl, hpm, _⟩ := ru.modT
      rw [List.getElem?_map, List.getElem?_map, hu] at hdd
      cases hdd
      exact ⟨rfl, _, rfl, pm, _, _, _, rfl, rfl, SqT.of (e _ _ hpm), rfl, kk _ _ (Same.refl _) (.str _)⟩
    intro H10 ws e10 hL10 rws
    obtain rfl := rws.strs
    refine ⟨L, _, rfl, .inl (SqL.of hL10), rfl, ?_, _, rfl, ?_⟩
    · rw [List.all_map]
      exact List.all_eq_true.mpr fun _ _ => rfl
    show if (!L2.inV (V.str x) ((ds.map (·.nm)).map V.str)) = true then _ else _
    rw [inV_vals]
    by_cases hin : x ∈ ds.map (·.nm)
    · -- it is
      rw [decide_eq_true hin]
      refine ifF rfl ?_
      have hok : ∃ (m : Mod) (im : Nat), selM ds (askO given lab) = some m ∧ ds[im]? = some m ∧ m.nm = x ∧ ∀ t, askO given lab = some t → t ∈ ds.map (·.nm) := by
        cases hl : askO given lab with
        | none =>
          have hxl : x = ml.nm := by
            cases given with
            | false => rw [hg0 rfl] at hx; exact hx.symm
            | true =>
              have : lab = none := hl
              rw [this] at hx
              exact hx.symm
          exact ⟨ml, _, hml, hmix, hxl.symm, fun t ht => by cases ht⟩
        | some t =>
          have ht : t = x := by
            cases given with
            | false => cases hl
            | true =>
              have : lab = some t := hl
              rw [this] at hx
              exact hx
          subst ht
          obtain ⟨m, hm, hmn⟩ := List.mem_map.mp hin
          obtain ⟨im, him⟩ := List.mem_iff_getElem?.mp hm
          have := modAt_nm D.ok him
          rw [hmn] at this
          exact ⟨m, im, this, him, hmn, fun t' ht' => by cases ht'; exact hin⟩
      obtain ⟨m, im, hsel, him, hmn, hall⟩ := hok
      have hd1 := ans_size A1 hsel hall
      have hd2 := ans_flat A2 hsel hall
      have hil : im < ds.length := (List.getElem?_eq_some_iff.mp him).1
      have hso := size_ok D.ok 10 im m PySem.Str.empty (by omega) him
      have hbz : sizeV ds 10 m ≤ 60000 := Nat.le_trans (sizeV_le D 10 im m him) (Nat.le_trans (bnd_le (j := 3) (by omega)) (by decide))
      have e910 := e10
      have e710 := e79.trans e10
      refine ⟨_, rfl, _, rfl, _, x, ds, m, im, rfl, rdes7.ex e710, D, him, hmn, by omega, by omega, fun vn H11 e11 rn => ?_⟩
      have e711 := e710.trans e11
      obtain ⟨pn, n1, n2, n3, n4, rfl, hpn, rn1, rn2, rn3, rn4⟩ := (show Rep H11 (.tup [strsD m.ins, gatesD (visG ds 10 m PySem.Str.empty), regsD (visR ds 10 m PySem.Str.empty), strsD m.outs]) vn from rn).t4
      obtain ⟨pn1, rfl, hpn1⟩ := rn1.strs
      obtain ⟨pn2, g2, rfl, hpn2, rg2⟩ := rn2.eTup
      obtain ⟨pn3, g3, rfl, hpn3, rg3⟩ := rn3.eTup
      have lg2 := rg2.len
      have lg3 := rg3.len
      rw [List.length_map] at lg2 lg3
      refine ⟨_, rfl, pn, _, _, _, rfl, rfl, SqT.of hpn, atI_nat (j := 1) rfl, pn2, _, rfl, .inr (SqT.of hpn2), _, rfl, pn, _, _, _, rfl, rfl, SqT.of hpn, atI_nat (j := 2) rfl, pn3, _, rfl, .inr (SqT.of hpn3), _, _, rfl, rfl, ?_⟩
      have hmany : ((g2.length : Int) + (g3.length : Int)) = ((sizeV ds 10 m : Nat) : Int) := by omega
      have hnok : NOk (flatN ds 10 m) ∨ 200 < sizeV ds 10 m := by
        by_cases hb : sizeV ds 10 m ≤ 200
        · refine .inl ⟨flat_sound D.ok (by omega) (by decide) him, ?_, ?_⟩
          · have z := (D.nm m (List.mem_of_getElem? him)).sz.ins
            unfold Net.decl Net.gw Net.rw
            rw [List.length_append, List.length_append, List.length_map, List.length_map]
            show m.ins.length + (visG ds 10 m PySem.Str.empty).length + (visR ds 10 m PySem.Str.empty).length ≤ 300
            omega
          · have z := (D.nm m (List.mem_of_getElem? him)).sz.outs
            show m.outs.length ≤ 300
            omega
        · exact .inr (by omega)
      refine ⟨_, rfl, _, rfl, sz5 (by simp), fun t12 ht12 => ?_⟩
      have f12 := Same.new ht12 (o := .tup [.str "told", .int ((g2.length : Int) + (g3.length : Int))])
      refine ⟨d1, _, _, rfl, ?_, ra1'.ex (e10.trans (e11.trans f12)), ?_, fun H13 e13 => ?_⟩
      · rw [hd1]
        exact (dd_two (k := 0) (a := .str "told") (b := .int _) trivial trivial).le (by decide)
      · rw [hd1, ← hmany]
        exact .tup upd_same (.cons (.str _) (.cons (.int _) .nil))
      refine ⟨_, rfl, ifF rfl ?_⟩
      have e1113 := f12.trans e13
      have e913 := (e10.trans e11).trans e1113
      have ra2' := ra2.ex e913
      refine ⟨_, rfl, _, _, rfl, rfl, _, rfl, if2 (fun hb => ?_) (fun hb => ?_)⟩
      · have hbig : 200 < sizeV ds 10 m := by have := of_decide_eq_true hb; omega
        rcases hd2 with ⟨z, _⟩ | ⟨_, hd2⟩
        · omega
        refine ⟨_, rfl, sz5 (by simp), fun t14 ht14 => ?_⟩
        have f14 := Same.new ht14 (o := .tup [.str "large", .str "gates", .int 200, .bl false])
        refine ⟨d2, _, _, rfl, ?_, ra2'.ex f14, ?_, fun H15 e15 => k H15⟩
        · rw [hd2]
          refine (dd_tup (k := 0) (by show 4 ≤ 1000; decide) fun d hd => ?_).le (by decide)
          simp only [List.mem_cons, List.not_mem_nil, or_false] at hd
          rcases hd with rfl | rfl | rfl | rfl <;> trivial
        · rw [hd2]
          exact .tup upd_same (.cons (.str _) (.cons (.str _) (.cons (.int _) (.cons (.bl _) .nil))))
      · have hsm : sizeV ds 10 m ≤ 200 := by have := of_decide_eq_false hb; omega
        rcases hd2 with ⟨_, hd2⟩ | ⟨z, _⟩
        rotate_left
        · omega
        have hn : NOk (flatN ds 10 m) := hnok.resolve_right (by omega)
        have s13 := s9.same e913
        have hpn13 := e1113 _ _ hpn
        have zi := (D.nm m (List.mem_of_getElem? him)).sz.ins
        refine ⟨_, rfl, _, rfl, pn, _, _, _, rfl, rfl, SqT.of hpn13, rfl, pn1, _, rfl, .inr (SqT.of (e1113 _ _ hpn1)), _, rfl, a, c, 9, rfl, s13, by decide, fun j9 H14 hj9 e14 s14 => ?_⟩
        rw [List.length_map]
        refine ⟨a, c, m.ins.length, j9, rfl, s14, by omega, by omega, fun rows vr H15 hrl hrr e15 s15 rrow => ?_⟩
        have k1315 := e14.trans e15
        have tx1315 : Tx H13 H15 := s13.tx k1315
        have rn15 := (rn.ex e1113).tx tx1315
        have ra15 := ra2'.tx tx1315
        refine ⟨_, rfl, _, rfl, sz5 (by simp), fun t16 ht16 => ?_⟩
        have f16 := Same.new ht16 (o := .tup [.str "told", .ref pn])
        refine ⟨d2, _, _, rfl, ?_, ra15.ex f16, ?_, fun H17 e17 => ⟨_, rfl, ?_⟩⟩
        · rw [hd2]
          exact dd_two (k := 4) (a := .str "told") trivial (dd_net hn)
        · rw [hd2]
          exact .tup upd_same (.cons (.str _) (.cons (rn15.ex f16) .nil))
        have e1517 := f16.trans e17
        rw [hd2] at ra15
        obtain ⟨pt, y0, y1, rfl, hpt, _, ry1⟩ := (ra15.ex e1517).t2
        refine iteT ⟨_, rfl, _, rfl, pt, _, _, _, rfl, rfl, SqT.of hpt, atI_nat (j := 1) rfl, _, rfl, a, c, _, _, flatN ds 10 m, rows, rfl, s15.same e1517, ry1, hn, rrow.ex e1517, hrr, by omega, fun H18 _ => k H18⟩
    · -- it is not
      rw [decide_eq_false hin]
      refine ifT rfl ?_
      have hgl : given = true ∧ lab = some x := by
        have hml' : ml.nm ∈ ds.map (·.nm) := List.mem_map_of_mem (List.mem_of_getElem? hmix)
        cases given with
        | false =>
          rw [hg0 rfl] at hx
          exact absurd (show ml.nm = x from hx) fun z => hin (z ▸ hml')
        | true =>
          cases lab with
          | none => exact absurd (show ml.nm = x from hx) fun z => hin (z ▸ hml')
          | some t => exact ⟨rfl, congrArg some hx⟩
      obtain ⟨rfl, rfl⟩ := hgl
      have hd1 := ans_unk (show Ans ds true (some x) d1 from A1) hin
      have hd2 := ans_unk (show Ans ds false (some x) d2 from A2) hin
      refine ⟨_, rfl, sz5 (by simp), fun t12 ht12 => ?_⟩
      have f12 := Same.new ht12 (o := .tup [.str "unknown", .str x, .bl false])
      have ru : Rep (upd H10 t12 (.tup [.str "unknown", .str x, .bl false])) (.tup [.str "unknown", .str x, .bl false]) (.ref t12) := .tup upd_same (.cons (.str _) (.cons (.str _) (.cons (.bl _) .nil)))
      have dd : DD 5 (.tup [.str "unknown", .str x, .bl false]) := by
        refine (dd_tup (k := 0) (by show 3 ≤ 1000; decide) fun d hd => ?_).le (by decide)
        simp only [List.mem_cons, List.not_mem_nil, or_false] at hd
        rcases hd with rfl | rfl | rfl <;> trivial
      rw [hd1] at ra1'
      rw [hd2] at ra2
      refine ⟨_, rfl, _, rfl, _, _, _, rfl, dd, ra1'.ex (e10.trans f12), ru, fun H13 e13 => ⟨_, rfl, iteT ⟨_, rfl, _, rfl, _, _, _, rfl, dd, ra2.ex ((e10.trans f12).trans e13), ru.ex e13, fun H14 e14 => k H14⟩⟩⟩
end
end Wi
set_option maxHeartbeats 4000000
set_option maxRecDepth 100000
namespace Wi
open PySem L2 PySem.Spec PyProof.Rows NdefX
/-! F1b: what the head tells -/
theorem df_of {K : PySem.W.Frag} {h : Heap} {mg : Str → Option Value} (X : K.In h) (G : h.Ns mainGlobals mg) (c : He.SaysD facs fns K) (i j : Nat) {g x : Str} {n : Nat} (h1 : fns[i]? = some (dd g x n [])) (h2 : facs[j]? = some (.glo g)) : Df K mg g x n := by
  obtain ⟨fd, F⟩ := c.def_ i h1
  exact ⟨_, fd, F, He.glo_ok X G (c.fact j h2)⟩
theorem dfK_of {K : PySem.W.Frag} {h : Heap} {mg : Str → Option Value} (X : K.In h) (G : h.Ns mainGlobals mg) (c : He.SaysD facs fns K) (i j : Nat) {g x : Str} {n : Nat} {kwd : List (Str × He.Dv)} (h1 : fns[i]? = some (dd g x n kwd)) (h2 : facs[j]? = some (.glo g)) : DfK K mg g x n (kwd.map fun q => (q.1, q.2.v K)) := by
  obtain ⟨fd, F⟩ := c.def_ i h1
  exact ⟨_, fd, F, He.glo_ok X G (c.fact j h2)⟩
/-- where each def stands -/
structure Dfs (K : PySem.W.Frag) (mg : Str → Option Value) : Prop where
  f_is_name : Df K mg "is_name" "is_name" 14
  f_is_wire : Df K mg "is_wire" "is_wire" 15
  f_is_bit : Df K mg "is_bit" "is_bit" 16
  f_listed_wires : Df K mg "listed_wires" "listed_wires" 17
  f_declared_fault : Df K mg "declared_fault" "declared_fault" 18
  f_gate_fault : Df K mg "gate_fault" "gate_fault" 19
  f_reg_fault : Df K mg "reg_fault" "reg_fault" 20
  f_output_fault : Df K mg "output_fault" "output_fault" 21
  f_net_fault : Df K mg "net_fault" "net_fault" 22
  f_check_net : Df K mg "check_net" "check_net" 23
  f_wires : Df K mg "wires" "wires" 24
  f_gate_links : Df K mg "gate_links" "gate_links" 46
  f_turned_links : Df K mg "turned_links" "turned_links" 47
  f_peeled : Df K mg "peeled" "peeled" 48
  f_find_order : Df K mg "find_order" "find_order" 53
  f_check_sound : Df K mg "check_sound" "check_sound" 54
  f_full_table : Df K mg "full_table" "full_table" 56
  f_input_pattern : Df K mg "input_pattern" "input_pattern" 57
  f_op_value_logic : Df K mg "op_value_logic" "op_value" 58
  f_gates_by_wire : Df K mg "gates_by_wire" "gates_by_wire" 65
  f_has_op : Df K mg "has_op" "has_op" 66
  f_is_constant : Df K mg "is_constant" "is_constant" 67
  f_known_of : Df K mg "known_of" "known_of" 68
  f_is_plain : Df K mg "is_plain" "is_plain" 70
  f_skipped : Df K mg "skipped" "skipped" 71
  f_copied : Df K mg "copied" "copied" 72
  f_local_value : Df K mg "local_value" "local_value" 69
  f_table_step : Df K mg "table_step" "table_step" 73
  f_link_step : Df K mg "link_step" "link_step" 74
  f_gate_after : Df K mg "gate_after" "gate_after" 75
  f_reg_after : Df K mg "reg_after" "reg_after" 76
  f_first_step : Df K mg "first_step" "first_step" 77
  f_put_at : Df K mg "put_at" "put_at" 78
  f_net_after : Df K mg "net_after" "net_after" 79
  f_net_behind : Df K mg "net_behind" "net_behind" 82
  f_trail : Df K mg "trail" "trail" 83
  f_is_settled : Df K mg "is_settled" "is_settled" 84
  f_rewrite : DfK K mg "rewrite" "rewrite" 85 [("limit", .int 400)]
  f_check_row : Df K mg "check_row" "check_row" 87
  f_check_ticks : Df K mg "check_ticks" "check_ticks" 88
  f_first_state : Df K mg "first_state" "first_state" 89
  f_places_of : Df K mg "places_of" "places_of" 90
  f_picked : Df K mg "picked" "picked" 95
  f_play_plan : Df K mg "play_plan" "play_plan" 91
  f_op_value_aid_play : Df K mg "op_value_aid_play" "op_value" 92
  f_plan_values : Df K mg "plan_values" "plan_values" 94
  f_run : DfK K mg "run" "run" 99 [("state", .non)]
  f_declared_names : Df K mg "declared_names" "declared_names" 26
  f_names_fault : Df K mg "names_fault" "names_fault" 27
  f_plain_signals : Df K mg "plain_signals" "plain_signals" 28
  f_all_signals : Df K mg "all_signals" "all_signals" 29
  f_ports_fault : Df K mg "ports_fault" "ports_fault" 30
  f_item_signals : Df K mg "item_signals" "item_signals" 31
  f_own_fault : Df K mg "own_fault" "own_fault" 32
  f_items_fault : Df K mg "items_fault" "items_fault" 33
  f_module_fault : Df K mg "module_fault" "module_fault" 34
  f_design_fault : Df K mg "design_fault" "design_fault" 35
  f_check_design : Df K mg "check_design" "check_design" 36
  f_item_size : Df K mg "item_size" "item_size" 40
  f_add_reg : Df K mg "add_reg" "add_reg" 42
  f_visit : Df K mg "visit" "visit" 43
  f_top_name : Df K mg "top_name" "top_name" 39
  f_flat_size : DfK K mg "flat_size" "flat_size" 41 [("top", .non)]
  f_flatten : DfK K mg "flatten" "flatten" 44 [("top", .non)]
  f__law_mix : Df K mg "_law_mix" "_law_mix" 101
  f__law_store : Df K mg "_law_store" "_law_store" 102
  f__law_take : Df K mg "_law_take" "_law_take" 103
  f__law_pick : Df K mg "_law_pick" "_law_pick" 104
  f__law_chance : Df K mg "_law_chance" "_law_chance" 105
  f__law_some : Df K mg "_law_some" "_law_some" 106
  f__law_labels : Df K mg "_law_labels" "_law_labels" 109
  f__law_slim_gate : Df K mg "_law_slim_gate" "_law_slim_gate" 110
  f__law_op : Df K mg "_law_op" "_law_op" 112
  f__law_bit_rows : Df K mg "_law_bit_rows" "_law_bit_rows" 117
  f__law_shown : Df K mg "_law_shown" "_law_shown" 114
  f__law_sorted : Df K mg "_law_sorted" "_law_sorted" 111
  f__law_alike : Df K mg "_law_alike" "_law_alike" 115
  f__law_play : Df K mg "_law_play" "_law_play" 113
  f__law_rows_from : Df K mg "_law_rows_from" "_law_rows_from" 119
  f__law_visit : Df K mg "_law_visit" "_law_visit" 107
  f__law_flat : Df K mg "_law_flat" "_law_flat" 108
  f__law_asked : Df K mg "_law_asked" "_law_asked" 118
  f__law_slim_module : Df K mg "_law_slim_module" "_law_slim_module" 116
  f__law_rewritten_right : Df K mg "_law_rewritten_right" "_law_rewritten_right" 120
  f_law : Df K mg "law" "law" 121
theorem dfs_ok {w : World} {K : PySem.W.Frag} {h : Heap} {mg : Str → Option Value} (X : K.In h) (G : h.Ns mainGlobals mg) (c : He.SaysD facs fns K) : Dfs K mg := by
  constructor
  · exact df_of X G c 0 0 (by rfl) (by rfl)
  · exact df_of X G c 1 1 (by rfl) (by rfl)
  · exact df_of X G c 2 2 (by rfl) (by rfl)
  · exact df_of X G c 3 3 (by rfl) (by rfl)
  · exact df_of X G c 4 4 (by rfl) (by rfl)
  · exact df_of X G c 5 5 (by rfl) (by rfl)
  · exact df_of X G c 6 6 (by rfl) (by rfl)
  · exact df_of X G c 7 7 (by rfl) (by rfl)
  · exact df_of X G c 8 8 (by rfl) (by rfl)
  · exact df_of X G c 9 9 (by rfl) (by rfl)
  · exact df_of X G c 10 10 (by rfl) (by rfl)
  · exact df_of X G c 11 11 (by rfl) (by rfl)
  · exact df_of X G c 12 12 (by rfl) (by rfl)
  · exact df_of X G c 13 13 (by rfl) (by rfl)
  · exact df_of X G c 14 14 (by rfl) (by rfl)
  · exact df_of X G c 15 15 (by rfl) (by rfl)
  · exact df_of X G c 16 16 (by rfl) (by rfl)
  · exact df_of X G c 17 17 (by rfl) (by rfl)
  · exact df_of X G c 18 18 (by rfl) (by rfl)
  · exact df_of X G c 19 19 (by rfl) (by rfl)
  · exact df_of X G c 20 20 (by rfl) (by rfl)
  · exact df_of X G c 21 21 (by rfl) (by rfl)
  · exact df_of X G c 22 22 (by rfl) (by rfl)
  · exact df_of X G c 23 23 (by rfl) (by rfl)
  · exact df_of X G c 24 24 (by rfl) (by rfl)
  · exact df_of X G c 25 25 (by rfl) (by rfl)
  · exact df_of X G c 26 26 (by rfl) (by rfl)
  · exact df_of X G c 27 27 (by rfl) (by rfl)
  · exact df_of X G c 28 28 (by rfl) (by rfl)
  · exact df_of X G c 29 29 (by rfl) (by rfl)
  · exact df_of X G c 30 30 (by rfl) (by rfl)
  · exact df_of X G c 31 31 (by rfl) (by rfl)
  · exact df_of X G c 32 32 (by rfl) (by rfl)
  · exact df_of X G c 33 33 (by rfl) (by rfl)
  · exact df_of X G c 34 34 (by rfl) (by rfl)
  · exact df_of X G c 35 35 (by rfl) (by rfl)
  · exact df_of X G c 36 36 (by rfl) (by rfl)
  · exact dfK_of X G c 37 37 (by rfl) (by rfl)
  · exact df_of X G c 38 38 (by rfl) (by rfl)
  · exact df_of X G c 39 39 (by rfl) (by rfl)
  · exact df_of X G c 40 40 (by rfl) (by rfl)
  · exact df_of X G c 41 41 (by rfl) (by rfl)
  · exact df_of X G c 42 42 (by rfl) (by rfl)
  · exact df_of X G c 43 43 (by rfl) (by rfl)
  · exact df_of X G c 44 44 (by rfl) (by rfl)
  · exact df_of X G c 45 45 (by rfl) (by rfl)
  · exact dfK_of X G c 46 46 (by rfl) (by rfl)
  · exact df_of X G c 47 47 (by rfl) (by rfl)
  · exact df_of X G c 48 48 (by rfl) (by rfl)
  · exact df_of X G c 49 49 (by rfl) (by rfl)
  · exact df_of X G c 50 50 (by rfl) (by rfl)
  · exact df_of X G c 51 51 (by rfl) (by rfl)
  · exact df_of X G c 52 52 (by rfl) (by rfl)
  · exact df_of X G c 53 53 (by rfl) (by rfl)
  · exact df_of X G c 54 54 (by rfl) (by rfl)
  · exact df_of X G c 55 55 (by rfl) (by rfl)
  · exact df_of X G c 56 56 (by rfl) (by rfl)
  · exact df_of X G c 57 57 (by rfl) (by rfl)
  · exact df_of X G c 58 58 (by rfl) (by rfl)
  · exact df_of X G c 59 59 (by rfl) (by rfl)
  · exact df_of X G c 60 60 (by rfl) (by rfl)
  · exact df_of X G c 61 61 (by rfl) (by rfl)
  · exact dfK_of X G c 62 62 (by rfl) (by rfl)
  · exact dfK_of X G c 63 63 (by rfl) (by rfl)
  · exact df_of X G c 64 64 (by rfl) (by rfl)
  · exact df_of X G c 65 65 (by rfl) (by rfl)
  · exact df_of X G c 66 66 (by rfl) (by rfl)
  · exact df_of X G c 67 67 (by rfl) (by rfl)
  · exact df_of X G c 68 68 (by rfl) (by rfl)
  · exact df_of X G c 69 69 (by rfl) (by rfl)
  · exact df_of X G c 70 70 (by rfl) (by rfl)
  · exact df_of X G c 71 71 (by rfl) (by rfl)
  · exact df_of X G c 72 72 (by rfl) (by rfl)
  · exact df_of X G c 73 73 (by rfl) (by rfl)
  · exact df_of X G c 74 74 (by rfl) (by rfl)
  · exact df_of X G c 75 75 (by rfl) (by rfl)
  · exact df_of X G c 76 76 (by rfl) (by rfl)
  · exact df_of X G c 77 77 (by rfl) (by rfl)
  · exact df_of X G c 78 78 (by rfl) (by rfl)
  · exact df_of X G c 79 79 (by rfl) (by rfl)
  · exact df_of X G c 80 80 (by rfl) (by rfl)
  · exact df_of X G c 81 81 (by rfl) (by rfl)
  · exact df_of X G c 82 82 (by rfl) (by rfl)
  · exact df_of X G c 83 83 (by rfl) (by rfl)
  · exact df_of X G c 84 84 (by rfl) (by rfl)
def iRun : Nat := 85
theorem bl_ok {K : PySem.W.Frag} {h : Heap} {mg : Str → Option Value} (X : K.In h) (G : h.Ns mainGlobals mg) (c : He.SaysD facs fns K) : Bl mg :=
  ⟨He.free_ok X G (c.fact 85 (f := .free "len") rfl), He.free_ok X G (c.fact 86 (f := .free "tuple") rfl), He.free_ok X G (c.fact 87 (f := .free "list") rfl), He.free_ok X G (c.fact 88 (f := .free "range") rfl), He.free_ok X G (c.fact 89 (f := .free "enumerate") rfl), He.free_ok X G (c.fact 90 (f := .free "zip") rfl), He.free_ok X G (c.fact 91 (f := .free "all") rfl), He.free_ok X G (c.fact 92 (f := .free "sum") rfl), He.free_ok X G (c.fact 93 (f := .free "isinstance") rfl), He.free_ok X G (c.fact 94 (f := .free "int") rfl), He.free_ok X G (c.fact 95 (f := .free "str") rfl), He.free_ok X G (c.fact 96 (f := .free "abs") rfl), He.free_ok X G (c.fact 97 (f := .free "min") rfl), He.free_ok X G (c.fact 98 (f := .free "bool") rfl)⟩
theorem super_ok {K : PySem.W.Frag} {h : Heap} {mg : Str → Option Value} (X : K.In h) (G : h.Ns mainGlobals mg) (c : He.SaysD facs fns K) : mg "super" = none := He.free_ok X G (c.fact 99 (f := .free "super") rfl)
theorem g_RULES {K : PySem.W.Frag} {h : Heap} {mg : Str → Option Value} (X : K.In h) (G : h.Ns mainGlobals mg) (c : He.SaysD facs fns K) : mg "RULES" = some (.ref (He.ga K "RULES")) := He.glo_ok X G (c.fact 106 (f := .glo "RULES") rfl)
theorem g_CONSTANT {K : PySem.W.Frag} {h : Heap} {mg : Str → Option Value} (X : K.In h) (G : h.Ns mainGlobals mg) (c : He.SaysD facs fns K) : mg "CONSTANT" = some (.ref (He.ga K "CONSTANT")) := He.glo_ok X G (c.fact 107 (f := .glo "CONSTANT") rfl)
theorem g_ARITY {K : PySem.W.Frag} {h : Heap} {mg : Str → Option Value} (X : K.In h) (G : h.Ns mainGlobals mg) (c : He.SaysD facs fns K) : mg "ARITY" = some (.ref (He.ga K "ARITY")) := He.glo_ok X G (c.fact 108 (f := .glo "ARITY") rfl)
theorem g_UnknownName {K : PySem.W.Frag} {h : Heap} {mg : Str → Option Value} (X : K.In h) (G : h.Ns mainGlobals mg) (c : He.SaysD facs fns K) : mg "UnknownName" = some (.ref (He.ga K "UnknownName")) := He.glo_ok X G (c.fact 109 (f := .glo "UnknownName") rfl)
theorem g_TooLarge {K : PySem.W.Frag} {h : Heap} {mg : Str → Option Value} (X : K.In h) (G : h.Ns mainGlobals mg) (c : He.SaysD facs fns K) : mg "TooLarge" = some (.ref (He.ga K "TooLarge")) := He.glo_ok X G (c.fact 110 (f := .glo "TooLarge") rfl)
theorem g_Run {K : PySem.W.Frag} {h : Heap} {mg : Str → Option Value} (X : K.In h) (G : h.Ns mainGlobals mg) (c : He.SaysD facs fns K) : mg "Run" = some (.ref (He.ga K "Run")) := He.glo_ok X G (c.fact 111 (f := .glo "Run") rfl)
theorem i_MOST_SIGNS {K : PySem.W.Frag} {h : Heap} {mg : Str → Option Value} (X : K.In h) (G : h.Ns mainGlobals mg) (c : He.SaysD facs fns K) : ∃ t, mg "MOST_SIGNS" = some (.int 8 t) := He.int_ok X G (c.fact 100 (f := .int "MOST_SIGNS" 8) rfl)
theorem i_MOST_GATES {K : PySem.W.Frag} {h : Heap} {mg : Str → Option Value} (X : K.In h) (G : h.Ns mainGlobals mg) (c : He.SaysD facs fns K) : ∃ t, mg "MOST_GATES" = some (.int 200 t) := He.int_ok X G (c.fact 101 (f := .int "MOST_GATES" 200) rfl)
theorem i_MOST_STEPS {K : PySem.W.Frag} {h : Heap} {mg : Str → Option Value} (X : K.In h) (G : h.Ns mainGlobals mg) (c : He.SaysD facs fns K) : ∃ t, mg "MOST_STEPS" = some (.int 1000 t) := He.int_ok X G (c.fact 102 (f := .int "MOST_STEPS" 1000) rfl)
theorem i_MOST_TICKS {K : PySem.W.Frag} {h : Heap} {mg : Str → Option Value} (X : K.In h) (G : h.Ns mainGlobals mg) (c : He.SaysD facs fns K) : ∃ t, mg "MOST_TICKS" = some (.int 300 t) := He.int_ok X G (c.fact 103 (f := .int "MOST_TICKS" 300) rfl)
theorem i_AND_TABLE {K : PySem.W.Frag} {h : Heap} {mg : Str → Option Value} (X : K.In h) (G : h.Ns mainGlobals mg) (c : He.SaysD facs fns K) : ∃ t, mg "AND_TABLE" = some (.int 8 t) := He.int_ok X G (c.fact 104 (f := .int "AND_TABLE" 8) rfl)
theorem i_OR_TABLE {K : PySem.W.Frag} {h : Heap} {mg : Str → Option Value} (X : K.In h) (G : h.Ns mainGlobals mg) (c : He.SaysD facs fns K) : ∃ t, mg "OR_TABLE" = some (.int 14 t) := He.int_ok X G (c.fact 105 (f := .int "OR_TABLE" 14) rfl)
theorem m_Run {K : PySem.W.Frag} (c : He.SaysD facs fns K) : Mk K (He.ga K "Run") (He.ma K (He.ga K "Run") "__init__") := He.mkr_ok (c.fact 112 (f := .mkr "Run") rfl)
theorem c_Run {K : PySem.W.Frag} (c : He.SaysD facs fns K) : Cls K (He.ga K "Run") := He.cls_ok (c.fact 113 (f := .cls "Run") rfl)
theorem n_Run_rows {K : PySem.W.Frag} (c : He.SaysD facs fns K) : NoAttr K (He.ga K "Run") "rows" := He.noat_ok (c.fact 114 (f := .noat "Run" "rows") rfl)
theorem n_Run_own_places {K : PySem.W.Frag} (c : He.SaysD facs fns K) : NoAttr K (He.ga K "Run") "own_places" := He.noat_ok (c.fact 115 (f := .noat "Run" "own_places") rfl)
theorem n_Run_own_values {K : PySem.W.Frag} (c : He.SaysD facs fns K) : NoAttr K (He.ga K "Run") "own_values" := He.noat_ok (c.fact 116 (f := .noat "Run" "own_values") rfl)
theorem n_Run_own_states {K : PySem.W.Frag} (c : He.SaysD facs fns K) : NoAttr K (He.ga K "Run") "own_states" := He.noat_ok (c.fact 117 (f := .noat "Run" "own_states") rfl)
theorem n_UnknownName_name {K : PySem.W.Frag} (c : He.SaysD facs fns K) : NoAttr K (He.ga K "UnknownName") "name" := He.noat_ok (c.fact 118 (f := .noat "UnknownName" "name") rfl)
theorem n_TooLarge_what {K : PySem.W.Frag} (c : He.SaysD facs fns K) : NoAttr K (He.ga K "TooLarge") "what" := He.noat_ok (c.fact 119 (f := .noat "TooLarge" "what") rfl)
theorem n_TooLarge_most {K : PySem.W.Frag} (c : He.SaysD facs fns K) : NoAttr K (He.ga K "TooLarge") "most" := He.noat_ok (c.fact 120 (f := .noat "TooLarge" "most") rfl)
theorem x_UnknownName_UnknownName {K : PySem.W.Frag} (c : He.SaysD facs fns K) : PySem.W.exmOne K (.ref (He.ga K "UnknownName")) (.ref (He.ga K "UnknownName")) = some true := He.exm_ok (c.fact 121 (f := .exm "UnknownName" "UnknownName" true) rfl)
theorem x_TooLarge_TooLarge {K : PySem.W.Frag} (c : He.SaysD facs fns K) : PySem.W.exmOne K (.ref (He.ga K "TooLarge")) (.ref (He.ga K "TooLarge")) = some true := He.exm_ok (c.fact 122 (f := .exm "TooLarge" "TooLarge" true) rfl)
theorem x_TooLarge_UnknownName {K : PySem.W.Frag} (c : He.SaysD facs fns K) : PySem.W.exmOne K (.ref (He.ga K "TooLarge")) (.ref (He.ga K "UnknownName")) = some false := He.exm_ok (c.fact 123 (f := .exm "TooLarge" "UnknownName" false) rfl)
theorem gc_ok {w : World} {K : PySem.W.Frag} {h : Heap} {mg : Str → Option Value} (X : K.In h) (G : h.Ns mainGlobals mg) (c0 : He.SaysT facs fns tabs w K) (t : tabB K = true) : GC K w mg := by
  have c := c0.d
  obtain ⟨t1, t⟩ := He.ba t
  obtain ⟨t2, t3⟩ := He.ba t
  obtain ⟨es, n, kd⟩ := c0.tab 0 (t := (fun K => He.ga K "ARITY", ["zero", "one", "buf", "not", "and", "or", "xor", "mux"])) rfl
  refine ⟨i_MOST_SIGNS X G c, i_MOST_GATES X G c, i_MOST_STEPS X G c, i_MOST_TICKS X G c, i_AND_TABLE X G c, i_OR_TABLE X G c, ⟨_, g_RULES X G c, fun H => He.tupB_ok t1 H⟩, ⟨_, g_CONSTANT X G c, fun H => He.tupB_ok t2 H⟩, ⟨_, es, n, g_ARITY X G c, kd, fun o => ?_⟩⟩
  have hv : ∀ (x : Str) (i : Int), (x, He.Dv.int i) ∈ arityV → ∃ u, PySem.W.nsIn K (He.ga K "ARITY") x = some (some u) ∧ RelV (.int i) u := fun x i hm => He.valsB_ok t3 hm
  cases o
  · exact hv "zero" 0 (by simp [arityV])
  · exact hv "one" 0 (by simp [arityV])
  · exact hv "buf" 1 (by simp [arityV])
  · exact hv "not" 1 (by simp [arityV])
  · exact hv "and" 2 (by simp [arityV])
  · exact hv "or" 2 (by simp [arityV])
  · exact hv "xor" 2 (by simp [arityV])
  · exact hv "mux" 3 (by simp [arityV])
theorem oexB_ok {K : PySem.W.Frag} {C : Addr} (h : oexB K C = true) : OexC K C := by
  obtain ⟨h1, h⟩ := He.ba h
  obtain ⟨h2, h⟩ := He.ba h
  obtain ⟨h3, h⟩ := He.ba h
  obtain ⟨h4, h5⟩ := He.ba h
  refine ⟨?_, He.eqO_ok h2, of_decide_eq_true h3, of_decide_eq_true h4, h5⟩
  split at h1
  · rename_i dd cd sl ho
    split at h1
    · rename_i C' bm k0 k1 k2 k3 n k5 hm hs
      obtain ⟨a1, h1⟩ := He.ba h1
      obtain ⟨a2, h1⟩ := He.ba h1
      obtain ⟨a3, h1⟩ := He.ba h1
      obtain ⟨a4, a5⟩ := He.ba h1
      obtain rfl : C' = C := eq_of_beq a1
      obtain rfl : n = "ValueError.__new__" := eq_of_beq a2
      obtain ⟨nm, bs, mro, ns, qn, hd, sn, sub, ab, col, del⟩ := cd
      dsimp only at hm a3 a4
      have a3' : del = false := by cases del <;> first | rfl | cases a3
      subst hm a3' a4
      have hsl : sl = #[k0, k1, k2, k3, some (.builtin "ValueError.__new__"), k5] := by
        obtain ⟨l⟩ := sl
        simp only at hs
        rw [hs]
      subst hsl
      exact ⟨nm, qn, ns, bs, bm, sn, sub, ab, col, dd, k0, k1, k2, k3, k5, ho, a5⟩
    · cases h1
  · cases h1
theorem supB_ok {P : Program} {K : PySem.W.Frag} {x q : Str} {i : Nat} (h : supB P.main.file K x q = true) (e : fnS K x = valS q i) (ht : (P.main.scope.names.lookup ("super" : Str)).isSome = false) :
    ∃ cc c fd, SupC P K "__init__" q (defArgs (ctop i 0)) (defBody (ctop i 0)) (defScope (ctop i 0)) (He.ga K x) cc c (iAd K x) fd ∧ PySem.W.findIn K (.ref (He.ga K x)) "__init__" = some (some (.ref (iAd K x))) ∧ PySem.W.typeIn K (.ref (iAd K x)) = some (.type "function") ∧
      ∃ kV doc pm an ct, fd = supFn "__init__" q (defArgs (ctop i 0)) (defBody (ctop i 0)) (defScope (ctop i 0)) .none kV doc pm an ct cc c := by
  obtain ⟨h0, h⟩ := He.ba h
  obtain ⟨h1, h⟩ := He.ba h
  obtain ⟨h2, h⟩ := He.ba h
  obtain ⟨h3, h⟩ := He.ba h
  obtain ⟨h4, h⟩ := He.ba h
  obtain ⟨h5, h⟩ := He.ba h
  obtain ⟨h6, h7⟩ := He.ba h
  unfold fnS at e
  split at h1
  · rename_i oc od fd osl ho
    rw [ho] at e
    split at h1
    · rename_i c nmc cc hcd hcl
      obtain ⟨g1, g⟩ := He.ba h1
      obtain ⟨g2, g3⟩ := He.ba g
      obtain ⟨n1, n2, n3, n4, n5, n6, n7, n8, n9, n10, n11, n12, n13, n14, n15⟩ := fd
      dsimp only at hcd hcl e
      subst hcd hcl
      unfold valS at e
      simp only [Option.some.injEq, Prod.mk.injEq, List.map_cons, List.map_nil, List.cons.injEq, and_true] at e
      obtain ⟨e1, e2, e3, e4, e5, e6, e7, e8, e9⟩ := e
      subst e1 e2 e3 e4 e5 e6 e7 e8 e9
      refine ⟨cc, c, _, ⟨oexB_ok h0, ⟨_, _, _, _, _, _, rfl⟩, ⟨_, _, _, ho⟩, g1, ?_, ?_, of_decide_eq_true h2, of_decide_eq_true h3, of_decide_eq_true h4, He.eqO_ok h5, ht⟩, He.eqO_ok h6, of_decide_eq_true h7, ⟨_, _, _, _, _, rfl⟩⟩
      · split at g2
        · rename_i ccl cdd vs ccs hc
          split at g2
          · rename_i f tf hf
            exact ⟨_, _, vs, _, f, tf, hc, hf, g2⟩
          · cases g2
        · cases g2
      · split at g3
        · rename_i cl cld C csl hc
          have : C = He.ga K x := eq_of_beq g3
          subst this
          exact ⟨_, _, _, hc⟩
        · cases g3
    · cases h1
  · cases h1
theorem xcB_ok {K : PySem.W.Frag} {D C : Addr} (h : xcB K D C = true) (hx : PySem.W.exmOne K (.ref D) (.ref D) = some true) : XC K D C := by
  obtain ⟨h0, h⟩ := He.ba h
  obtain ⟨h1, h⟩ := He.ba h
  obtain ⟨h2, h⟩ := He.ba h
  obtain ⟨h3, h⟩ := He.ba h
  obtain ⟨h4, h⟩ := He.ba h
  obtain ⟨h5, h6⟩ := He.ba h
  have xf := L2.xfB_ok h0
  exact ⟨xf, ⟨h1, xf.ga, xf.gg, xf.exC, He.eqO_ok h2, of_decide_eq_true h3, of_decide_eq_true h4, of_decide_eq_true h5⟩, of_decide_eq_true h6, hx⟩
end Wi
set_option maxHeartbeats 4000000
set_option maxRecDepth 100000
namespace Wi
open PySem L2 PySem.Spec PyProof.Rows NdefX
/-- what the law needs of the defs that it calls -/
structure LawC (w : World) (K : PySem.W.Frag) (mg : Str → Option Value) (base : Heap) : Prop where
  C_law_store : Cal PySem.Challenge.pw_wirewatch_k95_whole_flat_and_rewritten w K mg base CX0 2 "_law_store" ["_law_script"] (spStore K)
  C_law_take : Cal PySem.Challenge.pw_wirewatch_k95_whole_flat_and_rewritten w K mg base CX0 2 "_law_take" ["_law_store_here", "_law_many"] spTake
  C_law_pick : Cal PySem.Challenge.pw_wirewatch_k95_whole_flat_and_rewritten w K mg base CX0 3 "_law_pick" ["_law_store_here", "_law_row"] spPick
  C_law_chance : Cal PySem.Challenge.pw_wirewatch_k95_whole_flat_and_rewritten w K mg base CX0 3 "_law_chance" ["_law_store_here", "_law_many"] spChance
  C_law_labels : Cal PySem.Challenge.pw_wirewatch_k95_whole_flat_and_rewritten w K mg base CX0 4 "_law_labels" ["_law_store_here", "_law_many", "_law_dotted"] spLabels
  C_law_slim_module : Cal PySem.Challenge.pw_wirewatch_k95_whole_flat_and_rewritten w K mg base CX0 5 "_law_slim_module" ["_law_store_here", "_law_text", "_law_design"] spSlimM
  C_law_asked : Cal PySem.Challenge.pw_wirewatch_k95_whole_flat_and_rewritten w K mg base (L2.CX PySem.Challenge.pw_wirewatch_k95_whole_flat_and_rewritten w) 14 "_law_asked" ["_law_sized", "_law_design", "_law_given", "_law_label"] spAsked
  C_law_alike : Cal PySem.Challenge.pw_wirewatch_k95_whole_flat_and_rewritten w K mg base CX0 7 "_law_alike" ["_law_actual", "_law_due"] (spA 6)
  C_law_flat : Cal PySem.Challenge.pw_wirewatch_k95_whole_flat_and_rewritten w K mg base CX0 13 "_law_flat" ["_law_design", "_law_label"] spLFlat
  C_law_bit_rows : Cal PySem.Challenge.pw_wirewatch_k95_whole_flat_and_rewritten w K mg base CX0 3 "_law_bit_rows" ["_law_store_here", "_law_count", "_law_many"] spBitR
  C_law_rewritten_right : Cal PySem.Challenge.pw_wirewatch_k95_whole_flat_and_rewritten w K mg base CX0 10 "_law_rewritten_right" ["_law_store_here", "_law_net", "_law_rows"] spRR
theorem law_cal {w : World} {K : PySem.W.Frag} {mg : Str → Option Value} (D : Dfs K mg) (B : Bl mg) (G : GC K w mg) (U : UNC K mg (He.ga K "UnknownName")) (UT : TLC K mg (He.ga K "TooLarge")) (XU : XC K (He.ga K "UnknownName") (He.ga K "TooLarge")) (XT : XC K (He.ga K "TooLarge") (He.ga K "UnknownName"))
    (XN : PySem.W.exmOne K (.ref (He.ga K "TooLarge")) (.ref (He.ga K "UnknownName")) = some false) (R_Run : RunC K mg (He.ga K "Run")) (base : Heap) : LawC w K mg base := by
  have C_is_name := cal_is_name (P := PySem.Challenge.pw_wirewatch_k95_whole_flat_and_rewritten) (w := w) (K := K) (mg := mg) (base := base) D.f_is_name B G
  have C_is_wire := cal_is_wire (P := PySem.Challenge.pw_wirewatch_k95_whole_flat_and_rewritten) (w := w) (K := K) (mg := mg) (base := base) D.f_is_wire B C_is_name
  have C_is_bit := cal_is_bit (P := PySem.Challenge.pw_wirewatch_k95_whole_flat_and_rewritten) (w := w) (K := K) (mg := mg) (base := base) D.f_is_bit B
  have C_listed_wires := cal_listed_wires (P := PySem.Challenge.pw_wirewatch_k95_whole_flat_and_rewritten) (w := w) (K := K) (mg := mg) (base := base) D.f_listed_wires B
  have C_declared_fault := cal_declared_fault (P := PySem.Challenge.pw_wirewatch_k95_whole_flat_and_rewritten) (w := w) (K := K) (mg := mg) (base := base) D.f_declared_fault B C_is_wire
  have C_gate_fault := cal_gate_fault (P := PySem.Challenge.pw_wirewatch_k95_whole_flat_and_rewritten) (w := w) (K := K) (mg := mg) (base := base) D.f_gate_fault B G
  have C_reg_fault := cal_reg_fault (P := PySem.Challenge.pw_wirewatch_k95_whole_flat_and_rewritten) (w := w) (K := K) (mg := mg) (base := base) D.f_reg_fault B C_is_bit
  have C_output_fault := cal_output_fault (P := PySem.Challenge.pw_wirewatch_k95_whole_flat_and_rewritten) (w := w) (K := K) (mg := mg) (base := base) D.f_output_fault B
  have C_net_fault := cal_net_fault (P := PySem.Challenge.pw_wirewatch_k95_whole_flat_and_rewritten) (w := w) (K := K) (mg := mg) (base := base) D.f_net_fault B C_listed_wires C_declared_fault C_gate_fault C_reg_fault C_output_fault
  have C_check_net := cal_check_net (P := PySem.Challenge.pw_wirewatch_k95_whole_flat_and_rewritten) (w := w) (K := K) (mg := mg) (base := base) D.f_check_net B C_net_fault
  have C_wires := cal_wires (P := PySem.Challenge.pw_wirewatch_k95_whole_flat_and_rewritten) (w := w) (K := K) (mg := mg) (base := base) D.f_wires B C_check_net C_listed_wires
  have C_gate_links := cal_gate_links (P := PySem.Challenge.pw_wirewatch_k95_whole_flat_and_rewritten) (w := w) (K := K) (mg := mg) (base := base) D.f_gate_links B
  have C_turned_links := cal_turned_links (P := PySem.Challenge.pw_wirewatch_k95_whole_flat_and_rewritten) (w := w) (K := K) (mg := mg) (base := base) D.f_turned_links B
  have C_peeled := cal_peeled (P := PySem.Challenge.pw_wirewatch_k95_whole_flat_and_rewritten) (w := w) (K := K) (mg := mg) (base := base) D.f_peeled B C_turned_links
  have C_find_order := cal_find_order (P := PySem.Challenge.pw_wirewatch_k95_whole_flat_and_rewritten) (w := w) (K := K) (mg := mg) (base := base) D.f_find_order B C_check_net C_gate_links C_peeled
  have C_check_sound := cal_check_sound (P := PySem.Challenge.pw_wirewatch_k95_whole_flat_and_rewritten) (w := w) (K := K) (mg := mg) (base := base) D.f_check_sound B C_find_order
  have C_full_table := cal_full_table (P := PySem.Challenge.pw_wirewatch_k95_whole_flat_and_rewritten) (w := w) (K := K) (mg := mg) (base := base) D.f_full_table 
  have C_input_pattern := cal_input_pattern (P := PySem.Challenge.pw_wirewatch_k95_whole_flat_and_rewritten) (w := w) (K := K) (mg := mg) (base := base) D.f_input_pattern 
  have C_op_value_logic := cal_op_value_logic (P := PySem.Challenge.pw_wirewatch_k95_whole_flat_and_rewritten) (w := w) (K := K) (mg := mg) (base := base) D.f_op_value_logic 
  have C_gates_by_wire := cal_gates_by_wire (P := PySem.Challenge.pw_wirewatch_k95_whole_flat_and_rewritten) (w := w) (K := K) (mg := mg) (base := base) D.f_gates_by_wire 
  have C_has_op := cal_has_op (P := PySem.Challenge.pw_wirewatch_k95_whole_flat_and_rewritten) (w := w) (K := K) (mg := mg) (base := base) D.f_has_op 
  have C_is_constant := cal_is_constant (P := PySem.Challenge.pw_wirewatch_k95_whole_flat_and_rewritten) (w := w) (K := K) (mg := mg) (base := base) D.f_is_constant G
  have C_known_of := cal_known_of (P := PySem.Challenge.pw_wirewatch_k95_whole_flat_and_rewritten) (w := w) (K := K) (mg := mg) (base := base) D.f_known_of C_gates_by_wire
  have C_is_plain := cal_is_plain (P := PySem.Challenge.pw_wirewatch_k95_whole_flat_and_rewritten) (w := w) (K := K) (mg := mg) (base := base) D.f_is_plain B C_is_constant
  have C_skipped := cal_skipped (P := PySem.Challenge.pw_wirewatch_k95_whole_flat_and_rewritten) (w := w) (K := K) (mg := mg) (base := base) D.f_skipped C_has_op
  have C_copied := cal_copied (P := PySem.Challenge.pw_wirewatch_k95_whole_flat_and_rewritten) (w := w) (K := K) (mg := mg) (base := base) D.f_copied B C_input_pattern
  have C_local_value := cal_local_value (P := PySem.Challenge.pw_wirewatch_k95_whole_flat_and_rewritten) (w := w) (K := K) (mg := mg) (base := base) D.f_local_value B C_is_constant C_full_table C_input_pattern C_op_value_logic
  have C_table_step := cal_table_step (P := PySem.Challenge.pw_wirewatch_k95_whole_flat_and_rewritten) (w := w) (K := K) (mg := mg) (base := base) D.f_table_step B G C_is_plain C_local_value C_copied
  have C_link_step := cal_link_step (P := PySem.Challenge.pw_wirewatch_k95_whole_flat_and_rewritten) (w := w) (K := K) (mg := mg) (base := base) D.f_link_step B G C_skipped C_has_op
  have C_gate_after := cal_gate_after (P := PySem.Challenge.pw_wirewatch_k95_whole_flat_and_rewritten) (w := w) (K := K) (mg := mg) (base := base) D.f_gate_after B G C_table_step C_link_step
  have C_reg_after := cal_reg_after (P := PySem.Challenge.pw_wirewatch_k95_whole_flat_and_rewritten) (w := w) (K := K) (mg := mg) (base := base) D.f_reg_after C_skipped C_has_op
  have C_first_step := cal_first_step (P := PySem.Challenge.pw_wirewatch_k95_whole_flat_and_rewritten) (w := w) (K := K) (mg := mg) (base := base) D.f_first_step G C_gate_after C_reg_after
  have C_put_at := cal_put_at (P := PySem.Challenge.pw_wirewatch_k95_whole_flat_and_rewritten) (w := w) (K := K) (mg := mg) (base := base) D.f_put_at B
  have C_net_after := cal_net_after (P := PySem.Challenge.pw_wirewatch_k95_whole_flat_and_rewritten) (w := w) (K := K) (mg := mg) (base := base) D.f_net_after C_gate_after C_reg_after C_put_at
  have C_net_behind := cal_net_behind (P := PySem.Challenge.pw_wirewatch_k95_whole_flat_and_rewritten) (w := w) (K := K) (mg := mg) (base := base) D.f_net_behind C_net_after C_known_of
  have C_trail := cal_trail (P := PySem.Challenge.pw_wirewatch_k95_whole_flat_and_rewritten) (w := w) (K := K) (mg := mg) (base := base) D.f_trail B C_check_sound C_net_behind
  have C_is_settled := cal_is_settled (P := PySem.Challenge.pw_wirewatch_k95_whole_flat_and_rewritten) (w := w) (K := K) (mg := mg) (base := base) D.f_is_settled C_check_sound C_known_of C_first_step
  have C_rewrite := cal_rewrite (P := PySem.Challenge.pw_wirewatch_k95_whole_flat_and_rewritten) (w := w) (K := K) (mg := mg) (base := base) D.f_rewrite B G C_check_sound C_known_of C_first_step C_net_after
  have C_check_row := cal_check_row (P := PySem.Challenge.pw_wirewatch_k95_whole_flat_and_rewritten) (w := w) (K := K) (mg := mg) (base := base) D.f_check_row B
  have C_check_ticks := cal_check_ticks (P := PySem.Challenge.pw_wirewatch_k95_whole_flat_and_rewritten) (w := w) (K := K) (mg := mg) (base := base) D.f_check_ticks B C_check_row
  have C_first_state := cal_first_state (P := PySem.Challenge.pw_wirewatch_k95_whole_flat_and_rewritten) (w := w) (K := K) (mg := mg) (base := base) D.f_first_state B
  have C_places_of := cal_places_of (P := PySem.Challenge.pw_wirewatch_k95_whole_flat_and_rewritten) (w := w) (K := K) (mg := mg) (base := base) D.f_places_of B C_wires
  have C_picked := cal_picked (P := PySem.Challenge.pw_wirewatch_k95_whole_flat_and_rewritten) (w := w) (K := K) (mg := mg) (base := base) D.f_picked B
  have C_play_plan := cal_play_plan (P := PySem.Challenge.pw_wirewatch_k95_whole_flat_and_rewritten) (w := w) (K := K) (mg := mg) (base := base) D.f_play_plan B C_places_of C_find_order
  have C_op_value_aid_play := cal_op_value_aid_play (P := PySem.Challenge.pw_wirewatch_k95_whole_flat_and_rewritten) (w := w) (K := K) (mg := mg) (base := base) D.f_op_value_aid_play 
  have C_plan_values := cal_plan_values (P := PySem.Challenge.pw_wirewatch_k95_whole_flat_and_rewritten) (w := w) (K := K) (mg := mg) (base := base) D.f_plan_values B C_op_value_aid_play
  have C_run := cal_run (P := PySem.Challenge.pw_wirewatch_k95_whole_flat_and_rewritten) (w := w) (K := K) (mg := mg) (base := base) D.f_run R_Run B G C_check_sound C_check_ticks C_check_row C_first_state C_play_plan C_plan_values C_picked C_places_of
  have C_declared_names := cal_declared_names (P := PySem.Challenge.pw_wirewatch_k95_whole_flat_and_rewritten) (w := w) (K := K) (mg := mg) (base := base) D.f_declared_names 
  have C_names_fault := cal_names_fault (P := PySem.Challenge.pw_wirewatch_k95_whole_flat_and_rewritten) (w := w) (K := K) (mg := mg) (base := base) D.f_names_fault C_is_name
  have C_plain_signals := cal_plain_signals (P := PySem.Challenge.pw_wirewatch_k95_whole_flat_and_rewritten) (w := w) (K := K) (mg := mg) (base := base) D.f_plain_signals 
  have C_all_signals := cal_all_signals (P := PySem.Challenge.pw_wirewatch_k95_whole_flat_and_rewritten) (w := w) (K := K) (mg := mg) (base := base) D.f_all_signals C_plain_signals
  have C_ports_fault := cal_ports_fault (P := PySem.Challenge.pw_wirewatch_k95_whole_flat_and_rewritten) (w := w) (K := K) (mg := mg) (base := base) D.f_ports_fault C_plain_signals
  have C_item_signals := cal_item_signals (P := PySem.Challenge.pw_wirewatch_k95_whole_flat_and_rewritten) (w := w) (K := K) (mg := mg) (base := base) D.f_item_signals B
  have C_own_fault := cal_own_fault (P := PySem.Challenge.pw_wirewatch_k95_whole_flat_and_rewritten) (w := w) (K := K) (mg := mg) (base := base) D.f_own_fault B G C_is_bit
  have C_items_fault := cal_items_fault (P := PySem.Challenge.pw_wirewatch_k95_whole_flat_and_rewritten) (w := w) (K := K) (mg := mg) (base := base) D.f_items_fault C_all_signals C_own_fault C_item_signals
  have C_module_fault := cal_module_fault (P := PySem.Challenge.pw_wirewatch_k95_whole_flat_and_rewritten) (w := w) (K := K) (mg := mg) (base := base) D.f_module_fault C_is_name C_names_fault C_declared_names C_ports_fault C_items_fault
  have C_design_fault := cal_design_fault (P := PySem.Challenge.pw_wirewatch_k95_whole_flat_and_rewritten) (w := w) (K := K) (mg := mg) (base := base) D.f_design_fault C_module_fault
  have C_check_design := cal_check_design (P := PySem.Challenge.pw_wirewatch_k95_whole_flat_and_rewritten) (w := w) (K := K) (mg := mg) (base := base) D.f_check_design C_design_fault
  have C_item_size := cal_item_size (P := PySem.Challenge.pw_wirewatch_k95_whole_flat_and_rewritten) (w := w) (K := K) (mg := mg) (base := base) D.f_item_size B
  have C_add_reg := cal_add_reg (P := PySem.Challenge.pw_wirewatch_k95_whole_flat_and_rewritten) (w := w) (K := K) (mg := mg) (base := base) D.f_add_reg 
  have C_visit := cal_visit (P := PySem.Challenge.pw_wirewatch_k95_whole_flat_and_rewritten) (w := w) (K := K) (mg := mg) (base := base) D.f_visit B C_add_reg 10
  have C_top_name := cal_top_name (w := w) (K := K) (mg := mg) (base := base) D.f_top_name B U
  have C_flat_size := cal_flat_size (w := w) (K := K) (mg := mg) (base := base) D.f_flat_size B C_check_design C_item_size C_top_name
  have C_flatten := cal_flatten (w := w) (K := K) (mg := mg) (base := base) D.f_flatten B G UT C_flat_size C_top_name C_visit
  have C_law_mix := cal_law_mix (P := PySem.Challenge.pw_wirewatch_k95_whole_flat_and_rewritten) (w := w) (K := K) (mg := mg) (base := base) D.f__law_mix B
  have C_law_store := cal_law_store (P := PySem.Challenge.pw_wirewatch_k95_whole_flat_and_rewritten) (w := w) (K := K) (mg := mg) (base := base) D.f__law_store B C_law_mix
  have C_law_take := cal_law_take (P := PySem.Challenge.pw_wirewatch_k95_whole_flat_and_rewritten) (w := w) (K := K) (mg := mg) (base := base) D.f__law_take B C_law_mix
  have C_law_pick := cal_law_pick (P := PySem.Challenge.pw_wirewatch_k95_whole_flat_and_rewritten) (w := w) (K := K) (mg := mg) (base := base) D.f__law_pick B C_law_take
  have C_law_chance := cal_law_chance (P := PySem.Challenge.pw_wirewatch_k95_whole_flat_and_rewritten) (w := w) (K := K) (mg := mg) (base := base) D.f__law_chance C_law_take
  have C_law_some := cal_law_some (P := PySem.Challenge.pw_wirewatch_k95_whole_flat_and_rewritten) (w := w) (K := K) (mg := mg) (base := base) D.f__law_some B C_law_take
  have C_law_labels := cal_law_labels (P := PySem.Challenge.pw_wirewatch_k95_whole_flat_and_rewritten) (w := w) (K := K) (mg := mg) (base := base) D.f__law_labels B C_law_take C_law_pick
  have C_law_slim_gate := cal_law_slim_gate (P := PySem.Challenge.pw_wirewatch_k95_whole_flat_and_rewritten) (w := w) (K := K) (mg := mg) (base := base) D.f__law_slim_gate B C_law_pick
  have C_law_op := cal_law_op (P := PySem.Challenge.pw_wirewatch_k95_whole_flat_and_rewritten) (w := w) (K := K) (mg := mg) (base := base) D.f__law_op B
  have C_law_bit_rows := cal_law_bit_rows (P := PySem.Challenge.pw_wirewatch_k95_whole_flat_and_rewritten) (w := w) (K := K) (mg := mg) (base := base) D.f__law_bit_rows B C_law_take
  have C_law_shown := cal_law_shown (P := PySem.Challenge.pw_wirewatch_k95_whole_flat_and_rewritten) (w := w) (K := K) (mg := mg) (base := base) D.f__law_shown B
  have C_law_sorted := cal_law_sorted (P := PySem.Challenge.pw_wirewatch_k95_whole_flat_and_rewritten) (w := w) (K := K) (mg := mg) (base := base) D.f__law_sorted B
  have C_law_alike := cal_law_alike (P := PySem.Challenge.pw_wirewatch_k95_whole_flat_and_rewritten) (w := w) (K := K) (mg := mg) (base := base) D.f__law_alike B 6
  have C_law_play := cal_law_play (P := PySem.Challenge.pw_wirewatch_k95_whole_flat_and_rewritten) (w := w) (K := K) (mg := mg) (base := base) D.f__law_play B C_law_sorted C_law_op
  have C_law_rows_from := cal_law_rows_from (P := PySem.Challenge.pw_wirewatch_k95_whole_flat_and_rewritten) (w := w) (K := K) (mg := mg) (base := base) D.f__law_rows_from B C_law_play C_law_shown
  have C_law_visit := cal_law_visit (P := PySem.Challenge.pw_wirewatch_k95_whole_flat_and_rewritten) (w := w) (K := K) (mg := mg) (base := base) D.f__law_visit B 10
  have C_law_flat := cal_law_flat (P := PySem.Challenge.pw_wirewatch_k95_whole_flat_and_rewritten) (w := w) (K := K) (mg := mg) (base := base) D.f__law_flat B C_law_visit
  have C_law_asked := cal_law_asked (w := w) (K := K) (mg := mg) (base := base) D.f__law_asked B U UT XU XT XN C_flat_size C_flatten
  have C_law_slim_module := cal_law_slim_module (P := PySem.Challenge.pw_wirewatch_k95_whole_flat_and_rewritten) (w := w) (K := K) (mg := mg) (base := base) D.f__law_slim_module B C_law_take C_law_pick C_law_labels C_law_slim_gate C_law_some
  have C_law_rewritten_right := cal_law_rewritten_right (P := PySem.Challenge.pw_wirewatch_k95_whole_flat_and_rewritten) (w := w) (K := K) (mg := mg) (base := base) D.f__law_rewritten_right B R_Run C_law_take C_rewrite C_law_alike C_law_sorted C_law_shown C_law_play C_law_rows_from C_run C_trail C_is_settled
  exact ⟨C_law_store, C_law_take, C_law_pick, C_law_chance, C_law_labels, C_law_slim_module, C_law_asked, C_law_alike, C_law_flat, C_law_bit_rows, C_law_rewritten_right⟩
theorem law_all {w : World} {K : PySem.W.Frag} {mg : Str → Option Value} (D : Dfs K mg) (B : Bl mg) (C : ∀ base, LawC w K mg base) : ∃ f fd, (∀ base : Heap, FnOk PySem.Challenge.pw_wirewatch_k95_whole_flat_and_rewritten w K mg base CX0 15 f fd ["_law_script"] (spLaw K)) ∧ mg "law" = some (.ref f) ∧ ∀ (s : Shared) (us : List Value), us.length = 1 → BindsTo s fd ⟨us, []⟩ (List.zip ["_law_script"] us) :=
  cal_law D.f_law B (fun b => (C b).C_law_store) (fun b => (C b).C_law_take) (fun b => (C b).C_law_pick) (fun b => (C b).C_law_chance) (fun b => (C b).C_law_labels) (fun b => (C b).C_law_slim_module) (fun b => (C b).C_law_asked) (fun b => (C b).C_law_alike) (fun b => (C b).C_law_flat) (fun b => (C b).C_law_bit_rows) (fun b => (C b).C_law_rewritten_right)
end Wi
set_option maxHeartbeats 4000000
set_option maxRecDepth 100000
namespace Wi
open PySem L2 PySem.Spec PyProof.Rows NdefX
/-! F4: the end -/
theorem super_top : ((PySem.Program.main PySem.Challenge.pw_wirewatch_k95_whole_flat_and_rewritten).scope.names.lookup ("super" : Str)).isSome = false := by kernel_rfl
section
variable {w : World} {K : PySem.W.Frag} {h : Heap} {mg : Str → Option Value}
theorem un_ok (X : K.In h) (G : h.Ns mainGlobals mg) (c : He.SaysD facs fns K) (e : fnS K "UnknownName" = valS "UnknownName.__init__" 9) (b : supB (PySem.Program.main PySem.Challenge.pw_wirewatch_k95_whole_flat_and_rewritten).file K "UnknownName" "UnknownName.__init__" = true) : UNC K mg (He.ga K "UnknownName") := by
  obtain ⟨cc, cd, fd, S, h1, h2, kV, doc, pm, an, ct, rfl⟩ := supB_ok (P := PySem.Challenge.pw_wirewatch_k95_whole_flat_and_rewritten) b e super_top
  exact ⟨⟨cc, cd, _, _, fun P hP => by rw [hP]; exact S, h1, h2, Binds.all fun us hl => match us, hl with | [_, _], _ => rfl⟩, g_UnknownName X G c, super_ok X G c, n_UnknownName_name c⟩
theorem tl_ok (X : K.In h) (G : h.Ns mainGlobals mg) (c : He.SaysD facs fns K) (e : fnS K "TooLarge" = valS "TooLarge.__init__" 10) (b : supB (PySem.Program.main PySem.Challenge.pw_wirewatch_k95_whole_flat_and_rewritten).file K "TooLarge" "TooLarge.__init__" = true) : TLC K mg (He.ga K "TooLarge") := by
  obtain ⟨cc, cd, fd, S, h1, h2, kV, doc, pm, an, ct, rfl⟩ := supB_ok (P := PySem.Challenge.pw_wirewatch_k95_whole_flat_and_rewritten) b e super_top
  exact ⟨⟨cc, cd, _, _, fun P hP => by rw [hP]; exact S, h1, h2, Binds.all fun us hl => match us, hl with | [_, _, _], _ => rfl⟩, g_TooLarge X G c, super_ok X G c, n_TooLarge_what c, n_TooLarge_most c⟩
theorem run_ok (X : K.In h) (G : h.Ns mainGlobals mg) (c : He.SaysD facs fns K) : RunC K mg (He.ga K "Run") := by
  obtain ⟨fd, F⟩ := c.def_ iRun (d := ⟨("Run", some "__init__"), "__init__", "Run.__init__", defArgs (ctop 98 0), defBody (ctop 98 0), defScope (ctop 98 0), [], []⟩) rfl
  exact ⟨⟨_, fd, m_Run c, F⟩, g_Run X G c, c_Run c, n_Run_rows c, n_Run_own_places c, n_Run_own_values c, n_Run_own_states c⟩
theorem law_end (X : K.In h) (G : h.Ns mainGlobals mg) (c0 : obsW K = valW w) : ∃ f fd, (∀ base : Heap, FnOk PySem.Challenge.pw_wirewatch_k95_whole_flat_and_rewritten w K mg base CX0 15 f fd ["_law_script"] (spLaw K)) ∧ mg "law" = some (.ref f) ∧ ∀ (s : Shared) (us : List Value), us.length = 1 → BindsTo s fd ⟨us, []⟩ (List.zip ["_law_script"] us) := by
  have c1 : He.SaysT facs fns tabs w K := congrArg (fun z : AlW => z.1) c0
  have e1 : fnS K "UnknownName" = valS "UnknownName.__init__" 9 := congrArg (fun z : AlW => z.2.1) c0
  have e2 : fnS K "TooLarge" = valS "TooLarge.__init__" 10 := congrArg (fun z : AlW => z.2.2.1) c0
  have e3 : extB K = true := congrArg (fun z : AlW => z.2.2.2) c0
  have c := c1.d
  obtain ⟨t1, e3⟩ := He.ba e3
  obtain ⟨t2, e3⟩ := He.ba e3
  obtain ⟨t3, e3⟩ := He.ba e3
  obtain ⟨t4, t5⟩ := He.ba e3
  have D := dfs_ok (w := w) X G c
  have B := bl_ok X G c
  exact law_all D B (law_cal D B (gc_ok X G c1 t1) (un_ok X G c e1 t2) (tl_ok X G c e2 t3) (xcB_ok t4 (x_UnknownName_UnknownName c)) (xcB_ok t5 (x_TooLarge_TooLarge c)) (x_TooLarge_UnknownName c) (run_ok X G c))
end
end Wi
open PySem PySem.W PySem.Calls PyProof.Rows
theorem PySem.Challenge.cw_wirewatch_k95_whole_flat_and_rewritten_holds : PySem.Challenge.rw_wirewatch_k95_whole_flat_and_rewritten.Holds := by
  w_on; o_law
  refine HandSHeadRun.head_any (r := OpenLaw.row PySem.Challenge.rw_wirewatch_k95_whole_flat_and_rewritten) (q := Wi.qW) (H := Wi.hkW) (ob := Wi.obW) (M := 12000) (loose := Wi.looseW) (d := HandSHeadRun.topDef (OpenLaw.row PySem.Challenge.rw_wirewatch_k95_whole_flat_and_rewritten).prog 121) (kwd := []) Wi.obW_eq
    (by kernel_rfl) (fun s => by kernel_rfl) Wi.runW (by kernel_rfl) (by kernel_rfl) (by kernel_rfl) (by rfl) (by first | assumption | decide +kernel) (by decide +kernel) ⟨rfl, rfl, rfl, rfl, rfl, by decide +kernel⟩ ?hw ?hc
  case hw => w_witness2
  case hc =>
    refine L2.walk_ofE (l := PySem.Challenge.rw_wirewatch_k95_whole_flat_and_rewritten) (n := 63) (k := 15) (x := "_law_script") (CX := L2.CX0) rfl (by decide) (by kernel_rfl) ⟨rfl, by decide, by decide⟩ ?F (fun _ _ _ _ z => z)
    intro w mg fa h Y G hmg0
    obtain ⟨K, KX, c⟩ := Y
    have hmg : mg ("law" : PySem.Str) = some (.ref fa) := by
      have e : (HandSHeadRun.topDef (OpenLaw.row PySem.Challenge.rw_wirewatch_k95_whole_flat_and_rewritten).prog 121).name = ("law" : PySem.Str) := by kernel_rfl
      rw [← e]
      exact hmg0
    obtain ⟨f, fd, hF, hf, hb⟩ := Wi.law_end KX G c
    have e := hmg.symm.trans hf
    cases e
    exact ⟨K, fd, Wi.spLaw K, KX, fun s u => hb s [u] rfl, fun H a ns hl _ hS => ⟨a, ns, rfl, hS, by omega, fun _ => rfl⟩, fun base _ _ => hF base⟩
