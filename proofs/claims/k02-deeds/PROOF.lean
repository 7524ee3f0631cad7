import PyProof.Rows.All
import Wide.All
import OpenK.AllK
import Wide.FinOn
import HandS.ForMost
import HandS.Deep
import HandS.ExcOwn
import HandS.WordsExc
import KE.GoesEnum
import HandS.Zip
import HandS.StrMore
import HandS.IsInst
import HandS.TupAny
import HandS.TupLe
import HandS.TupMul
import HandS.Wide
import HandS.FStr
import HandS.Dict
import PyProof.StrBlock2
import HandS.More
import HandS.Text
import HandS.RaiseMore
import HandS.DictComp
import HandS.Property
import PyProof.ReprRoads
import PyProof.Rows.SortStr
import PyProof.Rows.ReprOcc
import PyProof.Rows.ReprShort
import PySem.Challenge.RW_chartsrun_k02_deeds_in_order
set_option Elab.async false
set_option linter.all false
set_option maxRecDepth 100000
set_option maxHeartbeats 4000000
/-! DLa: values as trees, slots, the relation between slots and the heap, the judgements. -/
namespace DL
open PySem PySem.Spec PyProof.Rows L2

abbrev St := L2.St
/-- a value as a tree -/
inductive D where
  | non | bl (b : Bool) | int (i : Int) | str (x : Str)
  | tup (ds : List D) | lst (ds : List D) | dct (kvs : List (Key × D)) | ins (n : Str) (fs : List (Str × D)) | scr (ns : List Int)
/-- an object that one slot owns -/
inductive OV where
  | lst (ds : List D) | dct (kvs : List (Key × D)) | ins (n : Str) (fs : List (Str × D))
def OV.toD : OV → D
  | .lst ds => .lst ds
  | .dct kvs => .dct kvs
  | .ins n fs => .ins n fs
/-- a slot: nothing known; a frozen value; an owned object (io: a parameter's, the caller's own); one lent to a loop -/
inductive Sl where
  | no | fz (d : D) | ow (io : Bool) (o : OV) | ln (io : Bool) (o : OV)
def Sl.isIo : Sl → Bool
  | .ow b _ => b
  | .ln b _ => b
  | _ => false
/-- what a slot holds -/
def Sl.cont : Sl → Option D
  | .no => none
  | .fz d => some d
  | .ow _ o => some o.toD
  | .ln _ o => some o.toD
/-- an exception: its class, its fields -/
structure Exn where
  c : Str
  fs : List (Str × D)
abbrev Ro := List Sl
inductive Res (α : Type) where
  | ok (a : α) (ρ : Ro) | ex (x : Exn) (ρ : Ro) | bad
abbrev M (α : Type) := Ro → Res α
def M.bind {α β : Type} (f : M α) (k : α → M β) : M β := fun ρ => match f ρ with
  | .ok a ρ' => k a ρ'
  | .ex x ρ' => .ex x ρ'
  | .bad => .bad
def M.ret {α : Type} (a : α) : M α := fun ρ => .ok a ρ
def M.of {α : Type} : Option α → M α
  | some a => fun ρ => .ok a ρ
  | none => fun _ => .bad
/-- what an expression hands on: a frozen value; a slot's own; a new object -/
inductive R where
  | val (d : D) | sl (i : Nat) | nw (o : OV)

structure Cn where
  K : PySem.W.Frag
  ca : Str → Option Addr

mutual
inductive Rep (c : Cn) (G : Hp) : D → V → Prop
  | non : Rep c G .non .non
  | bl (b : Bool) : Rep c G (.bl b) (.bl b)
  | int (i : Int) : Rep c G (.int i) (.int i)
  | str (x : Str) : Rep c G (.str x) (.str x)
  | tup {a : Addr} {vs : List V} {ds : List D} : SqT c.K G a vs → Reps c G ds vs → Rep c G (.tup ds) (.ref a)
  | lst {a : Addr} {vs : List V} {ds : List D} : G a = some (.lst vs) → Reps c G ds vs → Rep c G (.lst ds) (.ref a)
  | scr {a : Addr} {ns : List Int} : SqL c.K G a (ns.map V.int) → Rep c G (.scr ns) (.ref a)
  | dct {a : Addr} {kvs : List (Key × V)} {ds : List (Key × D)} : G a = some (.dK kvs) → ds.map (·.1) = kvs.map (·.1) → Reps c G (ds.map (·.2)) (kvs.map (·.2)) → Rep c G (.dct ds) (.ref a)
  | ins {a C dx : Addr} {fs : List (Str × V)} {n : Str} {ds : List (Str × D)} : c.ca n = some C → G a = some (.ins C dx fs) → G dx = some (.own a) → ds.map (·.1) = fs.map (·.1) → Reps c G (ds.map (·.2)) (fs.map (·.2)) → Rep c G (.ins n ds) (.ref a)
inductive Reps (c : Cn) (G : Hp) : List D → List V → Prop
  | nil : Reps c G [] []
  | cons {d : D} {v : V} {ds : List D} {vs : List V} : Rep c G d v → Reps c G ds vs → Reps c G (d :: ds) (v :: vs)
end

theorem Rd.same {G G' : Hp} (s : Same G G') {a : Addr} {u : HO} (h : Rd G a u) : Rd G' a u := by
  rcases h with h | ⟨o, h⟩
  · exact .inl (s _ _ h)
  · exact .inr ⟨o, s _ _ h⟩
theorem sqL_same {K : PySem.W.Frag} {G G' : Hp} (s : Same G G') {a : Addr} {xs : List V} (h : SqL K G a xs) : SqL K G' a xs := by
  rcases h with h | h
  · exact .inl (Rd.same s h)
  · exact .inr h
theorem sqT_same {K : PySem.W.Frag} {G G' : Hp} (s : Same G G') {a : Addr} {xs : List V} (h : SqT K G a xs) : SqT K G' a xs := by
  rcases h with h | h
  · exact .inl (Rd.same s h)
  · exact .inr h

section
variable {c : Cn} {G G' H H' : Hp}
mutual
theorem Rep.mono (s : Same G G') : ∀ {d : D} {v : V}, Rep c G d v → Rep c G' d v
  | _, _, .non => .non
  | _, _, .bl b => .bl b
  | _, _, .int i => .int i
  | _, _, .str x => .str x
  | _, _, .tup h r => .tup (sqT_same s h) (Reps.mono s r)
  | _, _, .lst h r => .lst (s _ _ h) (Reps.mono s r)
  | _, _, .scr h => .scr (sqL_same s h)
  | _, _, .dct h e r => .dct (s _ _ h) e (Reps.mono s r)
  | _, _, .ins k h o e r => .ins k (s _ _ h) (s _ _ o) e (Reps.mono s r)
theorem Reps.mono (s : Same G G') : ∀ {ds : List D} {vs : List V}, Reps c G ds vs → Reps c G' ds vs
  | _, _, .nil => .nil
  | _, _, .cons h r => .cons (Rep.mono s h) (Reps.mono s r)
end
theorem Reps.length : ∀ {ds : List D} {vs : List V}, Reps c G ds vs → ds.length = vs.length
  | _, _, .nil => rfl
  | _, _, .cons _ r => congrArg Nat.succ (Reps.length r)
theorem Reps.get : ∀ {ds : List D} {vs : List V} {i : Nat} {d : D}, Reps c G ds vs → ds[i]? = some d → ∃ v, vs[i]? = some v ∧ Rep c G d v
  | _, _, _, _, .nil, e => by simp at e
  | _, _, 0, _, .cons h _, e => by simp at e; subst e; exact ⟨_, rfl, h⟩
  | _, _, i + 1, _, .cons _ r, e => by
    obtain ⟨v, h1, h2⟩ := Reps.get (i := i) r (by simpa using e)
    exact ⟨v, by simpa using h1, h2⟩
theorem Reps.getV : ∀ {ds : List D} {vs : List V} {i : Nat} {v : V}, Reps c G ds vs → vs[i]? = some v → ∃ d, ds[i]? = some d ∧ Rep c G d v
  | _, _, _, _, .nil, e => by simp at e
  | _, _, 0, _, .cons h _, e => by simp at e; subst e; exact ⟨_, rfl, h⟩
  | _, _, i + 1, _, .cons _ r, e => by
    obtain ⟨v, h1, h2⟩ := Reps.getV (i := i) r (by simpa using e)
    exact ⟨v, by simpa using h1, h2⟩
theorem Reps.append : ∀ {ds es : List D} {vs ws : List V}, Reps c G ds vs → Reps c G es ws → Reps c G (ds ++ es) (vs ++ ws)
  | _, _, _, _, .nil, r => r
  | _, _, _, _, .cons h t, r => .cons h (Reps.append t r)
theorem Reps.set {d : D} {v : V} (h : Rep c G d v) : ∀ {ds : List D} {vs : List V} (i : Nat), Reps c G ds vs → Reps c G (ds.set i d) (vs.set i v)
  | _, _, _, .nil => .nil
  | _, _, 0, .cons _ r => .cons h r
  | _, _, i + 1, .cons k r => .cons k (Reps.set h i r)
theorem Reps.take : ∀ {ds : List D} {vs : List V} (n : Nat), Reps c G ds vs → Reps c G (ds.take n) (vs.take n)
  | _, _, 0, _ => by simp; exact .nil
  | _, _, _ + 1, .nil => .nil
  | _, _, n + 1, .cons h r => .cons h (Reps.take n r)
theorem Reps.drop : ∀ {ds : List D} {vs : List V} (n : Nat), Reps c G ds vs → Reps c G (ds.drop n) (vs.drop n)
  | _, _, 0, r => r
  | _, _, _ + 1, .nil => .nil
  | _, _, n + 1, .cons _ r => Reps.drop n r
theorem Reps.erase : ∀ {ds : List D} {vs : List V} (n : Nat), Reps c G ds vs → Reps c G (ds.eraseIdx n) (vs.eraseIdx n)
  | _, _, _, .nil => .nil
  | _, _, 0, .cons _ r => r
  | _, _, n + 1, .cons h r => .cons h (Reps.erase n r)
theorem Reps.reverse {ds : List D} {vs : List V} (r : Reps c G ds vs) : Reps c G ds.reverse vs.reverse := by
  induction ds generalizing vs with
  | nil => cases r; exact .nil
  | cons d ds ih =>
    cases r with
    | cons h r =>
      rw [List.reverse_cons, List.reverse_cons]
      exact (ih r).append (.cons h .nil)

/-- a value that is read at once: its own object in H, what is within in G -/
def RepR (c : Cn) (G H : Hp) : D → V → Prop
  | .non, v => v = .non
  | .bl b, v => v = .bl b
  | .int i, v => v = .int i
  | .str x, v => v = .str x
  | .tup ds, v => ∃ a vs, v = .ref a ∧ SqT c.K G a vs ∧ Reps c G ds vs
  | .lst ds, v => ∃ a vs, v = .ref a ∧ H a = some (.lst vs) ∧ Reps c G ds vs
  | .scr ns, v => ∃ a, v = .ref a ∧ SqL c.K H a (ns.map V.int)
  | .dct ds, v => ∃ a kvs, v = .ref a ∧ H a = some (.dK kvs) ∧ ds.map (·.1) = kvs.map (·.1) ∧ Reps c G (ds.map (·.2)) (kvs.map (·.2))
  | .ins n ds, v => ∃ a C dx fs, v = .ref a ∧ c.ca n = some C ∧ H a = some (.ins C dx fs) ∧ H dx = some (.own a) ∧ ds.map (·.1) = fs.map (·.1) ∧ Reps c G (ds.map (·.2)) (fs.map (·.2))
theorem Rep.rd (s : Same G H) {d : D} {v : V} (h : Rep c G d v) : RepR c G H d v := by
  cases h with
  | non => rfl
  | bl b => rfl
  | int i => rfl
  | str x => rfl
  | tup h r => exact ⟨_, _, rfl, h, r⟩
  | lst h r => exact ⟨_, _, rfl, s _ _ h, r⟩
  | scr h => exact ⟨_, rfl, sqL_same s h⟩
  | dct h e r => exact ⟨_, _, rfl, s _ _ h, e, r⟩
  | ins k h o e r => exact ⟨_, _, _, _, rfl, k, s _ _ h, s _ _ o, e, r⟩

/-- an owned object, at addresses of P -/
def OwR (c : Cn) (G H : Hp) (P : Addr → Prop) : OV → V → Prop
  | .lst ds, v => ∃ a vs, v = .ref a ∧ P a ∧ H a = some (.lst vs) ∧ Reps c G ds vs
  | .dct ds, v => ∃ a kvs, v = .ref a ∧ P a ∧ H a = some (.dK kvs) ∧ ds.map (·.1) = kvs.map (·.1) ∧ Reps c G (ds.map (·.2)) (kvs.map (·.2))
  | .ins n ds, v => ∃ a C dx fs, v = .ref a ∧ P a ∧ P dx ∧ dx ≠ a ∧ c.ca n = some C ∧ H a = some (.ins C dx fs) ∧ H dx = some (.own a) ∧ ds.map (·.1) = fs.map (·.1) ∧ Reps c G (ds.map (·.2)) (fs.map (·.2))
theorem OwR.rd {P : Addr → Prop} : ∀ {o : OV} {v : V}, OwR c G H P o v → RepR c G H o.toD v
  | .lst _, _, ⟨a, vs, e, _, h, r⟩ => ⟨a, vs, e, h, r⟩
  | .dct _, _, ⟨a, kvs, e, _, h, k, r⟩ => ⟨a, kvs, e, h, k, r⟩
  | .ins _ _, _, ⟨a, C, dx, fs, e, _, _, _, k, h, o, m, r⟩ => ⟨a, C, dx, fs, e, k, h, o, m, r⟩
/-- what it leans on -/
theorem OwR.at {P P' : Addr → Prop} (s : Same G G') (k : ∀ b o, P b → H b = some o → H' b = some o) (hp : ∀ b, P b → P' b) : ∀ {o : OV} {v : V}, OwR c G H P o v → OwR c G' H' P' o v
  | .lst _, _, ⟨a, vs, e, p, h, r⟩ => ⟨a, vs, e, hp _ p, k _ _ p h, r.mono s⟩
  | .dct _, _, ⟨a, kvs, e, p, h, m, r⟩ => ⟨a, kvs, e, hp _ p, k _ _ p h, m, r.mono s⟩
  | .ins _ _, _, ⟨a, C, dx, fs, e, p, q, ne, l, h, o, m, r⟩ => ⟨a, C, dx, fs, e, hp _ p, hp _ q, ne, l, k _ _ p h, k _ _ q o, m, r.mono s⟩

abbrev Own := Nat → Addr → Prop
def ao (own : Own) (b : Addr) : Prop := ∃ i, own i b

def SlR (c : Cn) (G H : Hp) (P : Addr → Prop) : Sl → Option (Option V) → Prop
  | .no, _ => True
  | .fz d, x => ∃ v, x = some (some v) ∧ Rep c G d v
  | .ow _ o, x => ∃ v, x = some (some v) ∧ OwR c G H P o v
  | .ln _ o, x => ∃ v, x = some (some v) ∧ OwR c G H P o v
theorem SlR.at {P P' : Addr → Prop} (s : Same G G') (k : ∀ b o, P b → H b = some o → H' b = some o) (hp : ∀ b, P b → P' b) : ∀ {l : Sl} {x : Option (Option V)}, SlR c G H P l x → SlR c G' H' P' l x
  | .no, _, _ => trivial
  | .fz _, _, ⟨v, e, r⟩ => ⟨v, e, r.mono s⟩
  | .ow _ _, _, ⟨v, e, r⟩ => ⟨v, e, r.at s k hp⟩
  | .ln _ _, _, ⟨v, e, r⟩ => ⟨v, e, r.at s k hp⟩

/-- the slots and the heap: G the frozen part, own the addresses of each slot -/
structure SR (c : Cn) (σ0 : St) (G : Hp) (own : Own) (ρ : Ro) (σ : St) (H : Hp) : Prop where
  same : Same G H
  out : ∀ i b, own i b → G b = none
  there : ∀ i b, own i b → ∃ o, H b = some o
  dis : ∀ i j b, own i b → own j b → i = j
  len : ρ.length = σ.length
  slot : ∀ (i : Nat) (s : Sl), ρ[i]? = some s → SlR c G H (own i) s (σ[i]?)
  io : ∀ (i : Nat) (s : Sl), ρ[i]? = some s → s.isIo = true → σ[i]? = σ0[i]?

/-- from one state to a later one -/
structure Tr (ρ : Ro) (σ : St) (G : Hp) (own : Own) (H : Hp) (ρ' : Ro) (σ' : St) (G' : Hp) (own' : Own) (H' : Hp) : Prop where
  ext : Same G G'
  keep : ∀ b o, H b = some o → ¬ ao own b → H' b = some o
  gnew : ∀ b o, G' b = some o → G b = some o ∨ H b = none ∨ ao own b
  onew : ∀ b, ao own' b → ao own b ∨ H b = none
  lent : ∀ (j : Nat) (k : Bool) (o : OV), ρ[j]? = some (Sl.ln k o) → ρ'[j]? = some (Sl.ln k o) ∧ σ'[j]? = σ[j]?
section
variable {own own' own1 own2 : Own} {ρ ρ' ρ1 ρ2 : Ro} {σ σ' σ1 σ2 : St} {G1 G2 H1 H2 : Hp}
theorem Tr.refl : Tr ρ σ G own H ρ σ G own H :=
  ⟨Same.refl _, fun _ _ h _ => h, fun _ _ h => .inl h, fun _ h => .inl h, fun _ _ _ h => ⟨h, rfl⟩⟩
/-- what is new behind a step was new or owned ahead of it -/
theorem Tr.back (t : Tr ρ σ G own H ρ1 σ1 G1 own1 H1) {b : Addr} (h : H1 b = none ∨ ao own1 b) : H b = none ∨ ao own b := by
  rcases h with h | h
  · cases e : H b with
    | none => exact .inl rfl
    | some o =>
      refine .inr (Classical.byContradiction fun n => ?_)
      rw [t.keep b o e n] at h
      cases h
  · rcases t.onew b h with h | h
    · exact .inr h
    · exact .inl h
theorem Tr.trans (t : Tr ρ σ G own H ρ1 σ1 G1 own1 H1) (u : Tr ρ1 σ1 G1 own1 H1 ρ2 σ2 G2 own2 H2) : Tr ρ σ G own H ρ2 σ2 G2 own2 H2 where
  ext := t.ext.trans u.ext
  keep := fun b o h n => u.keep b o (t.keep b o h n) fun m => by
    rcases t.onew b m with k | k
    · exact n k
    · rw [h] at k; cases k
  gnew := fun b o h => by
    rcases u.gnew b o h with k | k
    · exact t.gnew b o k
    · exact .inr (t.back k)
  onew := fun b h => by
    rcases u.onew b h with k | k
    · exact t.onew b k
    · rcases t.back (.inl k) with z | z
      · exact .inr z
      · exact .inl z
  lent := fun j k o h => by
    obtain ⟨h1, e1⟩ := t.lent j k o h
    obtain ⟨h2, e2⟩ := u.lent j k o h1
    exact ⟨h2, e2.trans e1⟩
end

/-- what an expression hands on, as a value; N: the addresses that are new since its beginning -/
def RR (c : Cn) (G : Hp) (own : Own) (σ : St) (H : Hp) (N : Addr → Prop) : R → V → Prop
  | .val d, v => Rep c G d v
  | .sl i, v => σ[i]? = some (some v)
  | .nw o, v => ∃ P : Addr → Prop, OwR c G H P o v ∧ ∀ b, P b → G b = none ∧ ¬ ao own b ∧ (∃ o, H b = some o) ∧ N b
theorem RR.mono {own : Own} {σ : St} {N N' : Addr → Prop} (h : ∀ b, N b → N' b) : ∀ {r : R} {v : V}, RR c G own σ H N r v → RR c G own σ H N' r v
  | .val _, _, x => x
  | .sl _, _, x => x
  | .nw _, _, ⟨P, x, y⟩ => ⟨P, x, fun b p => ⟨(y b p).1, (y b p).2.1, (y b p).2.2.1, h b (y b p).2.2.2⟩⟩
end

/-- an exception as it is told: class, dict -/
def ExR (c : Cn) (G H : Hp) (x : Exn) (cls : Value) (d : Option Addr) : Prop :=
  ∃ C, c.ca x.c = some C ∧ cls = .ref C ∧ (x.fs = [] ∨ ∃ dx fs, d = some dx ∧ H dx = some (.xd fs) ∧ x.fs.map (·.1) = fs.map (·.1) ∧ Reps c G (x.fs.map (·.2)) (fs.map (·.2)))

/-! ### judgements -/
abbrev Rl (α τ : Type) := Hp → Own → St → Hp → (Addr → Prop) → α → τ → Prop
def RlMono {α τ : Type} (rel : Rl α τ) : Prop := ∀ G own σ H (N N' : Addr → Prop) r v, (∀ b, N b → N' b) → rel G own σ H N r v → rel G own σ H N' r v
def XP {α τ : Type} (rel : Rl α τ) (c : Cn) (σ0 : St) (W : WX) (σ : St) (ρ : Ro) (G : Hp) (own : Own) (H : Hp) (Q : τ → Hp → Prop) : Res α → Prop
  | .ok r ρ' => ∀ G' own' H' v, Tr ρ σ G own H ρ' σ G' own' H' → SR c σ0 G' own' ρ' σ H' → rel G' own' σ H' (fun b => H b = none ∨ ao own b) r v → Q v H'
  | .ex x ρ' => ∀ G' own' H' cls d, Tr ρ σ G own H ρ' σ G' own' H' → SR c σ0 G' own' ρ' σ H' → ExR c G' H' x cls d → W cls d σ H'
  | .bad => False
def tX {α τ : Type} (rel : Rl α τ) (c : Cn) (σ0 : St) (W : WX) (f : M α) : St → Hp → (τ → Hp → Prop) → Prop := fun σ H Q =>
  ∃ G own ρ, SR c σ0 G own ρ σ H ∧ XP rel c σ0 W σ ρ G own H Q (f ρ)
abbrev relR (c : Cn) : Rl R V := fun G own σ H N r v => RR c G own σ H N r v
abbrev relB : Rl Bool Bool := fun _ _ _ _ _ b b' => b = b'
/-- several frozen values or slots -/
inductive RRs (c : Cn) (G : Hp) (σ : St) : List R → List V → Prop
  | nil : RRs c G σ [] []
  | val {d : D} {v : V} {rs : List R} {vs : List V} : Rep c G d v → RRs c G σ rs vs → RRs c G σ (.val d :: rs) (v :: vs)
  | sl {i : Nat} {v : V} {rs : List R} {vs : List V} : σ[i]? = some (some v) → RRs c G σ rs vs → RRs c G σ (.sl i :: rs) (v :: vs)
abbrev relA (c : Cn) : Rl (List R) (List V) := fun G _ σ _ _ rs vs => RRs c G σ rs vs
abbrev tD (c : Cn) (σ0 : St) (W : WX) (f : M R) : TE := tX (relR c) c σ0 W f
abbrev tT (c : Cn) (σ0 : St) (W : WX) (f : M Bool) : TT := tX relB c σ0 W f
abbrev tA (c : Cn) (σ0 : St) (W : WX) (f : M (List R)) : TA := tX (relA c) c σ0 W f

theorem PE.imp {X : Cx} {e : Expr} {t t' : TE} (h : PE X e t) (k : ∀ σ H Q, t' σ H Q → t σ H Q) : PE X e t' := ⟨fun pins s σ H Q I q => h.run pins s σ H Q I (k σ H Q q)⟩
theorem PT.imp {X : Cx} {e : Expr} {t t' : TT} (h : PT X e t) (k : ∀ σ H Q, t' σ H Q → t σ H Q) : PT X e t' := ⟨fun pins s σ H Q I q => h.run pins s σ H Q I (k σ H Q q)⟩
theorem PA.imp {X : Cx} {es : List Expr} {t t' : TA} (h : PA X es t) (k : ∀ σ H Q, t' σ H Q → t σ H Q) : PA X es t' := ⟨fun pos pins s σ H Q I q => h.run pos pins s σ H Q I (k σ H Q q)⟩
theorem PS.imp {X : Cx} {e : Stmt} {t t' : TS} (h : PS X e t) (k : ∀ D σ H, t' D σ H → t D σ H) : PS X e t' := ⟨fun pins s σ H D I q => h.run pins s σ H D I (k D σ H q)⟩
theorem PSs.imp {X : Cx} {e : List Stmt} {t t' : TS} (h : PSs X e t) (k : ∀ D σ H, t' D σ H → t D σ H) : PSs X e t' := ⟨fun pins s σ H D I q => h.run pins s σ H D I (k D σ H q)⟩

section
variable {α β τ υ : Type} {rel : Rl α τ} {rel2 : Rl β υ} {c : Cn} {σ0 : St} {W : WX} {σ : St} {ρ : Ro} {G H : Hp} {own : Own}
/-- one part, then the rest -/
theorem XP.bind {f : M α} {k : α → M β} {Q : υ → Hp → Prop} {T : τ → Hp → Prop} (S : SR c σ0 G own ρ σ H) (h : XP rel2 c σ0 W σ ρ G own H Q (M.bind f k ρ))
    (hk : ∀ r ρ1 G1 own1 H1 v, Tr ρ σ G own H ρ1 σ G1 own1 H1 → SR c σ0 G1 own1 ρ1 σ H1 → rel G1 own1 σ H1 (fun b => H b = none ∨ ao own b) r v → XP rel2 c σ0 W σ ρ G own H Q (k r ρ1) → T v H1) :
    tX rel c σ0 W f σ H T := by
  refine ⟨G, own, ρ, S, ?_⟩
  unfold M.bind at h
  cases e : f ρ with
  | ok r ρ1 =>
    rw [e] at h
    exact fun G1 own1 H1 v t S1 r1 => hk r ρ1 G1 own1 H1 v t S1 r1 h
  | ex x ρ1 =>
    rw [e] at h
    exact h
  | bad =>
    rw [e] at h
    exact h
/-- the rest, seen from the middle -/
theorem XP.from {ρ1 : Ro} {G1 H1 : Hp} {own1 : Own} {Q : τ → Hp → Prop} {x : Res α} (t : Tr ρ σ G own H ρ1 σ G1 own1 H1) (h : XP rel c σ0 W σ ρ G own H Q x)
    (hm : RlMono rel) : XP rel c σ0 W σ ρ1 G1 own1 H1 Q x := by
  cases x with
  | ok r ρ2 => exact fun G2 own2 H2 v u S r2 => h G2 own2 H2 v (t.trans u) S (hm _ _ _ _ _ _ _ _ (fun b => t.back) r2)
  | ex x ρ2 => exact fun G2 own2 H2 cls d u S r2 => h G2 own2 H2 cls d (t.trans u) S r2
  | bad => exact h
end
theorem relR_mono (c : Cn) : RlMono (relR c) := fun _ _ _ _ _ _ _ _ h r => RR.mono h r
theorem relB_mono : RlMono relB := fun _ _ _ _ _ _ _ _ _ r => r
theorem relA_mono (c : Cn) : RlMono (relA c) := fun _ _ _ _ _ _ _ _ _ r => r
end DL

/-! DLb: expressions. -/
namespace DL
open PySem PySem.Spec PyProof.Rows L2

/-- what an expression hands on, read -/
def deref (ρ : Ro) : R → Option D
  | .val d => some d
  | .sl i => (ρ[i]?).bind Sl.cont
  | .nw o => some o.toD
/-- an operation that only lays new things -/
structure New (G H G' H' : Hp) : Prop where
  hs : Same H H'
  gs : Same G G'
  gh : Same G' H'
  gn : ∀ b o, G' b = some o → G b = some o ∨ H b = none
/-- a value's handing on, behind such an operation -/
def RO (c : Cn) (G' H' H : Hp) : R → V → Prop
  | .val d, v => Rep c G' d v
  | .sl _, _ => False
  | .nw o, v => ∃ P : Addr → Prop, OwR c G' H' P o v ∧ ∀ b, P b → G' b = none ∧ (∃ o, H' b = some o) ∧ H b = none

section
variable {c : Cn} {σ0 : St} {W : WX} {σ : St} {ρ ρ' ρ1 ρ2 : Ro} {G G' G1 G2 H H' H1 H2 : Hp} {own own1 own2 : Own} {N : Addr → Prop}
theorem New.refl (s : Same G H) : New G H G H := ⟨Same.refl _, Same.refl _, s, fun _ _ h => .inl h⟩
theorem New.tr (n : New G H G' H') (hs : ∀ i b, own i b → ∃ o, H b = some o) : Tr ρ σ G own H ρ σ G' own H' :=
  ⟨n.gs, fun b o h _ => n.hs b o h, fun b o h => (n.gn b o h).imp id .inl, fun b h => .inl h, fun _ _ _ h => ⟨h, rfl⟩⟩
theorem New.sr (n : New G H G' H') (S : SR c σ0 G own ρ σ H) : SR c σ0 G' own ρ σ H' where
  same := n.gh
  out := fun i b h => by
    cases e : G' b with
    | none => rfl
    | some o =>
      rcases n.gn b o e with k | k
      · rw [S.out i b h] at k; cases k
      · obtain ⟨o, q⟩ := S.there i b h
        rw [k] at q; cases q
  there := fun i b h => let ⟨o, q⟩ := S.there i b h; ⟨o, n.hs b o q⟩
  dis := S.dis
  len := S.len
  slot := fun i s h => (S.slot i s h).at n.gs (fun b o _ k => n.hs b o k) fun _ p => p
  io := S.io
theorem RO.rr (n : New G H G' H') (S : SR c σ0 G own ρ σ H) : ∀ {r : R} {v : V}, RO c G' H' H r v → RR c G' own σ H' (fun b => H b = none ∨ ao own b) r v
  | .val _, _, h => h
  | .nw _, _, ⟨P, o, k⟩ => by
    refine ⟨P, o, fun b p => ⟨(k b p).1, fun ⟨i, z⟩ => ?_, (k b p).2.1, .inl (k b p).2.2⟩⟩
    obtain ⟨o, q⟩ := S.there i b z
    rw [(k b p).2.2] at q
    cases q
/-- a pending value, behind a later step -/
theorem RR.step (t : Tr ρ1 σ G1 own1 H1 ρ2 σ G2 own2 H2) : ∀ {r : R} {v : V}, RR c G1 own1 σ H1 N r v → RR c G2 own2 σ H2 N r v
  | .val _, _, h => Rep.mono t.ext h
  | .sl _, _, h => h
  | .nw _, _, ⟨P, o, k⟩ => ⟨P, OwR.at (P := P) t.ext (fun b u p q => t.keep b u q (k b p).2.1) (fun _ p => p) o, fun b p => by
      obtain ⟨k1, k2, ⟨u, k3⟩, k4⟩ := k b p
      refine ⟨?_, fun z => ?_, ⟨u, t.keep b u k3 k2⟩, k4⟩
      · cases e : G2 b with
        | none => rfl
        | some w =>
          rcases t.gnew b w e with q | q | q
          · rw [k1] at q; cases q
          · rw [k3] at q; cases q
          · exact absurd q k2
      · rcases t.onew b z with q | q
        · exact k2 q
        · rw [k3] at q; cases q⟩
theorem deref_rd (S : SR c σ0 G own ρ σ H) : ∀ {r : R} {v : V} {d : D}, RR c G own σ H N r v → deref ρ r = some d → RepR c G H d v
  | .val _, _, _, h, e => by
    cases e
    exact h.rd S.same
  | .nw _, _, _, ⟨P, o, _⟩, e => by
    cases e
    exact o.rd
  | .sl i, v, d, h, e => by
    have e : (ρ[i]?).bind Sl.cont = some d := e
    have h : σ[i]? = some (some v) := h
    cases q : ρ[i]? with
    | none => rw [q] at e; cases e
    | some s =>
      rw [q] at e
      have e : s.cont = some d := e
      have z := S.slot i s q
      cases s with
      | no => cases e
      | fz d' =>
        cases e
        obtain ⟨w, hw, r⟩ := z
        rw [h] at hw; cases hw
        exact r.rd S.same
      | ow k o =>
        cases e
        obtain ⟨w, hw, r⟩ := z
        rw [h] at hw; cases hw
        exact r.rd
      | ln k o =>
        cases e
        obtain ⟨w, hw, r⟩ := z
        rw [h] at hw; cases hw
        exact r.rd
end

/-! ### operations on values -/
def rD (c : Cn) (op : D → D → Option R) : R2 := fun v w H Q => ∃ G d e r, Same G H ∧ RepR c G H d v ∧ RepR c G H e w ∧ op d e = some r ∧ ∀ G' H' v', New G H G' H' → RO c G' H' H r v' → Q v' H'
def rD1 (c : Cn) (op : D → Option R) : V → Hp → VK → Prop := fun v H Q => ∃ G d r, Same G H ∧ RepR c G H d v ∧ op d = some r ∧ ∀ G' H' v', New G H G' H' → RO c G' H' H r v' → Q v' H'
inductive RepRs (c : Cn) (G H : Hp) : List D → List V → Prop
  | nil : RepRs c G H [] []
  | cons {d : D} {v : V} {ds : List D} {vs : List V} : RepR c G H d v → RepRs c G H ds vs → RepRs c G H (d :: ds) (v :: vs)
def rDn (c : Cn) (op : List D → Option R) : List V → Hp → VK → Prop := fun vs H Q => ∃ G ds r, Same G H ∧ RepRs c G H ds vs ∧ op ds = some r ∧ ∀ G' H' v', New G H G' H' → RO c G' H' H r v' → Q v' H'

def opE (op : D → D → Option R) (a b : R) : M R := fun ρ => match deref ρ a, deref ρ b with
  | some d, some e => M.of (op d e) ρ
  | _, _ => .bad
def opE1 (op : D → Option R) (a : R) : M R := fun ρ => match deref ρ a with
  | some d => M.of (op d) ρ
  | _ => .bad
def derefs (ρ : Ro) : List R → Option (List D)
  | [] => some []
  | r :: rs => match deref ρ r, derefs ρ rs with
    | some d, some ds => some (d :: ds)
    | _, _ => none
def opEn (op : List D → Option R) (as : List R) : M R := fun ρ => match derefs ρ as with
  | some ds => M.of (op ds) ρ
  | none => .bad
def eBin (op : D → D → Option R) (f g : M R) : M R := f.bind fun a => g.bind fun b => opE op a b
def eUn (op : D → Option R) (f : M R) : M R := f.bind fun a => opE1 op a
def eCallB (op : List D → Option R) (f : M (List R)) : M R := f.bind fun as => opEn op as
def eC (d : D) : M R := M.ret (.val d)
def eVar (i : Nat) : M R := fun ρ => match ρ[i]? with
  | some (.fz d) => .ok (.val d) ρ
  | some (.ow _ _) => .ok (.sl i) ρ
  | some (.ln _ _) => .ok (.sl i) ρ
  | _ => .bad
def truthD : D → Option Bool
  | .non => some false
  | .bl b => some b
  | .int i => some (i != 0)
  | .str x => if x.length ≤ sizeLine then some ((x.length : Int) != 0) else none
  | .tup ds => some (!ds.isEmpty)
  | .lst ds => some (!ds.isEmpty)
  | .dct ds => some (!ds.isEmpty)
  | .scr ns => some (!ns.isEmpty)
  | .ins _ _ => none
def truthR (r : R) : M Bool := fun ρ => match (deref ρ r).bind truthD with
  | some b => .ok b ρ
  | none => .bad
def eTest (f : M R) : M Bool := f.bind truthR
def eB (f : M Bool) : M R := f.bind fun b => M.ret (.val (.bl b))
def eIf {α : Type} (t : M Bool) (f g : M α) : M α := t.bind fun b => if b = true then f else g
def eAnd (f g : M Bool) : M Bool := eIf f g (M.ret false)
def eOr (f g : M Bool) : M Bool := eIf f (M.ret true) g
def eNot (f : M Bool) : M Bool := f.bind fun b => M.ret (!b)
def eNil : M (List R) := M.ret []
def fzR : R → R
  | .nw o => .val o.toD
  | r => r
def eCons (f : M R) (g : M (List R)) : M (List R) := f.bind fun r => g.bind fun rs => M.ret (fzR r :: rs)

section
variable {X : Cx} {c : Cn} {σ0 : St} {W : WX} {σ : St} {ρ : Ro} {G H : Hp} {own : Own} {a b e : Expr} {es : List Expr} {pos : Pos} {f g : M R} {t u : M Bool} {op : D → D → Option R}

theorem XP.ret {α τ : Type} {rel : Rl α τ} {Q : τ → Hp → Prop} {r : α} {v : τ} (S : SR c σ0 G own ρ σ H) (h : XP rel c σ0 W σ ρ G own H Q (M.ret r ρ)) (k : rel G own σ H (fun b => H b = none ∨ ao own b) r v) : Q v H :=
  h G own H v Tr.refl S k
/-- behind an operation -/
theorem XP.new {Q : VK} {r : R} (S : SR c σ0 G own ρ σ H) (h : XP (relR c) c σ0 W σ ρ G own H Q (.ok r ρ)) {G' H' : Hp} {v : V} (n : New G H G' H') (o : RO c G' H' H r v) : Q v H' :=
  h G' own H' v (n.tr S.there) (n.sr S) (o.rr n S)
theorem XP.op2 {ρ0 : Ro} {G0 H0 : Hp} {own0 : Own} {Q : VK} {r1 r2 : R} {v w : V} {N1 N2 : Addr → Prop} (S : SR c σ0 G own ρ σ H) (h : XP (relR c) c σ0 W σ ρ G own H Q (opE op r1 r2 ρ)) (h1 : RR c G own σ H N1 r1 v) (h2 : RR c G own σ H N2 r2 w) : rD c op v w H Q := by
  unfold opE at h
  cases e1 : deref ρ r1 with
  | none => rw [e1] at h; exact h.elim
  | some d =>
    cases e2 : deref ρ r2 with
    | none => rw [e1, e2] at h; exact h.elim
    | some e =>
      rw [e1, e2] at h
      have h : XP (relR c) c σ0 W σ ρ G own H Q (M.of (op d e) ρ) := h
      cases e3 : op d e with
      | none => rw [e3] at h; exact h.elim
      | some r =>
        rw [e3] at h
        exact ⟨G, d, e, r, S.same, deref_rd S h1 e1, deref_rd S h2 e2, e3, fun G' H' v' n o => XP.new S h n o⟩
theorem XP.op1 {op : D → Option R} {Q : VK} {r1 : R} {v : V} {N1 : Addr → Prop} (S : SR c σ0 G own ρ σ H) (h : XP (relR c) c σ0 W σ ρ G own H Q (opE1 op r1 ρ)) (h1 : RR c G own σ H N1 r1 v) : rD1 c op v H Q := by
  unfold opE1 at h
  cases e1 : deref ρ r1 with
  | none => rw [e1] at h; exact h.elim
  | some d =>
    rw [e1] at h
    have h : XP (relR c) c σ0 W σ ρ G own H Q (M.of (op d) ρ) := h
    cases e3 : op d with
    | none => rw [e3] at h; exact h.elim
    | some r =>
      rw [e3] at h
      exact ⟨G, d, r, S.same, deref_rd S h1 e1, e3, fun G' H' v' n o => XP.new S h n o⟩
theorem RRs.derefs (S : SR c σ0 G own ρ σ H) : ∀ {rs : List R} {vs : List V} {ds : List D}, RRs c G σ rs vs → DL.derefs ρ rs = some ds → RepRs c G H ds vs
  | _, _, _, .nil, e => by cases e; exact .nil
  | _, _, ds, .val (d := d) (rs := rs) h r, e => by
    unfold DL.derefs at e
    cases q : DL.derefs ρ rs with
    | none => rw [q] at e; cases e
    | some es =>
      rw [q] at e
      cases e
      exact .cons (h.rd S.same) (RRs.derefs S r q)
  | _, _, ds, .sl (i := i) (rs := rs) h r, e => by
    unfold DL.derefs at e
    cases q0 : deref ρ (.sl i) with
    | none => rw [q0] at e; cases e
    | some d =>
      cases q : DL.derefs ρ rs with
      | none => rw [q0, q] at e; cases e
      | some es =>
        rw [q0, q] at e
        cases e
        exact .cons (deref_rd (N := fun _ => True) (r := .sl i) S h q0) (RRs.derefs S r q)
theorem XP.opn {op : List D → Option R} {Q : VK} {rs : List R} {vs : List V} (S : SR c σ0 G own ρ σ H) (h : XP (relR c) c σ0 W σ ρ G own H Q (opEn op rs ρ)) (h1 : RRs c G σ rs vs) : rDn c op vs H Q := by
  unfold opEn at h
  cases e1 : DL.derefs ρ rs with
  | none => rw [e1] at h; exact h.elim
  | some ds =>
    rw [e1] at h
    have h : XP (relR c) c σ0 W σ ρ G own H Q (M.of (op ds) ρ) := h
    cases e3 : op ds with
    | none => rw [e3] at h; exact h.elim
    | some r =>
      rw [e3] at h
      exact ⟨G, ds, r, S.same, h1.derefs S e1, e3, fun G' H' v' n o => XP.new S h n o⟩

theorem tOp_of {Q : VK} (h : tD c σ0 W (eBin op f g) σ H Q) : tOp (rD c op) (tD c σ0 W f) (tD c σ0 W g) σ H Q := by
  obtain ⟨G, own, ρ, S, h⟩ := h
  refine XP.bind S h fun r1 ρ1 G1 own1 H1 v t1 S1 R1 h1 => ?_
  refine XP.bind S1 (XP.from t1 h1 (relR_mono c)) fun r2 ρ2 G2 own2 H2 w t2 S2 R2 h2 => ?_
  exact XP.op2 (ρ0 := ρ) (G0 := G) (H0 := H) (own0 := own) S2 (XP.from t2 h2 (relR_mono c)) (R1.step t2) R2
theorem tUn_of {op : D → Option R} {Q : VK} (h : tD c σ0 W (eUn op f) σ H Q) : tUn (rD1 c op) (tD c σ0 W f) σ H Q := by
  obtain ⟨G, own, ρ, S, h⟩ := h
  refine XP.bind S h fun r1 ρ1 G1 own1 H1 v t1 S1 R1 h1 => ?_
  exact XP.op1 S1 (XP.from t1 h1 (relR_mono c)) R1
theorem tCB_of {op : List D → Option R} {f : M (List R)} {Q : VK} (h : tD c σ0 W (eCallB op f) σ H Q) : tCB (rDn c op) (tA c σ0 W f) σ H Q := by
  obtain ⟨G, own, ρ, S, h⟩ := h
  refine XP.bind S h fun r1 ρ1 G1 own1 H1 v t1 S1 R1 h1 => ?_
  exact XP.opn S1 (XP.from t1 h1 (relR_mono c)) R1
theorem de_bin {o : Operator} (ho : OpR X (binaryOp o) (rD c op)) (ha : PE X a (tD c σ0 W f)) (hb : PE X b (tD c σ0 W g)) : PE X (.BinOp a o b pos) (tD c σ0 W (eBin op f g)) :=
  PE.imp (pe_op ho ha hb) fun _ _ _ h => tOp_of h
theorem de_cmp {o : CmpOp} (ho : OpR X (compareOp o) (rD c op)) (ha : PE X a (tD c σ0 W f)) (hb : PE X b (tD c σ0 W g)) (hm : behindInMarks o b = false) : PE X (.Compare a [o] [b] pos) (tD c σ0 W (eBin op f g)) :=
  PE.imp (pe_cmpR ho ha hb hm) fun _ _ _ h => tOp_of h
theorem de_un {o : UnaryOp} {op : D → Option R} (ho : UnR X (unaryOp o) (rD1 c op)) (ha : PE X a (tD c σ0 W f)) : PE X (.UnaryOp o a pos) (tD c σ0 W (eUn op f)) :=
  PE.imp (pe_un ho ha) fun _ _ _ h => tUn_of h

/-! ### names, constants -/
theorem de_var {i : Nat} (h : PE X e (tVar i)) : PE X e (tD c σ0 W (eVar i)) := PE.imp h fun σ H Q q => by
  obtain ⟨G, own, ρ, S, q⟩ := q
  unfold eVar at q
  cases e : ρ[i]? with
  | none => rw [e] at q; exact q.elim
  | some s =>
    rw [e] at q
    have z := S.slot i s e
    cases s with
    | no => exact q.elim
    | fz d =>
      obtain ⟨v, hv, r⟩ := z
      exact ⟨v, hv, q G own H v Tr.refl S r⟩
    | ow k o =>
      obtain ⟨v, hv, r⟩ := z
      exact ⟨v, hv, q G own H v Tr.refl S hv⟩
    | ln k o =>
      obtain ⟨v, hv, r⟩ := z
      exact ⟨v, hv, q G own H v Tr.refl S hv⟩
theorem de_c {d : D} {v : V} (hd : ∀ G, Rep c G d v) (h : PE X e (tC v)) : PE X e (tD c σ0 W (eC d)) := PE.imp h fun σ H Q q => by
  obtain ⟨G, own, ρ, S, q⟩ := q
  exact XP.ret S q (hd G)
theorem de_int {i : Int} {j pos} : PE X (.Constant (.int i) j pos) (tD c σ0 W (eC (.int i))) := de_c (fun _ => .int i) pe_int
theorem de_bl {b : Bool} {j pos} : PE X (.Constant (.bool b) j pos) (tD c σ0 W (eC (.bl b))) := de_c (fun _ => .bl b) pe_bl
theorem de_non {j pos} : PE X (.Constant .none j pos) (tD c σ0 W (eC .non)) := de_c (fun _ => .non) pe_non
theorem de_str {x : Str} {j pos} : PE X (.Constant (.str x) j pos) (tD c σ0 W (eC (.str x))) := de_c (fun _ => .str x) pe_str

/-! ### arguments -/
theorem da_nil : PA X [] (tA c σ0 W eNil) := PA.imp pa_nil fun σ H Q q => by
  obtain ⟨G, own, ρ, S, q⟩ := q
  exact XP.ret S q .nil
open Classical in
/-- the new object becomes a frozen one -/
noncomputable def frzG (G H : Hp) (P : Addr → Prop) : Hp := fun b => if P b then H b else G b
theorem frz_at {P : Addr → Prop} {b : Addr} (h : P b) : frzG G H P b = H b := by
  unfold frzG; rw [if_pos h]
theorem frz_ne {P : Addr → Prop} {b : Addr} (h : ¬ P b) : frzG G H P b = G b := by
  unfold frzG; rw [if_neg h]
theorem frz_same {P : Addr → Prop} (h : ∀ b, P b → G b = none) : Same G (frzG G H P) := fun b o e => by
  by_cases p : P b
  · rw [h b p] at e; cases e
  · rw [frz_ne p]; exact e
theorem OwR.frz {P : Addr → Prop} (hg : ∀ b, P b → G b = none) : ∀ {o : OV} {v : V}, OwR c G H P o v → Rep c (frzG G H P) o.toD v
  | .lst _, _, ⟨a, vs, e, p, h, r⟩ => by
    subst e
    exact .lst ((frz_at p).trans h) (r.mono (frz_same hg))
  | .dct _, _, ⟨a, kvs, e, p, h, m, r⟩ => by
    subst e
    exact .dct ((frz_at p).trans h) m (r.mono (frz_same hg))
  | .ins _ _, _, ⟨a, C, dx, fs, e, p, q, ne, l, h, o, m, r⟩ => by
    subst e
    exact .ins l ((frz_at p).trans h) ((frz_at q).trans o) m (r.mono (frz_same hg))
theorem SR.frz {P : Addr → Prop} (S : SR c σ0 G own ρ σ H) (hg : ∀ b, P b → G b = none ∧ ¬ ao own b) : SR c σ0 (frzG G H P) own ρ σ H where
  same := fun b o e => by
    by_cases p : P b
    · rw [frz_at p] at e; exact e
    · rw [frz_ne p] at e; exact S.same b o e
  out := fun i b h => by
    have n : ¬ P b := fun p => (hg b p).2 ⟨i, h⟩
    rw [frz_ne n]
    exact S.out i b h
  there := S.there
  dis := S.dis
  len := S.len
  slot := fun i s h => (S.slot i s h).at (frz_same fun b p => (hg b p).1) (fun b o _ k => k) fun _ p => p
  io := S.io
theorem frz_tr {ρ0 : Ro} {G0 H0 : Hp} {own0 : Own} {σ' : St} {P : Addr → Prop} (t : Tr ρ0 σ' G0 own0 H0 ρ σ G own H) (hg : ∀ b, P b → G b = none ∧ (H0 b = none ∨ ao own0 b)) : Tr ρ0 σ' G0 own0 H0 ρ σ (frzG G H P) own H where
  ext := t.ext.trans (frz_same fun b p => (hg b p).1)
  keep := t.keep
  gnew := fun b o e => by
    by_cases p : P b
    · exact .inr (hg b p).2
    · rw [frz_ne p] at e; exact t.gnew b o e
  onew := t.onew
  lent := t.lent
/-- freezing: the new object of r (if it is one) goes into the frozen part -/
theorem fz_of {ρ0 : Ro} {G0 H0 : Hp} {own0 : Own} {σ' : St} {N : Addr → Prop} {r : R} {v : V} (S : SR c σ0 G own ρ σ H) (t : Tr ρ0 σ' G0 own0 H0 ρ σ G own H) (hN : ∀ b, N b → H0 b = none ∨ ao own0 b) (h : RR c G own σ H N r v) :
    ∃ G', Same G G' ∧ Tr ρ0 σ' G0 own0 H0 ρ σ G' own H ∧ SR c σ0 G' own ρ σ H ∧ RRs c G' σ [fzR r] [v] := by
  cases r with
  | val d => exact ⟨G, Same.refl _, t, S, .val h .nil⟩
  | sl i => exact ⟨G, Same.refl _, t, S, .sl h .nil⟩
  | nw o =>
    obtain ⟨P, x, k⟩ := h
    exact ⟨frzG G H P, frz_same fun b p => (k b p).1, frz_tr t fun b p => ⟨(k b p).1, hN b (k b p).2.2.2⟩, S.frz fun b p => ⟨(k b p).1, (k b p).2.1⟩, .val (x.frz fun b p => (k b p).1) .nil⟩
theorem RRs.mono {G' : Hp} (s : Same G G') : ∀ {rs : List R} {vs : List V}, RRs c G σ rs vs → RRs c G' σ rs vs
  | _, _, .nil => .nil
  | _, _, .val h r => .val (h.mono s) (r.mono s)
  | _, _, .sl h r => .sl h (r.mono s)
theorem RRs.cons {r : R} {v : V} {rs : List R} {vs : List V} (h : RRs c G σ [r] [v]) (k : RRs c G σ rs vs) : RRs c G σ (r :: rs) (v :: vs) := by
  cases h with
  | val h _ => exact .val h k
  | sl h _ => exact .sl h k
theorem da_cons {h2 : M (List R)} (he : PE X e (tD c σ0 W f)) (hr : PA X es (tA c σ0 W h2)) (hs : starEach (e :: es) X.env = (false, eval e X.env) :: starEach es X.env := by rfl) : PA X (e :: es) (tA c σ0 W (eCons f h2)) :=
  PA.imp (pa_cons he hr hs) fun σ H Q q => by
    obtain ⟨G, own, ρ, S, q⟩ := q
    refine XP.bind S q fun r1 ρ1 G1 own1 H1 v t1 S1 R1 h1 => ?_
    obtain ⟨G1', s1, t1', S1', R1'⟩ := fz_of S1 t1 (fun b n => n) R1
    refine XP.bind S1' (XP.from t1' h1 (relA_mono c)) fun rs ρ2 G2 own2 H2 vs t2 S2 R2 h2 => ?_
    exact XP.ret S2 (XP.from t2 h2 (relA_mono c)) ((R1'.mono t2.ext).cons R2)

/-! ### tests -/
theorem emp_eq {α β : Type} {xs : List α} {ys : List β} (h : xs.length = ys.length) : (!xs.isEmpty) = !ys.isEmpty := by
  cases xs <;> cases ys <;> first | rfl | cases h
theorem RepR.tru (s : Same G H) {d : D} {v : V} {b : Bool} (h : RepR c G H d v) (e : truthD d = some b) : TruV c.K v H b := by
  cases d with
  | ins n fs => cases e
  | non => cases e; cases h; rfl
  | bl b => cases e; cases h; rfl
  | int i => cases e; cases h; rfl
  | str x =>
    cases h
    have e : (if x.length ≤ sizeLine then some ((x.length : Int) != 0) else none) = some b := e
    by_cases hl : x.length ≤ sizeLine
    · rw [if_pos hl] at e
      cases e
      exact ⟨hl, rfl⟩
    · rw [if_neg hl] at e
      cases e
  | tup ds =>
    cases e
    obtain ⟨a, vs, rfl, hs, r⟩ := h
    exact .inr (.inl ⟨vs, sqT_same s hs, emp_eq r.length⟩)
  | lst ds =>
    cases e
    obtain ⟨a, vs, rfl, hs, r⟩ := h
    exact .inl ⟨vs, .inl (.inl hs), emp_eq r.length⟩
  | scr ns =>
    cases e
    obtain ⟨a, rfl, hs⟩ := h
    exact .inl ⟨_, hs, by cases ns <;> rfl⟩
  | dct ds =>
    cases e
    obtain ⟨a, kvs, rfl, hs, m, r⟩ := h
    have l := r.length
    rw [List.length_map, List.length_map] at l
    exact .inr (.inr ⟨kvs, hs, emp_eq l⟩)
theorem XP.tru {Q : Bool → Hp → Prop} {r : R} {v : V} {N : Addr → Prop} (S : SR c σ0 G own ρ σ H) (h : XP relB c σ0 W σ ρ G own H Q (truthR r ρ)) (h1 : RR c G own σ H N r v) : ∃ k, TruV c.K v H k ∧ Q k H := by
  unfold truthR at h
  cases e1 : deref ρ r with
  | none => rw [e1] at h; exact h.elim
  | some d =>
    rw [e1] at h
    have h : XP relB c σ0 W σ ρ G own H Q (match truthD d with
      | some b => .ok b ρ
      | none => .bad) := h
    cases e2 : truthD d with
    | none => rw [e2] at h; exact h.elim
    | some b =>
      rw [e2] at h
      exact ⟨b, (deref_rd S h1 e1).tru S.same e2, h G own H b Tr.refl S rfl⟩
/-- any expression, by its truth -/
theorem dt_truth (hK : c.K = X.K) (ha : PE X a (tD c σ0 W f)) (he : ∀ whole, isTrue a X.env whole = (do let v ← whole; standAt a.pos; holding [v] (truthy v)) := by intro _; rfl) : PT X a (tT c σ0 W (eTest f)) :=
  PT.imp (pt_truth ha he) fun σ H Q q => by
    obtain ⟨G, own, ρ, S, q⟩ := q
    refine XP.bind S q fun r1 ρ1 G1 own1 H1 v t1 S1 R1 h1 => ?_
    rw [← hK]
    exact XP.tru S1 (XP.from t1 h1 relB_mono) R1
/-- a comparison, by its bool -/
def boolR (r : R) : M Bool := match r with
  | .val (.bl b) => M.ret b
  | _ => fun _ => .bad
def eBool (f : M R) : M Bool := f.bind boolR
theorem tTest_of {Q : Bool → Hp → Prop} (h : tT c σ0 W (eBool f) σ H Q) : tTest (tD c σ0 W f) σ H Q := by
  obtain ⟨G, own, ρ, S, q⟩ := h
  refine XP.bind S q fun r1 ρ1 G1 own1 H1 v t1 S1 R1 h1 => ?_
  cases r1 with
  | val d =>
    cases d with
    | bl b =>
      cases R1
      exact ⟨b, rfl, XP.ret S1 (XP.from t1 h1 relB_mono) rfl⟩
    | _ => exact h1.elim
  | _ => exact h1.elim
theorem dt_cmp {o : CmpOp} (ho : OpR X (compareOp o) (rD c op)) (ha : PE X a (tD c σ0 W f)) (hb : PE X b (tD c σ0 W g)) (hm : behindInMarks o b = false) : PT X (.Compare a [o] [b] pos) (tT c σ0 W (eBool (eBin op f g))) :=
  PT.imp (pt_cmpR ho ha hb hm) fun σ H Q q => by
    obtain ⟨k, h, z⟩ : ∃ k : Unit, True ∧ True := ⟨(), trivial, trivial⟩
    have w := tTest_of q
    exact tOp_of w
theorem dt_not (ha : PT X a (tT c σ0 W t)) : PT X (.UnaryOp .Not a pos) (tT c σ0 W (eNot t)) := PT.imp (pt_not ha) fun σ H Q q => by
  obtain ⟨G, own, ρ, S, q⟩ := q
  refine XP.bind S q fun r1 ρ1 G1 own1 H1 v t1 S1 R1 h1 => ?_
  cases R1
  exact XP.ret S1 (XP.from t1 h1 relB_mono) rfl
theorem tIfG {α τ : Type} {rel : Rl α τ} (hm : RlMono rel) {f g : M α} {T : τ → Hp → Prop} (h : tX rel c σ0 W (eIf t f g) σ H T) :
    tT c σ0 W t σ H fun b H1 => if b = true then tX rel c σ0 W f σ H1 T else tX rel c σ0 W g σ H1 T := by
  obtain ⟨G, own, ρ, S, q⟩ := h
  refine XP.bind S q fun r1 ρ1 G1 own1 H1 v t1 S1 R1 h1 => ?_
  cases R1
  cases r1 with
  | true => exact ⟨G1, own1, ρ1, S1, XP.from t1 h1 hm⟩
  | false => exact ⟨G1, own1, ρ1, S1, XP.from t1 h1 hm⟩
theorem tX_ret {α τ : Type} {rel : Rl α τ} {r : α} {v : τ} {T : τ → Hp → Prop} (h : tX rel c σ0 W (M.ret r) σ H T) (k : ∀ G own ρ, SR c σ0 G own ρ σ H → rel G own σ H (fun b => H b = none ∨ ao own b) r v) : T v H := by
  obtain ⟨G, own, ρ, S, q⟩ := h
  exact XP.ret S q (k G own ρ S)
theorem dt_andW {rest : List Expr} (ha : PT X a (tT c σ0 W t)) (hb : PW X (.BoolOp .And (b :: rest) pos) (tT c σ0 W u)) : PW X (.BoolOp .And (a :: b :: rest) pos) (tT c σ0 W (eAnd t u)) := by
  refine ⟨fun wh pins s σ H Q I h => (pw_and ha hb).run wh pins s σ H Q I ?_⟩
  refine (fun z => ?_) (tIfG relB_mono h)
  obtain ⟨G, own, ρ, S, q⟩ := z
  refine ⟨G, own, ρ, S, ?_⟩
  cases e : t ρ with
  | ok r ρ' =>
    rw [e] at q
    intro G' own' H' v t' S' R'
    have := q G' own' H' v t' S' R'
    cases v with
    | true => exact this
    | false => exact tX_ret (v := false) this fun _ _ _ _ => rfl
  | ex x ρ' =>
    rw [e] at q
    exact q
  | bad =>
    rw [e] at q
    exact q
theorem dt_orW {rest : List Expr} (ha : PT X a (tT c σ0 W t)) (hb : PW X (.BoolOp .Or (b :: rest) pos) (tT c σ0 W u)) : PW X (.BoolOp .Or (a :: b :: rest) pos) (tT c σ0 W (eOr t u)) := by
  refine ⟨fun wh pins s σ H Q I h => (pw_or ha hb).run wh pins s σ H Q I ?_⟩
  refine (fun z => ?_) (tIfG relB_mono h)
  obtain ⟨G, own, ρ, S, q⟩ := z
  refine ⟨G, own, ρ, S, ?_⟩
  cases e : t ρ with
  | ok r ρ' =>
    rw [e] at q
    intro G' own' H' v t' S' R'
    have := q G' own' H' v t' S' R'
    cases v with
    | true => exact tX_ret (v := true) this fun _ _ _ _ => rfl
    | false => exact this
  | ex x ρ' =>
    rw [e] at q
    exact q
  | bad =>
    rw [e] at q
    exact q
theorem dt_and1 (ha : PT X a (tT c σ0 W t)) : PW X (.BoolOp .And [a] pos) (tT c σ0 W t) := pw_and1 ha
theorem dt_or1 (ha : PT X a (tT c σ0 W t)) : PW X (.BoolOp .Or [a] pos) (tT c σ0 W t) := pw_or1 ha
/-- and, or of bools, as values -/
theorem de_and {rest : List Expr} (ha : PE X a (tD c σ0 W f)) (hb : PE X (.BoolOp .And (b :: rest) pos) (tD c σ0 W g)) : PE X (.BoolOp .And (a :: b :: rest) pos) (tD c σ0 W (eIf (eBool f) g (eC (.bl false)))) :=
  PE.imp (pe_and ha hb) fun σ H Q q => by
    have z := tTest_of (Q := fun b H1 => if b = true then tD c σ0 W g σ H1 Q else tD c σ0 W (eC (.bl false)) σ H1 Q) (tIfG (relR_mono c) q)
    obtain ⟨G, own, ρ, S, w⟩ := z
    refine ⟨G, own, ρ, S, ?_⟩
    cases e : f ρ with
    | ok r ρ' =>
      rw [e] at w
      intro G' own' H' v t' S' R'
      obtain ⟨k, e1, y⟩ := w G' own' H' v t' S' R'
      refine ⟨k, e1, ?_⟩
      cases k with
      | true => exact y
      | false => exact tX_ret (rel := relR c) (r := R.val (.bl false)) (v := V.bl false) (show tD c σ0 W (eC (.bl false)) σ H' Q from y) fun G _ _ _ => (Rep.bl false : Rep c G (.bl false) (.bl false))
    | ex x ρ' =>
      rw [e] at w
      exact w
    | bad =>
      rw [e] at w
      exact w
theorem de_or {rest : List Expr} (ha : PE X a (tD c σ0 W f)) (hb : PE X (.BoolOp .Or (b :: rest) pos) (tD c σ0 W g)) : PE X (.BoolOp .Or (a :: b :: rest) pos) (tD c σ0 W (eIf (eBool f) (eC (.bl true)) g)) :=
  PE.imp (pe_or ha hb) fun σ H Q q => by
    have z := tTest_of (Q := fun b H1 => if b = true then tD c σ0 W (eC (.bl true)) σ H1 Q else tD c σ0 W g σ H1 Q) (tIfG (relR_mono c) q)
    obtain ⟨G, own, ρ, S, w⟩ := z
    refine ⟨G, own, ρ, S, ?_⟩
    cases e : f ρ with
    | ok r ρ' =>
      rw [e] at w
      intro G' own' H' v t' S' R'
      obtain ⟨k, e1, y⟩ := w G' own' H' v t' S' R'
      refine ⟨k, e1, ?_⟩
      cases k with
      | true => exact tX_ret (rel := relR c) (r := R.val (.bl true)) (v := V.bl true) (show tD c σ0 W (eC (.bl true)) σ H' Q from y) fun G _ _ _ => (Rep.bl true : Rep c G (.bl true) (.bl true))
      | false => exact y
    | ex x ρ' =>
      rw [e] at w
      exact w
    | bad =>
      rw [e] at w
      exact w
theorem de_one {o : BoolOp} (ha : PE X a (tD c σ0 W f)) : PE X (.BoolOp o [a] pos) (tD c σ0 W f) := pe_one ha
theorem de_not (ha : PE X a (tD c σ0 W f)) : PE X (.UnaryOp .Not a pos) (tD c σ0 W (eB (eNot (eBool f)))) := PE.imp (pe_not ha) fun σ H Q q => by
  have z := tTest_of (f := f) (Q := fun b H1 => Q (.bl (!b)) H1) (by
    obtain ⟨G, own, ρ, S, q⟩ := q
    refine XP.bind S (f := eBool f) (k := fun b => M.ret (.val (.bl (!b)))) (rel2 := relR c) (by
      have e : eB (eNot (eBool f)) ρ = M.bind (eBool f) (fun b => M.ret (R.val (.bl (!b)))) ρ := by
        unfold eB eNot M.bind
        cases eBool f ρ <;> rfl
      rw [← e]
      exact q) fun r1 ρ1 G1 own1 H1 v t1 S1 R1 h1 => ?_
    cases R1
    exact XP.ret S1 (XP.from t1 h1 (relR_mono c)) (Rep.bl _))
  exact z
theorem de_ifExp {i : Expr} (hc : PT X i (tT c σ0 W t)) (ha : PE X a (tD c σ0 W f)) (hb : PE X b (tD c σ0 W g)) : PE X (.IfExp i a b pos) (tD c σ0 W (eIf t f g)) :=
  PE.imp (pe_ifExp hc ha hb) fun σ H Q q => tIfG (relR_mono c) q
end
end DL

/-! DLc: statements, defs. -/
namespace DL
open PySem PySem.Spec PyProof.Rows L2

inductive Out where
  | nx (ρ : Ro) | ret (r : R) (ρ : Ro) | brk (ρ : Ro) | cnt (ρ : Ro) | ex (x : Exn) (ρ : Ro) | bad
abbrev S := Ro → Out
def SPo (c : Cn) (σ0 : St) (W : WX) (σ : St) (ρ : Ro) (G : Hp) (own : Own) (H : Hp) (E : Ends) : Out → Prop
  | .nx ρ' => ∀ σ' G' own' H', Tr ρ σ G own H ρ' σ' G' own' H' → SR c σ0 G' own' ρ' σ' H' → E.nx σ' H'
  | .ret r ρ' => ∀ σ' G' own' H' v, Tr ρ σ G own H ρ' σ' G' own' H' → SR c σ0 G' own' ρ' σ' H' → RR c G' own' σ' H' (fun b => H b = none ∨ ao own b) r v → E.rt v H'
  | .brk ρ' => ∀ σ' G' own' H', Tr ρ σ G own H ρ' σ' G' own' H' → SR c σ0 G' own' ρ' σ' H' → E.bk σ' H'
  | .cnt ρ' => ∀ σ' G' own' H', Tr ρ σ G own H ρ' σ' G' own' H' → SR c σ0 G' own' ρ' σ' H' → E.ct σ' H'
  | .ex x ρ' => ∀ σ' G' own' H' cls d, Tr ρ σ G own H ρ' σ' G' own' H' → SR c σ0 G' own' ρ' σ' H' → ExR c G' H' x cls d → W cls d σ' H'
  | .bad => False
def tS (c : Cn) (σ0 : St) (W : WX) (s : S) : TS := fun E σ H => ∃ G own ρ, SR c σ0 G own ρ σ H ∧ SPo c σ0 W σ ρ G own H E (s ρ)

def sNext : S := fun ρ => .nx ρ
def sSeq (s t : S) : S := fun ρ => match s ρ with
  | .nx ρ' => t ρ'
  | o => o
/-- a value, then what is done with it -/
def sBind {α : Type} (f : M α) (k : α → S) : S := fun ρ => match f ρ with
  | .ok a ρ' => k a ρ'
  | .ex x ρ' => .ex x ρ'
  | .bad => .bad
def sIf (t : M Bool) (s u : S) : S := sBind t fun b => if b = true then s else u
def sExpr (f : M R) : S := sBind f fun _ => sNext
def okSet (ρ : Ro) (i : Nat) : Bool := match ρ[i]? with
  | some .no => true
  | some (.fz _) => true
  | some (.ow k _) => !k
  | _ => false
def storeR (i : Nat) (r : R) : S := fun ρ => if okSet ρ i = true then (match r with
    | .val d => .nx (ρ.set i (.fz d))
    | .nw o => .nx (ρ.set i (.ow false o))
    | .sl j => match ρ[j]? with
      | some (.ow false o) => if j = i then .bad else .nx ((ρ.set j (.fz o.toD)).set i (.fz o.toD))
      | _ => .bad) else .bad
def sAsg (i : Nat) (f : M R) : S := sBind f (storeR i)
def retR (r : R) : S := fun ρ => match r with
  | .val d => .ret (.val d) ρ
  | .nw o => .ret (.nw o) ρ
  | .sl j => match ρ[j]? with
    | some (.ow false o) => .ret (.nw o) (ρ.set j .no)
    | _ => .bad
def sRet (f : M R) : S := sBind f retR
def sRetN : S := fun ρ => .ret (.val .non) ρ
def sBrk : S := fun ρ => .brk ρ
def sCnt : S := fun ρ => .cnt ρ
def augR' (op : D → D → Option R) (i : Nat) (d : D) (r : R) : S := fun ρ => if okSet ρ i = true then (match (deref ρ r).bind (op d) with
  | some (.val e) => .nx (ρ.set i (.fz e))
  | _ => .bad) else .bad
def sAug (i : Nat) (op : D → D → Option R) (f : M R) : S := fun ρ => match ρ[i]? with
  | some (.fz d) => sBind f (augR' op i d) ρ
  | _ => .bad

section
variable {X : Cx} {c : Cn} {σ0 : St} {W : WX} {σ σ' σ1 σ2 : St} {ρ ρ1 ρ2 : Ro} {G G1 G2 H H1 H2 : Hp} {own own1 own2 : Own} {a b e : Expr} {st : Stmt} {rest : List Stmt} {pos : Pos} {f g : M R} {t : M Bool} {s u : S} {E : Ends}

theorem SPo.from {o : Out} (t : Tr ρ σ G own H ρ1 σ1 G1 own1 H1) (h : SPo c σ0 W σ ρ G own H E o) : SPo c σ0 W σ1 ρ1 G1 own1 H1 E o := by
  cases o with
  | nx ρ2 => exact fun σ2 G2 own2 H2 u S => h σ2 G2 own2 H2 (t.trans u) S
  | ret r ρ2 => exact fun σ2 G2 own2 H2 v u S R => h σ2 G2 own2 H2 v (t.trans u) S (RR.mono (fun b => t.back) R)
  | brk ρ2 => exact fun σ2 G2 own2 H2 u S => h σ2 G2 own2 H2 (t.trans u) S
  | cnt ρ2 => exact fun σ2 G2 own2 H2 u S => h σ2 G2 own2 H2 (t.trans u) S
  | ex x ρ2 => exact fun σ2 G2 own2 H2 cls d u S R => h σ2 G2 own2 H2 cls d (t.trans u) S R
  | bad => exact h
theorem SPo.bind {α τ : Type} {rel : Rl α τ} {f : M α} {k : α → S} {T : τ → Hp → Prop} (S : SR c σ0 G own ρ σ H) (h : SPo c σ0 W σ ρ G own H E (sBind f k ρ))
    (hk : ∀ r ρ1 G1 own1 H1 v, Tr ρ σ G own H ρ1 σ G1 own1 H1 → SR c σ0 G1 own1 ρ1 σ H1 → rel G1 own1 σ H1 (fun b => H b = none ∨ ao own b) r v → SPo c σ0 W σ ρ G own H E (k r ρ1) → T v H1) :
    tX rel c σ0 W f σ H T := by
  refine ⟨G, own, ρ, S, ?_⟩
  unfold sBind at h
  cases e : f ρ with
  | ok r ρ1 =>
    rw [e] at h
    exact fun G1 own1 H1 v t S1 r1 => hk r ρ1 G1 own1 H1 v t S1 r1 h
  | ex x ρ1 =>
    rw [e] at h
    exact fun G1 own1 H1 cls d t S1 r1 => h σ G1 own1 H1 cls d t S1 r1
  | bad =>
    rw [e] at h
    exact h
theorem dss_nil : PSs X [] (tS c σ0 W sNext) := PSs.imp pss_nil fun E σ H q => by
  obtain ⟨G, own, ρ, S, q⟩ := q
  exact q σ G own H Tr.refl S
theorem tSeq_of (h : tS c σ0 W (sSeq s u) E σ H) : tSeq (tS c σ0 W s) (tS c σ0 W u) E σ H := by
  obtain ⟨G, own, ρ, S, q⟩ := h
  refine ⟨G, own, ρ, S, ?_⟩
  unfold sSeq at q
  cases e : s ρ with
  | nx ρ1 =>
    rw [e] at q
    exact fun σ1 G1 own1 H1 t S1 => ⟨G1, own1, ρ1, S1, q.from t⟩
  | ret r ρ1 => rw [e] at q; exact q
  | brk ρ1 => rw [e] at q; exact q
  | cnt ρ1 => rw [e] at q; exact q
  | ex x ρ1 => rw [e] at q; exact q
  | bad => rw [e] at q; exact q
theorem dss_cons (h1 : PS X st (tS c σ0 W s)) (h2 : PSs X rest (tS c σ0 W u)) : PSs X (st :: rest) (tS c σ0 W (sSeq s u)) := PSs.imp (pss_cons h1 h2) fun _ _ _ q => tSeq_of q
theorem dss_one (h1 : PS X st (tS c σ0 W s)) : PSs X [st] (tS c σ0 W s) := pss_one h1
theorem ds_pass : PS X (.Pass pos) (tS c σ0 W sNext) := PS.imp ps_pass fun E σ H q => by
  obtain ⟨G, own, ρ, S, q⟩ := q
  exact q σ G own H Tr.refl S
theorem ds_break : PS X (.Break pos) (tS c σ0 W sBrk) := PS.imp ps_break fun E σ H q => by
  obtain ⟨G, own, ρ, S, q⟩ := q
  exact q σ G own H Tr.refl S
theorem ds_continue : PS X (.Continue pos) (tS c σ0 W sCnt) := PS.imp ps_continue fun E σ H q => by
  obtain ⟨G, own, ρ, S, q⟩ := q
  exact q σ G own H Tr.refl S
theorem ds_if {x : Expr} {A B : List Stmt} (hc : PT X x (tT c σ0 W t)) (ha : PSs X A (tS c σ0 W s)) (hb : PSs X B (tS c σ0 W u)) : PS X (.If x A B pos) (tS c σ0 W (sIf t s u)) := PS.imp (ps_if hc ha hb) fun E σ H q => by
  obtain ⟨G, own, ρ, S, q⟩ := q
  refine SPo.bind S q fun b ρ1 G1 own1 H1 v t1 S1 R1 h1 => ?_
  cases R1
  cases b with
  | true => exact ⟨G1, own1, ρ1, S1, h1.from t1⟩
  | false => exact ⟨G1, own1, ρ1, S1, h1.from t1⟩
theorem ds_expr (he : PE X e (tD c σ0 W f)) (hs : swapsWith e none pos.line X.env = pure false := by rfl) : PS X (.Expr e pos) (tS c σ0 W (sExpr f)) := PS.imp (ps_expr he hs) fun E σ H q => by
  obtain ⟨G, own, ρ, S, q⟩ := q
  exact SPo.bind S q fun r ρ1 G1 own1 H1 v t1 S1 R1 h1 => h1 σ G1 own1 H1 t1 S1
theorem ds_retN : PS X (.Return none pos) (tS c σ0 W sRetN) := PS.imp ps_retN fun E σ H q => by
  obtain ⟨G, own, ρ, S, q⟩ := q
  exact q σ G own H .non Tr.refl S Rep.non

/-! ### slots taken and put -/
def minO (own : Own) (j : Nat) : Own := fun i b => i ≠ j ∧ own i b
def putO (own : Own) (j : Nat) (P : Addr → Prop) : Own := fun i b => (i = j ∧ P b) ∨ (i ≠ j ∧ own i b)
theorem ao_put {own : Own} {j : Nat} {P : Addr → Prop} {b : Addr} (h : ao (putO own j P) b) : P b ∨ ao own b := by
  obtain ⟨i, ⟨_, p⟩ | ⟨_, p⟩⟩ := h
  · exact .inl p
  · exact .inr ⟨i, p⟩
theorem lt_of_get {α : Type} {l : List α} {i : Nat} {x : α} (h : l[i]? = some x) : i < l.length := (List.getElem?_eq_some_iff.mp h).1
theorem okSet_get {i : Nat} (h : okSet ρ i = true) : ∃ s, ρ[i]? = some s ∧ s.isIo = false ∧ ∀ k o, s ≠ .ln k o := by
  unfold okSet at h
  cases e : ρ[i]? with
  | none => rw [e] at h; cases h
  | some s =>
    rw [e] at h
    refine ⟨s, rfl, ?_, fun k o q => ?_⟩
    · cases s with
      | no => rfl
      | fz d => rfl
      | ow k o =>
        cases k with
        | true => cases h
        | false => rfl
      | ln k o => cases h
    · subst q; cases h
/-- a slot is stored -/
theorem SR.put {i : Nat} {s : Sl} {P : Addr → Prop} {v : V} (S : SR c σ0 G own ρ σ H) (ok : okSet ρ i = true) (hs : SlR c G H P s (some (some v))) (hio : s.isIo = false) (hP : ∀ b, P b → G b = none ∧ ¬ ao own b ∧ ∃ o, H b = some o) :
    SR c σ0 G (putO own i P) (ρ.set i s) (σ.set i (some v)) H where
  same := S.same
  out := fun j b h => by
    rcases h with ⟨_, p⟩ | ⟨_, p⟩
    · exact (hP b p).1
    · exact S.out j b p
  there := fun j b h => by
    rcases h with ⟨_, p⟩ | ⟨_, p⟩
    · exact (hP b p).2.2
    · exact S.there j b p
  dis := fun j k b h1 h2 => by
    rcases h1 with ⟨e1, p1⟩ | ⟨e1, p1⟩
    · rcases h2 with ⟨e2, p2⟩ | ⟨e2, p2⟩
      · rw [e1, e2]
      · exact absurd ⟨k, p2⟩ (hP b p1).2.1
    · rcases h2 with ⟨e2, p2⟩ | ⟨e2, p2⟩
      · exact absurd ⟨j, p1⟩ (hP b p2).2.1
      · exact S.dis j k b p1 p2
  len := by rw [List.length_set, List.length_set]; exact S.len
  slot := fun j s' h => by
    obtain ⟨s0, h0, _, _⟩ := okSet_get ok
    have hi := lt_of_get h0
    by_cases e : i = j
    · subst e
      rw [List.getElem?_set_self hi] at h
      cases h
      rw [List.getElem?_set_self (by rw [← S.len]; exact hi)]
      exact hs.at (Same.refl _) (fun _ _ _ k => k) fun b p => .inl ⟨rfl, p⟩
    · rw [List.getElem?_set_ne e] at h ⊢
      exact (S.slot j s' h).at (Same.refl _) (fun _ _ _ k => k) fun b p => .inr ⟨fun q => e q.symm, p⟩
  io := fun j s' h k => by
    obtain ⟨s0, h0, _, _⟩ := okSet_get ok
    have hi := lt_of_get h0
    by_cases e : i = j
    · subst e
      rw [List.getElem?_set_self hi] at h
      cases h
      rw [hio] at k; cases k
    · rw [List.getElem?_set_ne e] at h ⊢
      exact S.io j s' h k
theorem Tr.put {ρ0 : Ro} {G0 H0 : Hp} {own0 : Own} {i : Nat} {s : Sl} {P : Addr → Prop} {x : Option V} (t : Tr ρ0 σ' G0 own0 H0 ρ σ G own H) (ok : okSet ρ i = true) (hP : ∀ b, P b → H0 b = none ∨ ao own0 b) :
    Tr ρ0 σ' G0 own0 H0 (ρ.set i s) (σ.set i x) G (putO own i P) H where
  ext := t.ext
  keep := t.keep
  gnew := t.gnew
  onew := fun b h => by
    rcases ao_put h with p | p
    · exact (hP b p).symm
    · exact t.onew b p
  lent := fun j k o h => by
    obtain ⟨h1, e1⟩ := t.lent j k o h
    obtain ⟨s0, h0, _, nl⟩ := okSet_get ok
    have ne : i ≠ j := fun e => by
      subst e
      rw [h0] at h1
      exact nl k o (Option.some.inj h1)
    rw [List.getElem?_set_ne ne, List.getElem?_set_ne ne]
    exact ⟨h1, e1⟩
/-- a slot's object is taken out -/
theorem SR.take {j : Nat} {o : OV} (S : SR c σ0 G own ρ σ H) (h : ρ[j]? = some (.ow false o)) :
    ∃ v, σ[j]? = some (some v) ∧ SR c σ0 G (minO own j) (ρ.set j .no) σ H ∧ OwR c G H (own j) o v ∧ ∀ b, own j b → G b = none ∧ ¬ ao (minO own j) b ∧ ∃ o, H b = some o := by
  obtain ⟨v, hv, r⟩ := S.slot j _ h
  have hj := lt_of_get h
  refine ⟨v, hv, ⟨S.same, fun i b k => S.out i b k.2, fun i b k => S.there i b k.2, fun i k b h1 h2 => S.dis i k b h1.2 h2.2, by rw [List.length_set]; exact S.len, fun i s' k => ?_, fun i s' k q => ?_⟩, r, fun b p => ⟨S.out j b p, fun ⟨i, ne, q⟩ => ne (S.dis i j b q p), S.there j b p⟩⟩
  · by_cases e : j = i
    · subst e
      rw [List.getElem?_set_self hj] at k
      cases k
      trivial
    · rw [List.getElem?_set_ne e] at k
      exact (S.slot i s' k).at (Same.refl _) (fun _ _ _ k => k) fun b p => ⟨fun q => e q.symm, p⟩
  · by_cases e : j = i
    · subst e
      rw [List.getElem?_set_self hj] at k
      cases k
      cases q
    · rw [List.getElem?_set_ne e] at k
      exact S.io i s' k q
theorem Tr.take {ρ0 : Ro} {G0 H0 : Hp} {own0 : Own} {j : Nat} {o : OV} {s : Sl} (t : Tr ρ0 σ' G0 own0 H0 ρ σ G own H) (h : ρ[j]? = some (.ow false o)) :
    Tr ρ0 σ' G0 own0 H0 (ρ.set j s) σ G (minO own j) H where
  ext := t.ext
  keep := t.keep
  gnew := t.gnew
  onew := fun b ⟨i, _, q⟩ => t.onew b ⟨i, q⟩
  lent := fun i k o' h' => by
    obtain ⟨h1, e1⟩ := t.lent i k o' h'
    have ne : j ≠ i := fun e => by
      subst e
      rw [h] at h1; cases h1
    rw [List.getElem?_set_ne ne]
    exact ⟨h1, e1⟩
/-- what is known of a slot's value is noted -/
theorem SR.know {j : Nat} {d : D} {v : V} (S : SR c σ0 G own ρ σ H) (h : ρ[j]? = some .no) (hv : σ[j]? = some (some v)) (r : Rep c G d v) : SR c σ0 G own (ρ.set j (.fz d)) σ H where
  same := S.same
  out := S.out
  there := S.there
  dis := S.dis
  len := by rw [List.length_set]; exact S.len
  slot := fun i s' k => by
    by_cases e : j = i
    · subst e
      rw [List.getElem?_set_self (lt_of_get h)] at k
      cases k
      exact ⟨v, hv, r⟩
    · rw [List.getElem?_set_ne e] at k
      exact S.slot i s' k
  io := fun i s' k q => by
    by_cases e : j = i
    · subst e
      rw [List.getElem?_set_self (lt_of_get h)] at k
      cases k
      cases q
    · rw [List.getElem?_set_ne e] at k
      exact S.io i s' k q
theorem okSet_set {i j : Nat} {s : Sl} (ok : okSet ρ i = true) (ne : j ≠ i) : okSet (ρ.set j s) i = true := by
  unfold okSet at ok ⊢
  rw [List.getElem?_set_ne ne]
  exact ok
/-- .. and stored -/
theorem SPo.store {i : Nat} {r : R} {v : V} {ρ0 : Ro} {G0 H0 : Hp} {own0 : Own} {N : Addr → Prop} (S : SR c σ0 G own ρ σ H) (t : Tr ρ0 σ G0 own0 H0 ρ σ G own H) (hN : ∀ b, N b → H0 b = none ∨ ao own0 b) (R1 : RR c G own σ H N r v)
    (h : SPo c σ0 W σ ρ0 G0 own0 H0 E (storeR i r ρ)) : E.nx (σ.set i (some v)) H := by
  unfold storeR at h
  by_cases ok : okSet ρ i = true
  · rw [if_pos ok] at h
    cases r with
    | val d => exact h _ G _ H (t.put ok fun b p => p.elim) (S.put (P := fun _ => False) ok ⟨v, rfl, R1⟩ rfl fun b p => p.elim)
    | nw o =>
      obtain ⟨P, x, k⟩ := R1
      exact h _ G _ H (t.put ok fun b p => hN b (k b p).2.2.2) (S.put ok ⟨v, rfl, x⟩ rfl fun b p => ⟨(k b p).1, (k b p).2.1, (k b p).2.2.1⟩)
    | sl j =>
      have h : SPo c σ0 W σ ρ0 G0 own0 H0 E (match ρ[j]? with
        | some (.ow false o) => if j = i then .bad else .nx ((ρ.set j (.fz o.toD)).set i (.fz o.toD))
        | _ => .bad) := h
      cases q : ρ[j]? with
      | none => rw [q] at h; exact h.elim
      | some s =>
        rw [q] at h
        cases s with
        | no => exact h.elim
        | fz d => exact h.elim
        | ln k o => exact h.elim
        | ow k o =>
          cases k with
          | true => exact h.elim
          | false =>
            by_cases e : j = i
            · have h : SPo c σ0 W σ ρ0 G0 own0 H0 E (if j = i then .bad else .nx ((ρ.set j (.fz o.toD)).set i (.fz o.toD))) := h
              rw [if_pos e] at h
              exact h.elim
            · have h : SPo c σ0 W σ ρ0 G0 own0 H0 E (if j = i then .bad else .nx ((ρ.set j (.fz o.toD)).set i (.fz o.toD))) := h
              rw [if_neg e] at h
              obtain ⟨w, hw, S1, x, k⟩ := S.take q
              have R1 : σ[j]? = some (some v) := R1
              rw [R1] at hw
              cases hw
              have S2 := S1.frz (P := own j) fun b p => ⟨(k b p).1, (k b p).2.1⟩
              have z : Rep c (frzG G H (own j)) o.toD v := x.frz fun b p => (k b p).1
              have S3 := S2.know (by rw [List.getElem?_set_self (lt_of_get q)]) R1 z
              rw [List.set_set] at S3
              have ok' : okSet (ρ.set j (.fz o.toD)) i = true := okSet_set ok e
              have t1 : Tr ρ0 σ G0 own0 H0 (ρ.set j (.fz o.toD)) σ G (minO own j) H := t.take q
              have t2 := frz_tr (P := own j) t1 fun b p => ⟨(k b p).1, (t.onew b ⟨j, p⟩).symm⟩
              exact h _ _ _ H (t2.put ok' fun b p => p.elim) (S3.put (P := fun _ => False) ok' ⟨v, rfl, z⟩ rfl fun b p => p.elim)
  · rw [if_neg ok] at h
    exact h.elim
theorem ds_asg {i : Nat} (h : PS X st (tAsg (tD c σ0 W f) (gName i))) : PS X st (tS c σ0 W (sAsg i f)) := PS.imp h fun E σ H q => by
  obtain ⟨G, own, ρ, S, q⟩ := q
  exact SPo.bind S q fun r ρ1 G1 own1 H1 v t1 S1 R1 h1 => SPo.store S1 t1 (fun b n => n) R1 h1
theorem ds_ret (he : PE X e (tD c σ0 W f)) : PS X (.Return (some e) pos) (tS c σ0 W (sRet f)) := PS.imp (ps_ret he) fun E σ H q => by
  obtain ⟨G, own, ρ, S, q⟩ := q
  refine SPo.bind S q fun r ρ1 G1 own1 H1 v t1 S1 R1 h1 => ?_
  cases r with
  | val d => exact h1 σ G1 own1 H1 v t1 S1 R1
  | nw o => exact h1 σ G1 own1 H1 v t1 S1 R1
  | sl j =>
    have h1 : SPo c σ0 W σ ρ G own H E (match ρ1[j]? with
      | some (.ow false o) => .ret (.nw o) (ρ1.set j .no)
      | _ => .bad) := h1
    cases q : ρ1[j]? with
    | none => rw [q] at h1; exact h1.elim
    | some s =>
      rw [q] at h1
      cases s with
      | no => exact h1.elim
      | fz d => exact h1.elim
      | ln k o => exact h1.elim
      | ow k o =>
        cases k with
        | true => exact h1.elim
        | false =>
          obtain ⟨w, hw, S2, x, k⟩ := S1.take q
          have R1 : σ[j]? = some (some v) := R1
          rw [R1] at hw
          cases hw
          exact h1 σ G1 _ H1 v (t1.take q) S2 ⟨own1 j, x, fun b p => ⟨(k b p).1, (k b p).2.1, (k b p).2.2, (t1.onew b ⟨j, p⟩).symm⟩⟩
theorem ds_aug {i : Nat} {x : Str} {o : Operator} {op : D → D → Option R} {pos' : Pos} (hN : X.N.Nodup) (hi : X.N[i]? = some x) (hx : Loc X.env.scope x) (he : PE X e (tD c σ0 W f)) (ho : OpR X (inplaceOp o) (rD c op)) (hf : X.fn x = true ∨ X.env.scope.names.lookup x = some .local := by first | exact .inl rfl | exact .inr rfl | assumption) :
    PS X (.AugAssign (.Name x pos') o e pos) (tS c σ0 W (sAug i op f)) := PS.imp (ps_aug (ti := rD c op) hN hi hx he (fun pins s σ H x y v u Q I r1 r2 h => ho pins s σ H x y v u Q I r1 r2 h) hf) fun E σ H q => by
  obtain ⟨G, own, ρ, S, q⟩ := q
  unfold sAug at q
  cases z : ρ[i]? with
  | none => rw [z] at q; exact q.elim
  | some s =>
    rw [z] at q
    cases s with
    | no => exact q.elim
    | ow k o => exact q.elim
    | ln k o => exact q.elim
    | fz d =>
      obtain ⟨v, hv, r⟩ := S.slot i _ z
      refine ⟨v, hv, SPo.bind S q fun r1 ρ1 G1 own1 H1 w t1 S1 R1 h1 => ?_⟩
      unfold augR' at h1
      by_cases ok : okSet ρ1 i = true
      · rw [if_pos ok] at h1
        cases e1 : deref ρ1 r1 with
        | none => rw [e1] at h1; exact h1.elim
        | some e =>
          rw [e1] at h1
          have h1 : SPo c σ0 W σ ρ G own H E (match op d e with
            | some (.val e) => .nx (ρ1.set i (.fz e))
            | _ => .bad) := h1
          cases e2 : op d e with
          | none => rw [e2] at h1; exact h1.elim
          | some r2 =>
            rw [e2] at h1
            cases r2 with
            | sl j => exact h1.elim
            | nw o => exact h1.elim
            | val d2 =>
              refine ⟨G1, d, e, _, S1.same, (r.mono t1.ext).rd S1.same, deref_rd S1 R1 e1, e2, fun G' H' v' n o => ?_⟩
              exact h1 _ G' _ H' ((t1.trans (n.tr S1.there)).put (P := fun _ => False) ok fun b p => p.elim) ((n.sr S1).put (P := fun _ => False) ok ⟨v', rfl, o⟩ rfl fun b p => p.elim)
      · rw [if_neg ok] at h1
        exact h1.elim

/-! ### a def -/
/-- what a body gives: its value; the parameters that the caller owns, as they are left -/
def keepIo : Ro → Ro → Option Ro
  | [], _ => some []
  | s :: a, [] => if s.isIo = true then none else (keepIo a []).map (s :: ·)
  | s :: a, s' :: r => if s.isIo = true then (match s' with
      | .ow true o => (keepIo a r).map (.ow true o :: ·)
      | _ => none) else (keepIo a r).map (s :: ·)
def runF (n : Nat) (body : S) (a : Ro) : Res R := match body (a ++ List.replicate n .no) with
  | .nx ρ => match keepIo a ρ with
    | some a' => .ok (.val .non) a'
    | none => .bad
  | .ret (.sl _) _ => .bad
  | .ret r ρ => match keepIo a ρ with
    | some a' => .ok r a'
    | none => .bad
  | .ex x ρ => match keepIo a ρ with
    | some a' => .ex x a'
    | none => .bad
  | _ => .bad
/-- a parameter's slot: frozen, or the caller's own -/
def argOk : Sl → Bool
  | .fz _ => true
  | .ow k _ => k
  | _ => false
def FPo (c : Cn) (vs : List V) (G : Hp) (own : Own) (a : Ro) (H : Hp) (Q : VK) (E : XK) : Res R → Prop
  | .ok r a' => ∀ G' own' H' v, Tr a (vs.map some) G own H a' (vs.map some) G' own' H' → SR c (vs.map some) G' own' a' (vs.map some) H' → RR c G' own' (vs.map some) H' (fun b => H b = none ∨ ao own b) r v → Q v H'
  | .ex x a' => ∀ G' own' H' cls d, Tr a (vs.map some) G own H a' (vs.map some) G' own' H' → SR c (vs.map some) G' own' a' (vs.map some) H' → ExR c G' H' x cls d → E cls d H'
  | .bad => False
def spD (c : Cn) (n : Nat) (F : Ro → Res R) : Sp := fun vs H Q E => ∃ G own a, SR c (vs.map some) G own a (vs.map some) H ∧ vs.length = n ∧ a.all argOk = true ∧ FPo c vs G own a H Q E (F a)
end
end DL

/-! DLd: defs and their calls. -/
namespace DL
open PySem PySem.Spec PyProof.Rows L2

theorem keepIo_get : ∀ {a ρ a' : Ro}, keepIo a ρ = some a' → a'.length = a.length ∧ ∀ (i : Nat) s', a'[i]? = some s' → (a[i]? = some s' ∧ s'.isIo = false) ∨ ∃ o s, s' = .ow true o ∧ ρ[i]? = some (.ow true o) ∧ a[i]? = some s ∧ s.isIo = true
  | [], _, _, h => by cases h; exact ⟨rfl, fun i s' h => by simp at h⟩
  | s :: a, [], a', h => by
    unfold keepIo at h
    cases q : s.isIo with
    | true => rw [q] at h; cases h
    | false =>
      rw [q] at h
      cases e : keepIo a [] with
      | none => rw [e] at h; cases h
      | some b =>
        rw [e] at h
        cases h
        obtain ⟨l, k⟩ := keepIo_get e
        refine ⟨by rw [List.length_cons, List.length_cons, l], fun i s' h => ?_⟩
        cases i with
        | zero =>
          cases h
          exact .inl ⟨rfl, q⟩
        | succ i =>
          rcases k i s' h with ⟨z, w⟩ | ⟨o, t, e1, e2, e3, e4⟩
          · exact .inl ⟨z, w⟩
          · cases e2
  | s :: a, t :: r, a', h => by
    unfold keepIo at h
    have go : ∀ {u : Sl} {b : Ro}, keepIo a r = some b → a' = u :: b → ((u = s ∧ s.isIo = false) ∨ ∃ o, u = .ow true o ∧ t = .ow true o ∧ s.isIo = true) → a'.length = (s :: a).length ∧ ∀ (i : Nat) s', a'[i]? = some s' → ((s :: a)[i]? = some s' ∧ s'.isIo = false) ∨ ∃ o w, s' = .ow true o ∧ (t :: r)[i]? = some (.ow true o) ∧ (s :: a)[i]? = some w ∧ w.isIo = true := by
      intro u b e hu hc
      subst hu
      obtain ⟨l, k⟩ := keepIo_get e
      refine ⟨by rw [List.length_cons, List.length_cons, l], fun i s' h => ?_⟩
      cases i with
      | zero =>
        cases h
        rcases hc with ⟨e, q⟩ | ⟨o, e1, e2, e3⟩
        · subst e
          exact .inl ⟨rfl, q⟩
        · subst e2
          exact .inr ⟨o, s, e1, rfl, rfl, e3⟩
      | succ i => exact k i s' h
    cases q : s.isIo with
    | true =>
      rw [q] at h
      cases t with
      | no => cases h
      | fz d => cases h
      | ln k o => cases h
      | ow k o =>
        cases k with
        | false => cases h
        | true =>
          cases e : keepIo a r with
          | none => rw [e] at h; cases h
          | some b =>
            rw [e] at h
            cases h
            exact go e rfl (.inr ⟨o, rfl, rfl, q⟩)
    | false =>
      rw [q] at h
      cases e : keepIo a r with
      | none => rw [e] at h; cases h
      | some b =>
        rw [e] at h
        cases h
        exact go e rfl (.inl ⟨rfl, q⟩)

section
variable {c : Cn} {σ0 : St} {G G' H H' : Hp} {own own' : Own} {a a' ρ ρ' : Ro} {vs : List V} {N ps : List Str}
theorem start_get {i : Nat} (h : i < vs.length) : (L2.start N vs)[i]? = (vs.map some)[i]? := by
  unfold L2.start
  rw [List.getElem?_append_left (by rw [List.length_map]; exact h)]
theorem SR.enter {n : Nat} (S : SR c (vs.map some) G own a (vs.map some) H) (hn : N.length - vs.length = n) : SR c (L2.start N vs) G own (a ++ List.replicate n .no) (L2.start N vs) H where
  same := S.same
  out := S.out
  there := S.there
  dis := S.dis
  len := by
    have := S.len
    unfold L2.start
    rw [List.length_append, List.length_append, List.length_replicate, List.length_replicate, this, hn]
  slot := fun i s h => by
    have l := S.len
    rw [List.length_map] at l
    by_cases hi : i < a.length
    · rw [List.getElem?_append_left hi] at h
      rw [start_get (by omega)]
      exact S.slot i s h
    · rw [List.getElem?_append_right (by omega), List.getElem?_replicate] at h
      split at h
      · cases h; trivial
      · cases h
  io := fun i s h k => rfl
/-- the caller's view of the end -/
theorem SR.leave {n : Nat} {W : WX} (S : SR c (vs.map some) G own a (vs.map some) H) (ok : a.all argOk = true) (hk : keepIo a ρ' = some a') {σ' : St}
    (t : Tr (a ++ List.replicate n .no) (L2.start N vs) G own H ρ' σ' G' own' H') (S' : SR c (L2.start N vs) G' own' ρ' σ' H') :
    let own'' : Own := fun i b => own' i b ∧ ∃ o, a'[i]? = some (.ow true o)
    Tr a (vs.map some) G own H a' (vs.map some) G' own'' H' ∧ SR c (vs.map some) G' own'' a' (vs.map some) H' := by
  intro own''
  obtain ⟨l, k⟩ := keepIo_get hk
  have la := S.len
  rw [List.length_map] at la
  refine ⟨⟨t.ext, t.keep, t.gnew, fun b ⟨i, h, _⟩ => t.onew b ⟨i, h⟩, fun j q o h => ?_⟩, ⟨S'.same, fun i b h => S'.out i b h.1, fun i b h => S'.there i b h.1, fun i j b h1 h2 => S'.dis i j b h1.1 h2.1, by rw [l]; exact S.len, fun i s h => ?_, fun i s h q => rfl⟩⟩
  · have := List.all_eq_true.mp ok _ (List.mem_of_getElem? h)
    cases this
  · rcases k i s h with ⟨z, w⟩ | ⟨o, u, e1, e2, e3, e4⟩
    · have q := List.all_eq_true.mp ok _ (List.mem_of_getElem? z)
      cases s with
      | no => cases q
      | ln x y => cases q
      | ow x y =>
        have q : x = true := q
        have w : x = false := w
        rw [q] at w; cases w
      | fz d =>
        obtain ⟨v, hv, r⟩ := S.slot i _ z
        exact ⟨v, hv, r.mono t.ext⟩
    · subst e1
      obtain ⟨v, hv, r⟩ := S'.slot i _ e2
      have e := S'.io i _ e2 rfl
      have hi : i < vs.length := by
        have := lt_of_get e3
        omega
      rw [hv, start_get hi] at e
      exact ⟨v, e.symm, r.at (Same.refl _) (fun _ _ _ z => z) fun b p => ⟨p, o, h⟩⟩
end

/-- a body's end, seen from its caller -/
theorem body_end {c : Cn} {N : List Str} {vs : List V} {G H : Hp} {own : Own} {a : Ro} {n : Nat} {s : S} {Q : VK} {E : XK} (S : SR c (vs.map some) G own a (vs.map some) H) (ok : a.all argOk = true) (h : FPo c vs G own a H Q E (runF n s a)) :
    SPo c (L2.start N vs) (fun cls d _ H' => E cls d H') (L2.start N vs) (a ++ List.replicate n .no) G own H { nx := fun _ H' => Q .non H', rt := Q } (s (a ++ List.replicate n .no)) := by
  unfold runF at h
  cases e : s (a ++ List.replicate n .no) with
  | bad => rw [e] at h; exact h
  | brk ρ => rw [e] at h; exact h.elim
  | cnt ρ => rw [e] at h; exact h.elim
  | nx ρ =>
    rw [e] at h
    dsimp only at h
    cases q : keepIo a ρ with
    | none => rw [q] at h; exact h.elim
    | some a' =>
      rw [q] at h
      intro σ' G' own' H' t S'
      obtain ⟨t2, S2⟩ := SR.leave (W := fun _ _ _ _ => False) S ok q t S'
      exact h G' _ H' .non t2 S2 Rep.non
  | ret r ρ =>
    rw [e] at h
    cases r with
    | sl j => exact h.elim
    | val d =>
      dsimp only at h
      cases q : keepIo a ρ with
      | none => rw [q] at h; exact h.elim
      | some a' =>
        rw [q] at h
        intro σ' G' own' H' v t S' R'
        obtain ⟨t2, S2⟩ := SR.leave (W := fun _ _ _ _ => False) S ok q t S'
        exact h G' _ H' v t2 S2 R'
    | nw o =>
      dsimp only at h
      cases q : keepIo a ρ with
      | none => rw [q] at h; exact h.elim
      | some a' =>
        rw [q] at h
        intro σ' G' own' H' v t S' R'
        obtain ⟨t2, S2⟩ := SR.leave (W := fun _ _ _ _ => False) S ok q t S'
        obtain ⟨Pp, y, z⟩ := R'
        exact h G' _ H' v t2 S2 ⟨Pp, y, fun b p => ⟨(z b p).1, fun ⟨i, m, _⟩ => (z b p).2.1 ⟨i, m⟩, (z b p).2.2⟩⟩
  | ex x ρ =>
    rw [e] at h
    dsimp only at h
    cases q : keepIo a ρ with
    | none => rw [q] at h; exact h.elim
    | some a' =>
      rw [q] at h
      intro σ' G' own' H' cls d t S' R'
      obtain ⟨t2, S2⟩ := SR.leave (W := fun _ _ _ _ => False) S ok q t S'
      exact h G' _ H' cls d t2 S2 R'
section
variable {P : Program} {w : World} {K : PySem.W.Frag} {mg : Str → Option Value} {base : Heap}
/-- THE RULE for a def -/
theorem fn_D {c : Cn} {x qual : Str} {st : Stmt} {f : Addr} {fd : FuncData} {N ps : List Str} {k n : Nat} {s : S} (F : Fun K x qual st f fd) (Sc : FnScope N ps (defScope st)) (hn : N.length - ps.length = n)
    (hbody : ∀ (cdv : Value) (A : Around) (outer : List Env) (sh : Shared) (H : Hp) (E : XK) (σ0 : St) (W : WX), Room k (cxOf (L2.CX P w) P w K mg base N qual (defScope st) f cdv A outer sh H E).A →
      PassesOwn (model P w) (cxOf (L2.CX P w) P w K mg base N qual (defScope st) f cdv A outer sh H E).A (cxOf (L2.CX P w) P w K mg base N qual (defScope st) f cdv A outer sh H E).env (cxOf (L2.CX P w) P w K mg base N qual (defScope st) f cdv A outer sh H E).xe →
      Takes (cxOf (L2.CX P w) P w K mg base N qual (defScope st) f cdv A outer sh H E) W → PSs (cxOf (L2.CX P w) P w K mg base N qual (defScope st) f cdv A outer sh H E) (defBody st) (tS c σ0 W s)) :
    FnOk P w K mg base (L2.CX P w) (k + 1) f fd ps (spD c ps.length (runF n s)) := by
  refine F.okX Sc (fun vs H Q E h => ?_) (fun cdv A outer sh H vs Q E hr h => ?_)
  · obtain ⟨_, _, _, _, l, _⟩ := h
    exact l
  · obtain ⟨G, own, a, S, l, ok, h⟩ := h
    have tk : Takes (cxOf (L2.CX P w) P w K mg base N qual (defScope st) f cdv A outer sh H E) (fun cls d _ H' => E cls d H') := takes_of rfl rfl rfl rfl
    refine ⟨tS c (L2.start N vs) (fun cls d _ H' => E cls d H') s, hbody cdv A outer sh H E _ _ hr (passes_of rfl) tk, G, own, a ++ List.replicate n .no, S.enter (by rw [l]; exact hn), ?_⟩
    exact body_end S ok h
end
end DL

/-! DLe: calls. -/
namespace DL
open PySem PySem.Spec PyProof.Rows L2

/-- the callee's slots -/
def argSl (ρ : Ro) : R → Option Sl
  | .val d => some (.fz d)
  | .sl i => match ρ[i]? with
    | some (.fz d) => some (.fz d)
    | some (.ow _ o) => some (.ow true o)
    | _ => none
  | .nw _ => none
def argSls (ρ : Ro) : List R → Option Ro
  | [] => some []
  | r :: rs => match argSl ρ r, argSls ρ rs with
    | some s, some a => some (s :: a)
    | _, _ => none
def R.is (i : Nat) : R → Bool
  | .sl j => j == i
  | _ => false
/-- no slot's own object is handed over twice -/
def apartR (ρ : Ro) : List R → Bool
  | [] => true
  | .sl i :: rs => (match ρ[i]? with
    | some (.ow _ _) => !rs.any (R.is i)
    | _ => true) && apartR ρ rs
  | _ :: rs => apartR ρ rs
def findA (i : Nat) : List R → Ro → Option Sl
  | .sl j :: rs, s :: a => if j = i then some s else findA i rs a
  | _ :: rs, _ :: a => findA i rs a
  | _, _ => none
/-- the caller's slots behind the call -/
def backR (rs : List R) (a' : Ro) : Nat → Ro → Option Ro
  | _, [] => some []
  | i, .ow k o :: l => match findA i rs a' with
    | none => (backR rs a' (i + 1) l).map (.ow k o :: ·)
    | some (.ow true o') => (backR rs a' (i + 1) l).map (.ow k o' :: ·)
    | _ => none
  | i, s :: l => (backR rs a' (i + 1) l).map (s :: ·)
def callR (F : Ro → Res R) (rs : List R) : M R := fun ρ => match argSls ρ rs with
  | none => .bad
  | some a => if apartR ρ rs = true then (match F a with
    | .ok (.sl _) _ => .bad
    | .ok r a' => match backR rs a' 0 ρ with
      | some ρ' => .ok r ρ'
      | none => .bad
    | .ex x a' => match backR rs a' 0 ρ with
      | some ρ' => .ex x ρ'
      | none => .bad
    | .bad => .bad) else .bad
def eCall (F : Ro → Res R) (f : M (List R)) : M R := f.bind (callR F)

theorem argSls_get {ρ : Ro} : ∀ {rs : List R} {a : Ro}, argSls ρ rs = some a → a.length = rs.length ∧ ∀ (j : Nat) s, a[j]? = some s → ∃ r, rs[j]? = some r ∧ argSl ρ r = some s
  | [], _, h => by cases h; exact ⟨rfl, fun j s h => by simp at h⟩
  | r :: rs, a, h => by
    unfold argSls at h
    cases e1 : argSl ρ r with
    | none => rw [e1] at h; cases h
    | some s =>
      cases e2 : argSls ρ rs with
      | none => rw [e1, e2] at h; cases h
      | some b =>
        rw [e1, e2] at h
        cases h
        obtain ⟨l, k⟩ := argSls_get e2
        refine ⟨by rw [List.length_cons, List.length_cons, l], fun j s' h => ?_⟩
        cases j with
        | zero => cases h; exact ⟨r, rfl, e1⟩
        | succ j => exact k j s' h
theorem argSl_ok {ρ : Ro} {r : R} {s : Sl} (h : argSl ρ r = some s) : argOk s = true := by
  cases r with
  | nw o => cases h
  | val d => cases h; rfl
  | sl i =>
    unfold argSl at h
    dsimp only at h
    cases e : ρ[i]? with
    | none => rw [e] at h; cases h
    | some t =>
      rw [e] at h
      cases t with
      | no => cases h
      | fz d => cases h; rfl
      | ow k o => cases h; rfl
      | ln k o => cases h
theorem argSl_ow {ρ : Ro} {r : R} {k : Bool} {o : OV} (h : argSl ρ r = some (.ow k o)) : ∃ i q, r = .sl i ∧ ρ[i]? = some (.ow q o) := by
  cases r with
  | nw o => cases h
  | val d => cases h
  | sl i =>
    unfold argSl at h
    dsimp only at h
    cases e : ρ[i]? with
    | none => rw [e] at h; cases h
    | some t =>
      rw [e] at h
      cases t with
      | no => cases h
      | fz d => cases h
      | ow q o' => cases h; exact ⟨i, q, rfl, e⟩
      | ln k o => cases h
theorem apart_inj {ρ : Ro} : ∀ {rs : List R}, apartR ρ rs = true → ∀ {j j' i : Nat} {k : Bool} {o : OV}, ρ[i]? = some (.ow k o) → rs[j]? = some (.sl i) → rs[j']? = some (.sl i) → j = j'
  | [], _, j, _, _, _, _, _, h, _ => by simp at h
  | r :: rs, ap, j, j', i, k, o, hi, h1, h2 => by
    have tail : apartR ρ rs = true := by
      cases r with
      | val d => exact ap
      | nw o => exact ap
      | sl i => exact (Bool.and_eq_true_iff.mp ap).2
    have nohead : ∀ m : Nat, r = .sl i → rs[m]? ≠ some (.sl i) := fun m e z => by
      subst e
      have q := (Bool.and_eq_true_iff.mp ap).1
      rw [hi] at q
      have q : (!rs.any (R.is i)) = true := q
      have w : rs.any (R.is i) = true := List.any_eq_true.mpr ⟨_, List.mem_of_getElem? z, by show (i == i) = true; simp⟩
      rw [w] at q; cases q
    cases j with
    | zero =>
      cases j' with
      | zero => rfl
      | succ m => exact absurd h2 (nohead m (Option.some.inj h1))
    | succ n =>
      cases j' with
      | zero => exact absurd h1 (nohead n (Option.some.inj h2))
      | succ m => exact congrArg Nat.succ (apart_inj tail hi h1 h2)
theorem findA_some {i : Nat} {s : Sl} : ∀ {rs : List R} {a : Ro}, findA i rs a = some s → ∃ j : Nat, rs[j]? = some (R.sl i) ∧ a[j]? = some s
  | [], _, h => by cases h
  | r :: rs, [], h => by cases r <;> cases h
  | r :: rs, t :: a, h => by
    have go : findA i rs a = some s → ∃ j : Nat, (r :: rs)[j]? = some (R.sl i) ∧ (t :: a)[j]? = some s := fun q => by
      obtain ⟨j, h1, h2⟩ := findA_some q
      exact ⟨j + 1, h1, h2⟩
    cases r with
    | val d => exact go h
    | nw o => exact go h
    | sl k =>
      unfold findA at h
      by_cases e : k = i
      · rw [if_pos e] at h
        cases h
        subst e
        exact ⟨0, rfl, rfl⟩
      · rw [if_neg e] at h
        exact go h
theorem findA_none {i : Nat} : ∀ {rs : List R} {a : Ro}, findA i rs a = none → rs.length = a.length → ∀ j : Nat, rs[j]? ≠ some (R.sl i)
  | [], _, _, _, j => by simp
  | r :: rs, [], _, l, _ => by simp at l
  | r :: rs, t :: a, h, l, j => by
    have l' : rs.length = a.length := by simpa using l
    have go : findA i rs a = none → r ≠ .sl i → (r :: rs)[j]? ≠ some (.sl i) := fun q ne z => by
      cases j with
      | zero => exact ne (Option.some.inj z)
      | succ j => exact findA_none q l' j z
    cases r with
    | val d => exact go h (fun q => nomatch q)
    | nw o => exact go h (fun q => nomatch q)
    | sl k =>
      unfold findA at h
      by_cases e : k = i
      · rw [if_pos e] at h; cases h
      · rw [if_neg e] at h
        exact go h fun q => e (R.sl.inj q)
theorem backR_get {rs : List R} {a' : Ro} : ∀ {n : Nat} {l l' : Ro}, backR rs a' n l = some l' → l'.length = l.length ∧ ∀ (i : Nat) s', l'[i]? = some s' →
    (l[i]? = some s' ∧ ((∀ k o, s' ≠ .ow k o) ∨ findA (n + i) rs a' = none)) ∨ ∃ k o o', l[i]? = some (.ow k o) ∧ findA (n + i) rs a' = some (.ow true o') ∧ s' = .ow k o'
  | _, [], _, h => by cases h; exact ⟨rfl, fun i s' h => by simp at h⟩
  | n, s :: l, l', h => by
    have go : ∀ {u : Sl}, (backR rs a' (n + 1) l).map (u :: ·) = some l' →
        ((u = s ∧ ((∀ k o, u ≠ .ow k o) ∨ findA n rs a' = none)) ∨ ∃ k o o', s = .ow k o ∧ findA n rs a' = some (.ow true o') ∧ u = .ow k o') →
        l'.length = (s :: l).length ∧ ∀ (i : Nat) s', l'[i]? = some s' →
          ((s :: l)[i]? = some s' ∧ ((∀ k o, s' ≠ .ow k o) ∨ findA (n + i) rs a' = none)) ∨ ∃ k o o', (s :: l)[i]? = some (.ow k o) ∧ findA (n + i) rs a' = some (.ow true o') ∧ s' = .ow k o' := by
      intro u hm hu
      cases e : backR rs a' (n + 1) l with
      | none => rw [e] at hm; cases hm
      | some m =>
        rw [e] at hm
        cases hm
        obtain ⟨len, k⟩ := backR_get e
        refine ⟨by rw [List.length_cons, List.length_cons, len], fun i s' hi => ?_⟩
        cases i with
        | zero =>
          cases hi
          rcases hu with ⟨e1, e2⟩ | ⟨k, o, o', e1, e2, e3⟩
          · exact .inl ⟨by rw [e1]; rfl, e2⟩
          · exact .inr ⟨k, o, o', by rw [e1]; rfl, e2, e3⟩
        | succ i =>
          have q : n + 1 + i = n + (i + 1) := by omega
          have := k i s' hi
          rw [q] at this
          exact this
    cases s with
    | no => exact go h (.inl ⟨rfl, .inl fun k o q => nomatch q⟩)
    | fz d => exact go h (.inl ⟨rfl, .inl fun k o q => nomatch q⟩)
    | ln k o => exact go h (.inl ⟨rfl, .inl fun k o q => nomatch q⟩)
    | ow k o =>
      unfold backR at h
      cases e : findA n rs a' with
      | none =>
        rw [e] at h
        exact go h (.inl ⟨rfl, .inr e⟩)
      | some t =>
        rw [e] at h
        cases t with
        | no => cases h
        | fz d => cases h
        | ln x y => cases h
        | ow x y =>
          cases x with
          | false => cases h
          | true => exact go h (.inr ⟨k, o, y, rfl, e, rfl⟩)

section
variable {c : Cn} {σ0 σ : St} {W : WX} {G G' H H' : Hp} {own ownC : Own} {a a' ρ ρ' : Ro} {rs : List R} {vs : List V}
theorem RRs.len : ∀ {rs : List R} {vs : List V}, RRs c G σ rs vs → rs.length = vs.length
  | _, _, .nil => rfl
  | _, _, .val _ r => congrArg Nat.succ r.len
  | _, _, .sl _ r => congrArg Nat.succ r.len
theorem RRs.get : ∀ {rs : List R} {vs : List V} {j : Nat} {r : R}, RRs c G σ rs vs → rs[j]? = some r → ∃ v, vs[j]? = some v ∧ ((∃ d, r = .val d ∧ Rep c G d v) ∨ ∃ i, r = .sl i ∧ σ[i]? = some (some v))
  | _, _, _, _, .nil, h => by simp at h
  | _, _, 0, _, .val q _, h => by cases h; exact ⟨_, rfl, .inl ⟨_, rfl, q⟩⟩
  | _, _, 0, _, .sl q _, h => by cases h; exact ⟨_, rfl, .inr ⟨_, rfl, q⟩⟩
  | _, _, j + 1, _, .val _ k, h => RRs.get (j := j) k h
  | _, _, j + 1, _, .sl _ k, h => RRs.get (j := j) k h
/-- what the callee owns -/
def ownOf (ρ : Ro) (own : Own) (rs : List R) : Own := fun j b => ∃ (i : Nat) (k : Bool) (o : OV), rs[j]? = some (R.sl i) ∧ ρ[i]? = some (Sl.ow k o) ∧ own i b
theorem SR.args (S : SR c σ0 G own ρ σ H) (h : RRs c G σ rs vs) (ha : argSls ρ rs = some a) (ap : apartR ρ rs = true) : SR c (vs.map some) G (ownOf ρ own rs) a (vs.map some) H := by
  obtain ⟨l, k⟩ := argSls_get ha
  refine ⟨S.same, fun j b ⟨i, _, _, _, _, q⟩ => S.out i b q, fun j b ⟨i, _, _, _, _, q⟩ => S.there i b q, fun j j' b ⟨i, _, _, h1, h2, q⟩ ⟨i', _, _, h1', h2', q'⟩ => ?_, by rw [List.length_map, l, h.len], fun j s hs => ?_, fun j s hs _ => rfl⟩
  · have e := S.dis i i' b q q'
    subst e
    exact apart_inj ap h2 h1 h1'
  · obtain ⟨r, hr, hz⟩ := k j s hs
    obtain ⟨v, hv, w⟩ := h.get hr
    have hv' : (vs.map some)[j]? = some (some v) := by rw [List.getElem?_map, hv]; rfl
    rw [hv']
    rcases w with ⟨d, e, q⟩ | ⟨i, e, q⟩
    · subst e
      cases hz
      exact ⟨v, rfl, q⟩
    · subst e
      unfold argSl at hz
      dsimp only at hz
      cases e : ρ[i]? with
      | none => rw [e] at hz; cases hz
      | some t =>
        rw [e] at hz
        have z := S.slot i t e
        rw [q] at z
        cases t with
        | no => cases hz
        | ln x y => cases hz
        | fz d =>
          cases hz
          exact z
        | ow x o =>
          cases hz
          exact z.at (Same.refl _) (fun _ _ _ k => k) fun b p => ⟨i, x, o, hr, e, p⟩
/-- the owners behind the call -/
def ownBack (ρ : Ro) (own : Own) (rs : List R) (ownC : Own) : Own := fun i b => (∃ (j : Nat) (k : Bool) (o : OV), rs[j]? = some (R.sl i) ∧ ρ[i]? = some (Sl.ow k o) ∧ ownC j b) ∨ ((∀ (j : Nat) (k : Bool) (o : OV), rs[j]? = some (R.sl i) → ρ[i]? ≠ some (Sl.ow k o)) ∧ own i b)
theorem SR.back (S : SR c σ0 G own ρ σ H) (h : RRs c G σ rs vs) (ha : argSls ρ rs = some a) (ap : apartR ρ rs = true) (hb : backR rs a' 0 ρ = some ρ')
    (t : Tr a (vs.map some) G (ownOf ρ own rs) H a' (vs.map some) G' ownC H') (S' : SR c (vs.map some) G' ownC a' (vs.map some) H') :
    Tr ρ σ G own H ρ' σ G' (ownBack ρ own rs ownC) H' ∧ SR c σ0 G' (ownBack ρ own rs ownC) ρ' σ H' ∧ ∀ b, (H b = none ∨ ao (ownOf ρ own rs) b) → H b = none ∨ ao own b := by
  obtain ⟨l, k⟩ := argSls_get ha
  obtain ⟨lb, kb⟩ := backR_get hb
  have aoo : ∀ b, ao (ownOf ρ own rs) b → ao own b := fun b ⟨j, i, _, _, _, _, q⟩ => ⟨i, q⟩
  have la' : rs.length = a'.length := by
    have e := S'.len
    rw [List.length_map] at e
    rw [h.len, e]
  -- an own object of a slot that is not handed over
  have free : ∀ i b, (∀ (j : Nat) (k : Bool) (o : OV), rs[j]? = some (R.sl i) → ρ[i]? ≠ some (Sl.ow k o)) → own i b → ¬ ao (ownOf ρ own rs) b := fun i b nj q ⟨j, i', k, o, h1, h2, q'⟩ => by
    have e := S.dis i i' b q q'
    subst e
    exact nj j k o h1 h2
  refine ⟨⟨t.ext, fun b o e n => t.keep b o e fun z => n (aoo b z), fun b o e => (t.gnew b o e).imp id (Or.imp id (aoo b)), fun b ⟨i, z⟩ => ?_, fun j q o e => ?_⟩,
    ⟨S'.same, fun i b z => ?_, fun i b z => ?_, fun i i' b z z' => ?_, by rw [lb]; exact S.len, fun i s hs => ?_, fun i s hs q => ?_⟩, fun b => Or.imp id (aoo b)⟩
  · rcases z with ⟨j, _, _, _, _, q⟩ | ⟨_, q⟩
    · rcases t.onew b ⟨j, q⟩ with w | w
      · exact .inl (aoo b w)
      · exact .inr w
    · exact .inl ⟨i, q⟩
  · have hj := lt_of_get e
    have hj' : j < ρ'.length := by rw [lb]; exact hj
    have hs : ρ'[j]? = some ρ'[j] := List.getElem?_eq_getElem hj'
    refine ⟨?_, rfl⟩
    rcases kb j _ hs with ⟨e1, _⟩ | ⟨x, y, z, e1, _, _⟩
    · rw [hs, ← e1]
      exact e
    · rw [e] at e1; cases e1
  · rcases z with ⟨j, _, _, _, _, q⟩ | ⟨nj, q⟩
    · exact S'.out j b q
    · cases e : G' b with
      | none => rfl
      | some o =>
        rcases t.gnew b o e with w | w | w
        · rw [S.out i b q] at w; cases w
        · obtain ⟨o, u⟩ := S.there i b q
          rw [w] at u; cases u
        · exact absurd w (free i b nj q)
  · rcases z with ⟨j, _, _, _, _, q⟩ | ⟨nj, q⟩
    · exact S'.there j b q
    · obtain ⟨o, u⟩ := S.there i b q
      exact ⟨o, t.keep b o u (free i b nj q)⟩
  · have mix : ∀ {i i' : Nat}, (∃ (j : Nat) (k : Bool) (o : OV), rs[j]? = some (R.sl i) ∧ ρ[i]? = some (Sl.ow k o) ∧ ownC j b) → ((∀ (j : Nat) (k : Bool) (o : OV), rs[j]? = some (R.sl i') → ρ[i']? ≠ some (Sl.ow k o)) ∧ own i' b) → False := fun {i i'} ⟨j, _, _, _, _, q⟩ ⟨nj, q'⟩ => by
      rcases t.onew b ⟨j, q⟩ with w | w
      · exact free i' b nj q' w
      · obtain ⟨o, u⟩ := S.there i' b q'
        rw [w] at u; cases u
    rcases z with z | z
    · rcases z' with z' | z'
      · obtain ⟨j, _, _, h1, _, q⟩ := z
        obtain ⟨j', _, _, h1', _, q'⟩ := z'
        have e := S'.dis j j' b q q'
        subst e
        rw [h1] at h1'
        cases h1'
        rfl
      · exact (mix z z').elim
    · rcases z' with z' | z'
      · exact (mix z' z).elim
      · exact S.dis i i' b z.2 z'.2
  · rcases kb i s hs with ⟨e1, e2⟩ | ⟨x, o, o', e1, e2, e3⟩
    · have z := S.slot i s e1
      cases s with
      | no => trivial
      | fz d =>
        obtain ⟨v, hv, r⟩ := z
        exact ⟨v, hv, r.mono t.ext⟩
      | ln x o =>
        have nj : ∀ (j : Nat) k o, rs[j]? = some (.sl i) → ρ[i]? ≠ some (.ow k o) := fun j k o _ q => by
          rw [e1] at q; cases q
        exact z.at t.ext (fun b u p q => t.keep b u q (free i b nj p)) fun b p => Or.inr ⟨nj, p⟩
      | ow x o =>
        have nf : findA (0 + i) rs a' = none := by
          rcases e2 with e2 | e2
          · exact absurd rfl (e2 x o)
          · exact e2
        rw [Nat.zero_add] at nf
        have nj : ∀ (j : Nat) k o, rs[j]? = some (.sl i) → ρ[i]? ≠ some (.ow k o) := fun j k o q => absurd q (findA_none nf la' j)
        exact z.at t.ext (fun b u p q => t.keep b u q (free i b nj p)) fun b p => Or.inr ⟨nj, p⟩
    · subst e3
      rw [Nat.zero_add] at e2
      obtain ⟨j, h1, h2⟩ := findA_some e2
      have z := S'.slot j _ h2
      obtain ⟨v, hv, w⟩ := h.get h1
      have hv' : (vs.map some)[j]? = some (some v) := by rw [List.getElem?_map, hv]; rfl
      rcases w with ⟨d, e, _⟩ | ⟨i', e, q⟩
      · cases e
      · cases e
        rw [hv'] at z
        rw [q]
        exact z.at (Same.refl _) (fun _ _ _ k => k) fun b p => Or.inl ⟨j, x, o, h1, e1, p⟩
  · rcases kb i s hs with ⟨e1, _⟩ | ⟨x, o, o', e1, _, e3⟩
    · exact S.io i s e1 q
    · subst e3
      exact S.io i _ e1 q
/-- a call's promise, from the caller's state -/
theorem SpD.of_call {F : Ro → Res R} {n : Nat} {Q : VK} {ρ0 : Ro} {G0 H0 : Hp} {own0 : Own} (S : SR c σ0 G own ρ σ H) (t0 : Tr ρ0 σ G0 own0 H0 ρ σ G own H) (hr : RRs c G σ rs vs) (hn : rs.length = n)
    (h : XP (relR c) c σ0 W σ ρ0 G0 own0 H0 Q (callR F rs ρ)) : spD c n F vs H Q (WE W σ) := by
  unfold callR at h
  cases ea : argSls ρ rs with
  | none => rw [ea] at h; exact h.elim
  | some a =>
    rw [ea] at h
    dsimp only at h
    by_cases ap : apartR ρ rs = true
    · rw [if_pos ap] at h
      obtain ⟨l, k⟩ := argSls_get ea
      refine ⟨G, ownOf ρ own rs, a, S.args hr ea ap, by rw [← hr.len]; exact hn, List.all_eq_true.mpr fun s hs => ?_, ?_⟩
      · obtain ⟨j, hj⟩ := List.mem_iff_getElem?.mp hs
        obtain ⟨r, _, e⟩ := k j s hj
        exact argSl_ok e
      · cases e : F a with
        | bad => rw [e] at h; exact h
        | ex x a' =>
          rw [e] at h
          dsimp only at h
          cases eb : backR rs a' 0 ρ with
          | none => rw [eb] at h; exact h.elim
          | some ρ' =>
            rw [eb] at h
            intro G' ownC H' cls d t S' R'
            obtain ⟨t1, S1, _⟩ := SR.back S hr ea ap eb t S'
            exact h G' _ H' cls d (t0.trans t1) S1 R'
        | ok r a' =>
          rw [e] at h
          have go : (∀ i, r ≠ .sl i) → XP (relR c) c σ0 W σ ρ0 G0 own0 H0 Q (match backR rs a' 0 ρ with
              | some ρ' => .ok r ρ'
              | none => .bad) → FPo c vs G (ownOf ρ own rs) a H Q (WE W σ) (.ok r a') := fun ns h => by
            cases eb : backR rs a' 0 ρ with
            | none => rw [eb] at h; exact h.elim
            | some ρ' =>
              rw [eb] at h
              intro G' ownC H' v t S' R'
              obtain ⟨t1, S1, kk⟩ := SR.back S hr ea ap eb t S'
              refine h G' _ H' v (t0.trans t1) S1 ?_
              cases r with
              | sl i => exact absurd rfl (ns i)
              | val d => exact R'
              | nw o =>
                obtain ⟨P, x, y⟩ := R'
                refine ⟨P, x, fun b p => ⟨(y b p).1, fun ⟨i, z⟩ => ?_, (y b p).2.2.1, t0.back (kk b (y b p).2.2.2)⟩⟩
                rcases z with ⟨j, _, _, _, _, q⟩ | ⟨nj, q⟩
                · exact (y b p).2.1 ⟨j, q⟩
                · rcases (y b p).2.2.2 with w | ⟨j', i', k', o', w1, w2, w3⟩
                  · obtain ⟨u, hu⟩ := S.there i b q
                    rw [w] at hu; cases hu
                  · have e := S.dis i i' b q w3
                    subst e
                    exact nj j' k' o' w1 w2
          cases r with
          | sl i => exact h.elim
          | val d => exact go (fun i q => nomatch q) h
          | nw o => exact go (fun i q => nomatch q) h
    · rw [if_neg ap] at h
      exact h.elim
end
section
variable {X : Cx} {c : Cn} {σ0 : St} {W : WX} {k : Nat} {f : Addr} {fd : FuncData} {ps : List Str} {x : Str} {p pos : Pos} {e : Expr} {es : List Expr} {fa : M (List R)} {F : Ro → Res R}
theorem eCons_len {f : M R} {g : M (List R)} {n : Nat} (hg : ∀ ρ rs ρ', g ρ = .ok rs ρ' → rs.length = n) : ∀ ρ rs ρ', eCons f g ρ = .ok rs ρ' → rs.length = n + 1 := fun ρ rs ρ' h => by
  unfold eCons M.bind at h
  cases e : f ρ with
  | bad => rw [e] at h; cases h
  | ex x ρ1 => rw [e] at h; cases h
  | ok r ρ1 =>
    rw [e] at h
    dsimp only at h
    cases e2 : g ρ1 with
    | bad => rw [e2] at h; cases h
    | ex x ρ1 => rw [e2] at h; cases h
    | ok rs1 ρ2 =>
      rw [e2] at h
      cases h
      rw [List.length_cons, hg _ _ _ e2]
/-- f(e, ..) -/
theorem de_call (Fn : FnOk X.prog X.w X.K X.mg X.base (L2.CX X.prog X.w) k f fd ps (spD c ps.length F)) (hr : Room k X.A) (hg : Gl X x) (hm : X.mg x = some (.ref f)) (hk : PySem.W.keepIn X.K (.ref f) = true) (hb : Binds X.K fd ps []) (tk : Takes X W)
    (ha : PA X (e :: es) (tA c σ0 W fa)) (hl : (e :: es).length = ps.length) (hdb : (x == ("__debug__" : Str)) = false := by decide) (he : starEach (e :: es) X.env = (false, eval e X.env) :: starEach es X.env := by rfl) (hpl : (backTo pos (starEach es X.env)).any (·.1) = false := by rfl)
    (hfl : ∀ ρ rs ρ', fa ρ = .ok rs ρ' → rs.length = ps.length) :
    PE X (.Call (.Name x p) (e :: es) [] pos) (tD c σ0 W (eCall F fa)) :=
  PE.imp (pe_callS (E := WE W) Fn hr hg hm hk hb (passAt tk) ha hdb he hpl) fun σ H Q q => by
    obtain ⟨G, own, ρ, S, q⟩ := q
    refine ⟨G, own, ρ, S, ?_⟩
    unfold eCall M.bind at q
    cases e1 : fa ρ with
    | bad => rw [e1] at q; exact q
    | ex x ρ1 => rw [e1] at q; exact q
    | ok rs ρ1 =>
      rw [e1] at q
      exact fun G1 own1 H1 vs t S1 R1 => SpD.of_call S1 t R1 (hfl _ _ _ e1) q
/-- f() -/
theorem de_call0 (Fn : FnOk X.prog X.w X.K X.mg X.base (L2.CX X.prog X.w) k f fd ps (spD c ps.length F)) (hr : Room k X.A) (hg : Gl X x) (hm : X.mg x = some (.ref f)) (hk : PySem.W.keepIn X.K (.ref f) = true) (hb : Binds X.K fd ps []) (tk : Takes X W)
    (hl : 0 = ps.length) (hdb : (x == ("__debug__" : Str)) = false := by decide) : PE X (.Call (.Name x p) [] [] pos) (tD c σ0 W (eCall F eNil)) := by
  refine ⟨fun pins s σ H Q I h => ?_⟩
  refine wpAny_Call_Name_kw (ld_glob I hg hm ?_ hdb)
  refine PySem.W.callWith_K0 I.kIn hk (run_fnS (us := []) (vs := []) (E := WE W) Fn hr hb (passAt tk σ) I .nil ?_)
  obtain ⟨G, own, ρ, S, q⟩ := h
  exact SpD.of_call S Tr.refl .nil hl q
end
end DL

/-! DLf: targets, loops. -/
namespace DL
open PySem PySem.Spec PyProof.Rows L2

abbrev Tgt := D → Ro → Option Ro
/-- alike but at these slots -/
def Off (ts : List Nat) (σ σ' : St) : Prop := σ'.length = σ.length ∧ ∀ i, i ∉ ts → σ'[i]? = σ[i]?
def tG (c : Cn) (σ0 : St) (ts : List Nat) (tgt : Tgt) : TG := fun v σ H Q => ∃ G own ρ d, SR c σ0 G own ρ σ H ∧ Rep c G d v ∧ ∃ ρ', tgt d ρ = some ρ' ∧ ∀ σ' own', Off ts σ σ' → Tr ρ σ G own H ρ' σ' G own' H → SR c σ0 G own' ρ' σ' H → Q σ' H
def tGs (c : Cn) (σ0 : St) (ts : List Nat) (tgt : List D → Ro → Option Ro) : TGs := fun vs σ H Q => ∃ G own ρ ds, SR c σ0 G own ρ σ H ∧ Reps c G ds vs ∧ ∃ ρ', tgt ds ρ = some ρ' ∧ ∀ σ' own', Off ts σ σ' → Tr ρ σ G own H ρ' σ' G own' H → SR c σ0 G own' ρ' σ' H → Q σ' H
def tgName (i : Nat) : Tgt := fun d ρ => if okSet ρ i = true then some (ρ.set i (.fz d)) else none
def tgNil : List D → Ro → Option Ro := fun ds ρ => match ds with
  | [] => some ρ
  | _ => none
def tgCons (t : Tgt) (u : List D → Ro → Option Ro) : List D → Ro → Option Ro := fun ds ρ => match ds with
  | d :: ds => (t d ρ).bind (u ds)
  | [] => none
def tgTup (n : Nat) (u : List D → Ro → Option Ro) : Tgt := fun d ρ => match d with
  | .tup ds => if ds.length = n then u ds ρ else none
  | _ => none

section
variable {X : Cx} {c : Cn} {σ0 : St} {W : WX} {σ σ' : St} {ρ ρ1 ρ2 : Ro} {G G1 H H1 H2 : Hp} {own own1 : Own} {E : Ends}
theorem dg_of {tg : Expr} {i : Nat} (h : PG X tg (gName i)) : PG X tg (tG c σ0 [i] (tgName i)) := ⟨fun pins s σ H v u Q I r q => h.run pins s σ H v u Q I r (by
  obtain ⟨G, own, ρ, d, S, rd, ρ', e, k⟩ := q
  unfold tgName at e
  by_cases ok : okSet ρ i = true
  · rw [if_pos ok] at e
    cases e
    exact k _ _ ⟨List.length_set, fun j hj => List.getElem?_set_ne fun z => hj (by rw [z]; exact List.mem_cons_self)⟩ (Tr.refl.put (P := fun _ => False) ok fun b p => p.elim) (S.put (P := fun _ => False) ok ⟨v, rfl, rd⟩ rfl fun b p => p.elim)
  · rw [if_neg ok] at e
    cases e)⟩
theorem dg_nil : PGs X [] (tGs c σ0 [] tgNil) := ⟨fun pins s σ H vs us Q I r q => pgs_nil.run pins s σ H vs us Q I r (by
  obtain ⟨G, own, ρ, ds, S, rd, ρ', e, k⟩ := q
  cases rd with
  | nil =>
    cases e
    exact ⟨rfl, k _ _ ⟨rfl, fun _ _ => rfl⟩ Tr.refl S⟩
  | cons h r => cases e)⟩
theorem dg_cons {e : Expr} {es : List Expr} {ts us : List Nat} {t : Tgt} {u : List D → Ro → Option Ro} (h1 : PG X e (tG c σ0 ts t)) (h2 : PGs X es (tGs c σ0 us u))
    (hs : (assignEach (e :: es) X.env).map (·.2) = assign e X.env :: (assignEach es X.env).map (·.2) := by rfl) : PGs X (e :: es) (tGs c σ0 (ts ++ us) (tgCons t u)) := ⟨fun pins s σ H vs us Q I r q => (pgs_cons h1 h2 hs).run pins s σ H vs us Q I r (by
  obtain ⟨G, own, ρ, ds, S, rd, ρ', e, k⟩ := q
  cases rd with
  | nil => cases e
  | cons h rr =>
    rename_i d v ds vs
    have e : (t d ρ).bind (u ds) = some ρ' := e
    cases q1 : t d ρ with
    | none => rw [q1] at e; cases e
    | some ρ1 =>
      rw [q1] at e
      refine ⟨v, vs, rfl, G, own, ρ, d, S, h, ρ1, q1, fun σ1 own1 o1 t1 S1 => ⟨G, own1, ρ1, ds, S1, rr, ρ', e, fun σ2 own2 o2 t2 S2 => k σ2 own2 ⟨o2.1.trans o1.1, fun i hi => (o2.2 i fun z => hi (List.mem_append_right _ z)).trans (o1.2 i fun z => hi (List.mem_append_left _ z))⟩ (t1.trans t2) S2⟩⟩)⟩
theorem dg_tup {es : List Expr} {ts : List Nat} {k : Nat} {n : Nat} {pos : Pos} {u : List D → Ro → Option Ro} (hK : c.K = X.K) (hc : X.calm = true) (h : PGs X es (tGs c σ0 ts u))
    (hn : (assignEach es X.env).length = n := by rfl) (hst : (assignEach es X.env).findIdx? (·.1) = none := by rfl) : PG X (.Tuple es k pos) (tG c σ0 ts (tgTup n u)) := ⟨fun pins s σ H v u' Q I r q => (pg_tup hc h hn hst).run pins s σ H v u' Q I r (by
  obtain ⟨G, own, ρ, d, S, rd, ρ', e, k⟩ := q
  cases rd with
  | tup hs rr =>
    rename_i a vs ds
    have e : (if ds.length = n then u ds ρ else none) = some ρ' := e
    by_cases hl : ds.length = n
    · rw [if_pos hl] at e
      exact ⟨a, vs, rfl, by rw [← hK]; exact sqT_same S.same hs, by rw [← rr.length]; exact hl, G, own, ρ, ds, S, rr, ρ', e, k⟩
    · rw [if_neg hl] at e
      cases e
  | _ => cases e)⟩

/-! ### iterators -/
structure Iter where
  src : List (Nat × Bool)
  items : Ro → Option (List D)
def isLn (ρ : Ro) (j : Nat) : Bool := match ρ[j]? with
  | some (.ln _ _) => true
  | _ => false
def GoOk (c : Cn) (J : It) (ds : List D) (G H : Hp) : Prop := J.stop ds.length H ∧ ∀ (i : Nat) d, ds[i]? = some d → J.go i H ∧ ∀ x H', J.yld i H x H' → ∃ G', New G H G' H' ∧ Rep c G' d x
structure ItOk (c : Cn) (it : Iter) (J : It) (G : Hp) (σ : St) : Prop where
  loc : ∀ ρ ρ' : Ro, (∀ p ∈ it.src, ρ[p.1]? = ρ'[p.1]?) → it.items ρ = it.items ρ'
  go : ∀ σ0 G' own' ρ' σ' H' ds, Same G G' → SR c σ0 G' own' ρ' σ' H' → (∀ p ∈ it.src, σ'[p.1]? = σ[p.1]? ∧ isLn ρ' p.1 = true) → it.items ρ' = some ds → GoOk c J ds G' H'
abbrev relI (c : Cn) : Rl Iter It := fun G _ σ _ _ it J => ItOk c it J G σ
theorem relI_mono (c : Cn) : RlMono (relI c) := fun _ _ _ _ _ _ _ _ _ r => r
abbrev tI (c : Cn) (σ0 : St) (W : WX) (f : M Iter) : TI := tX (relI c) c σ0 W f
def undoR : List (Nat × Bool) → Ro → Ro
  | [], ρ => ρ
  | (j, true) :: l, ρ => match ρ[j]? with
    | some (.ln k o) => undoR l (ρ.set j (.ow k o))
    | _ => undoR l ρ
  | (_, false) :: l, ρ => undoR l ρ
def Out.map (f : Ro → Ro) : Out → Out
  | .nx ρ => .nx (f ρ)
  | .ret r ρ => .ret r (f ρ)
  | .brk ρ => .brk (f ρ)
  | .cnt ρ => .cnt (f ρ)
  | .ex x ρ => .ex x (f ρ)
  | .bad => .bad
def loopF (tgt : Tgt) (body : S) : List D → S
  | [], ρ => .nx ρ
  | d :: ds, ρ => match tgt d ρ with
    | none => .bad
    | some ρ1 => match body ρ1 with
      | .nx ρ2 => loopF tgt body ds ρ2
      | .cnt ρ2 => loopF tgt body ds ρ2
      | .brk ρ2 => .nx ρ2
      | o => o
def forR (tgt : Tgt) (body : S) (it : Iter) : S := fun ρ => if it.src.all (fun p => isLn ρ p.1) = true then (match it.items ρ with
  | none => .bad
  | some ds => (loopF tgt body ds ρ).map (undoR it.src)) else .bad
def sFor (f : M Iter) (tgt : Tgt) (body : S) : S := sBind f (forR tgt body)

theorem isLn_get {j : Nat} (h : isLn ρ j = true) : ∃ k o, ρ[j]? = some (.ln k o) := by
  unfold isLn at h
  cases e : ρ[j]? with
  | none => rw [e] at h; cases h
  | some s =>
    rw [e] at h
    cases s with
    | ln k o => exact ⟨k, o, rfl⟩
    | _ => cases h
/-- a lent slot is given back -/
theorem SR.undo {j : Nat} {k : Bool} {o : OV} (S : SR c σ0 G own ρ σ H) (h : ρ[j]? = some (.ln k o)) : SR c σ0 G own (ρ.set j (.ow k o)) σ H where
  same := S.same
  out := S.out
  there := S.there
  dis := S.dis
  len := by rw [List.length_set]; exact S.len
  slot := fun i s z => by
    by_cases e : j = i
    · subst e
      rw [List.getElem?_set_self (lt_of_get h)] at z
      cases z
      have w := S.slot j _ h
      exact w
    · rw [List.getElem?_set_ne e] at z
      exact S.slot i s z
  io := fun i s z q => by
    by_cases e : j = i
    · subst e
      rw [List.getElem?_set_self (lt_of_get h)] at z
      cases z
      exact S.io j _ h q
    · rw [List.getElem?_set_ne e] at z
      exact S.io i s z q
theorem SR.lend {j : Nat} {k : Bool} {o : OV} (S : SR c σ0 G own ρ σ H) (h : ρ[j]? = some (.ow k o)) : SR c σ0 G own (ρ.set j (.ln k o)) σ H where
  same := S.same
  out := S.out
  there := S.there
  dis := S.dis
  len := by rw [List.length_set]; exact S.len
  slot := fun i s z => by
    by_cases e : j = i
    · subst e
      rw [List.getElem?_set_self (lt_of_get h)] at z
      cases z
      have w := S.slot j _ h
      exact w
    · rw [List.getElem?_set_ne e] at z
      exact S.slot i s z
  io := fun i s z q => by
    by_cases e : j = i
    · subst e
      rw [List.getElem?_set_self (lt_of_get h)] at z
      cases z
      exact S.io j _ h q
    · rw [List.getElem?_set_ne e] at z
      exact S.io i s z q
theorem SR.undoR {G1 : Hp} {ρ0 : Ro} {σ0' : St} {G0 H0 : Hp} {own0 : Own} : ∀ (l : List (Nat × Bool)) {ρ : Ro}, (∀ p ∈ l, p.2 = true → isLn ρ0 p.1 = false) → SR c σ0 G own ρ σ H → Tr ρ0 σ0' G0 own0 H0 ρ σ G own H →
    SR c σ0 G own (undoR l ρ) σ H ∧ Tr ρ0 σ0' G0 own0 H0 (undoR l ρ) σ G own H
  | [], ρ, _, S, t => ⟨S, t⟩
  | (j, false) :: l, ρ, hl, S, t => SR.undoR (G1 := G1) l (fun p hp => hl p (List.mem_cons_of_mem _ hp)) S t
  | (j, true) :: l, ρ, hl, S, t => by
    unfold DL.undoR
    have hl' : ∀ p ∈ l, p.2 = true → isLn ρ0 p.1 = false := fun p hp => hl p (List.mem_cons_of_mem _ hp)
    cases e : ρ[j]? with
    | none => exact SR.undoR (G1 := G1) l hl' S t
    | some s =>
      cases s with
      | no => exact SR.undoR (G1 := G1) l hl' S t
      | fz d => exact SR.undoR (G1 := G1) l hl' S t
      | ow k o => exact SR.undoR (G1 := G1) l hl' S t
      | ln k o =>
        refine SR.undoR (G1 := G1) l hl' (S.undo e) ⟨t.ext, t.keep, t.gnew, t.onew, fun i q u h => ?_⟩
        have z := hl (j, true) List.mem_cons_self rfl
        have ne : j ≠ i := fun w => by
          subst w
          unfold isLn at z
          rw [h] at z
          cases z
        obtain ⟨h1, h2⟩ := t.lent i q u h
        exact ⟨by rw [List.getElem?_set_ne ne]; exact h1, h2⟩
theorem SPo.map {ρ0 : Ro} {G0 H0 : Hp} {own0 : Own} {σ00 : St} (l : List (Nat × Bool)) (hl : ∀ p ∈ l, p.2 = true → isLn ρ0 p.1 = false) {o : Out} (h : SPo c σ0 W σ00 ρ0 G0 own0 H0 E (o.map (undoR l))) : SPo c σ0 W σ00 ρ0 G0 own0 H0 E o := by
  cases o with
  | nx ρ' => exact fun σ' G' own' H' t S => let ⟨S2, t2⟩ := SR.undoR (G1 := G') l hl S t; h σ' G' own' H' t2 S2
  | ret r ρ' => exact fun σ' G' own' H' v t S R1 => let ⟨S2, t2⟩ := SR.undoR (G1 := G') l hl S t; h σ' G' own' H' v t2 S2 R1
  | brk ρ' => exact fun σ' G' own' H' t S => let ⟨S2, t2⟩ := SR.undoR (G1 := G') l hl S t; h σ' G' own' H' t2 S2
  | cnt ρ' => exact fun σ' G' own' H' t S => let ⟨S2, t2⟩ := SR.undoR (G1 := G') l hl S t; h σ' G' own' H' t2 S2
  | ex x ρ' => exact fun σ' G' own' H' cls d t S R1 => let ⟨S2, t2⟩ := SR.undoR (G1 := G') l hl S t; h σ' G' own' H' cls d t2 S2 R1
  | bad => exact h

/-- the loop, from a state in it: what is wanted stands behind the rest -/
theorem for_of {ts : List Nat} {J : It} {it : Iter} {tgt : Tgt} {body : S} {ds : List D} {g : TG} {tb : TS} {ρ0 : Ro} {G0 H0 : Hp} {own0 : Own} {σ00 : St} (hg : g = tG c σ0 ts tgt) (hb : tb = tS c σ0 W body)
    (K : ItOk c it J G σ) (S : SR c σ0 G own ρ σ H) (hln : ∀ p ∈ it.src, isLn ρ p.1 = true) (hi : it.items ρ = some ds) (t0 : Tr ρ0 σ00 G0 own0 H0 ρ σ G own H) (h : SPo c σ0 W σ00 ρ0 G0 own0 H0 E (loopF tgt body ds ρ)) :
    ∃ Wm : Nat → Nat → St → Hp → Prop, (∃ m, Wm 0 m σ H) ∧ ∀ i m σ H, Wm i m σ H →
      (J.stop i H ∧ E.nx σ H) ∨ (J.go i H ∧ ∃ N : St → Hp → Prop, (∀ σ' H', N σ' H' → ∃ m', m' < m ∧ Wm (i + 1) m' σ' H') ∧ ∀ x H', J.yld i H x H' → g x σ H' fun σ2 H2 => tb { E with nx := N, ct := N, bk := E.nx } σ2 H2) := by
  subst hg hb
  refine ⟨fun i m σ' H' => m = ds.length - i ∧ i ≤ ds.length ∧ ∃ G' own' ρ', SR c σ0 G' own' ρ' σ' H' ∧ Tr ρ σ G own H ρ' σ' G' own' H' ∧ SPo c σ0 W σ00 ρ0 G0 own0 H0 E (loopF tgt body (ds.drop i) ρ'), ⟨ds.length, rfl, Nat.zero_le _, G, own, ρ, S, Tr.refl, h⟩, ?_⟩
  rintro i m σ' H' ⟨rfl, hle, G', own', ρ', S', t', h'⟩
  have hsrc : ∀ p ∈ it.src, ρ'[p.1]? = ρ[p.1]? ∧ σ'[p.1]? = σ[p.1]? ∧ isLn ρ' p.1 = true := fun p hp => by
    obtain ⟨k, o, e⟩ := isLn_get (hln p hp)
    obtain ⟨e1, e2⟩ := t'.lent p.1 k o e
    exact ⟨by rw [e1, e], e2, by unfold isLn; rw [e1]⟩
  have hitems : it.items ρ' = some ds := by
    rw [K.loc ρ' ρ fun p hp => (hsrc p hp).1]
    exact hi
  obtain ⟨kstop, kgo⟩ := K.go σ0 G' own' ρ' σ' H' ds t'.ext S' (fun p hp => (hsrc p hp).2) hitems
  by_cases hlt : i < ds.length
  · have hd : ds[i]? = some ds[i] := List.getElem?_eq_getElem hlt
    obtain ⟨kg, ky⟩ := kgo i _ hd
    have hdrop : ds.drop i = ds[i] :: ds.drop (i + 1) := List.drop_eq_getElem_cons hlt
    rw [hdrop] at h'
    refine .inr ⟨kg, fun σ'' H'' => ∃ G'' own'' ρ'', SR c σ0 G'' own'' ρ'' σ'' H'' ∧ Tr ρ σ G own H ρ'' σ'' G'' own'' H'' ∧ SPo c σ0 W σ00 ρ0 G0 own0 H0 E (loopF tgt body (ds.drop (i + 1)) ρ''), fun σ'' H'' ⟨G'', own'', ρ'', S'', t'', h''⟩ => ⟨ds.length - (i + 1), by omega, rfl, hlt, G'', own'', ρ'', S'', t'', h''⟩, fun x H2 hy => ?_⟩
    obtain ⟨G2, n2, r2⟩ := ky x H2 hy
    have S2 := n2.sr S'
    have t2 := t'.trans (n2.tr (ρ := ρ') (σ := σ') S'.there)
    unfold loopF at h'
    cases e1 : tgt ds[i] ρ' with
    | none => rw [e1] at h'; exact h'.elim
    | some ρ1 =>
      rw [e1] at h'
      refine ⟨G2, own', ρ', ds[i], S2, r2, ρ1, e1, fun σ3 own3 _ t3 S3 => ⟨G2, own3, ρ1, S3, ?_⟩⟩
      have t23 := t2.trans t3
      dsimp only at h'
      cases e2 : body ρ1 with
      | bad => rw [e2] at h'; exact h'
      | nx ρ4 =>
        rw [e2] at h'
        exact fun σ4 G4 own4 H4 t4 S4 => ⟨G4, own4, ρ4, S4, t23.trans t4, h'⟩
      | cnt ρ4 =>
        rw [e2] at h'
        exact fun σ4 G4 own4 H4 t4 S4 => ⟨G4, own4, ρ4, S4, t23.trans t4, h'⟩
      | brk ρ4 =>
        rw [e2] at h'
        exact fun σ4 G4 own4 H4 t4 S4 => h' σ4 G4 own4 H4 (t0.trans (t23.trans t4)) S4
      | ret r ρ4 =>
        rw [e2] at h'
        exact fun σ4 G4 own4 H4 v t4 S4 R4 => h' σ4 G4 own4 H4 v (t0.trans (t23.trans t4)) S4 (RR.mono (fun b => (t0.trans t23).back) R4)
      | ex x ρ4 =>
        rw [e2] at h'
        exact fun σ4 G4 own4 H4 cls d t4 S4 R4 => h' σ4 G4 own4 H4 cls d (t0.trans (t23.trans t4)) S4 R4
  · have e : ds.drop i = [] := List.drop_eq_nil_of_le (by omega)
    rw [e] at h'
    have ei : i = ds.length := by omega
    rw [ei]
    exact .inl ⟨kstop, h' σ' G' own' H' (t0.trans t') S'⟩
theorem ds_for {ts : List Nat} {tg iter : Expr} {body : List Stmt} {f : M Iter} {tgt : Tgt} {s : S} {pos : Pos} (hp : PassesOwn (model X.prog X.w) X.A X.env X.xe) (hc : X.calm = true) (hi : PI X tg iter (tI c σ0 W f)) (hg : PG X tg (tG c σ0 ts tgt)) (hb : PSs X body (tS c σ0 W s))
    (hu : ∀ ρ it ρ', f ρ = .ok it ρ' → ∀ p ∈ it.src, p.2 = true → isLn ρ p.1 = false)
    (hs : ∀ x, foldedSetIterable iter X.env x = pure x := by intro _; rfl) : PS X (.For tg iter body [] pos) (tS c σ0 W (sFor f tgt s)) :=
  PS.imp (ps_for hp hc hi hg hb hs) fun E σ H q => by
    obtain ⟨G, own, ρ, S, q⟩ := q
    refine ⟨G, own, ρ, S, ?_⟩
    unfold sFor sBind at q
    cases e : f ρ with
    | bad => rw [e] at q; exact q
    | ex x ρ1 =>
      rw [e] at q
      exact fun G1 own1 H1 cls d t S1 r => q σ G1 own1 H1 cls d t S1 r
    | ok it ρ1 =>
      rw [e] at q
      intro G1 own1 H1 J t S1 K
      unfold forR at q
      dsimp only at q
      by_cases hl : it.src.all (fun p => isLn ρ1 p.1) = true
      · rw [if_pos hl] at q
        cases e2 : it.items ρ1 with
        | none => rw [e2] at q; exact q.elim
        | some ds =>
          rw [e2] at q
          have q' := SPo.map it.src (hu ρ it ρ1 e) q
          exact for_of rfl rfl K S1 (fun p hp => List.all_eq_true.mp hl p hp) e2 t q'
      · rw [if_neg hl] at q
        exact q.elim
end
end DL

/-! DLg: iterators. -/
namespace DL
open PySem PySem.Spec PyProof.Rows L2

/-! ### enumerate over a tuple, a text -/
theorem meets_enum_new1 {v : Value} {o : Obj} {H : Heap → Prop} (B : Begins v o H) :
    Meets (Builtin.«enumerate.__new__» ⟨[.type "enumerate", v], []⟩) (fun _ R s => H s.heap ∧
      R (.ok (.ret (.ref (s.heap.push o).objs.size))) { s with heap := (s.heap.push o).push { cls := .type "enumerate", data := .fields #[.none, .bool false, .ref s.heap.objs.size, rawInt 0, .none, .none] } }) :=
  .of_wp fun prog w A R s h => by
    obtain ⟨hp, g, d, tk, os⟩ := s; obtain ⟨h1, h⟩ := h
    have hsub := sub_enumerate
    have q1 : ∀ {A' : Around} {E : Value → Shared → Prop} {Q : Value → Shared → Prop}, Q (.ref hp.objs.size) ⟨hp.push o, g, d, tk, os⟩ → wpAny (model prog w) A' (pyIter v) Q E ⟨hp, g, d, tk, os⟩ :=
      fun q => B.iter prog w _ _ ⟨hp, g, d, tk, os⟩ _ h1 q
    wp_walk using q1
    refine wpAny_stack_any fun st => wpAny_pure ?_
    split
    · rename_i c _ _ _ _ _
      cases (c == Value.type "enumerate")
      · wp_walk using q1
        exact ⟨_, rfl, h⟩
      · wp_walk using q1
        exact ⟨_, rfl, h⟩
    · wp_walk using q1
      exact ⟨_, rfl, h⟩
theorem call_enum1 {prog : Program} {w : World} {A : Around} {E : Value → Shared → Prop} {s : Shared} {v : Value} {o : Obj} {H : Heap → Prop} {Q : Value → Shared → Prop} (B : Begins v o H) (h1 : H s.heap)
    (h : ∀ h', IsEnum h' (s.heap.objs.size + 1) s.heap.objs.size 0 .none → h'.get? s.heap.objs.size = some o → h'.objs.size = s.heap.objs.size + 2 →
      (∀ b o, s.heap.get? b = some o → h'.get? b = some o) → Q (.ref (s.heap.objs.size + 1)) { s with heap := h' }) :
    wpAny (model prog w) A (call (.type "enumerate") [v]) Q E s := by
  refine callType_new F.called_enumerate (by decide) (F.typeCall_enumerate_1 _) (F.newCall_enumerate_1 _) (fun obj => F.args_object_init_2 obj _) F.entry_enumerate_new
    (meets_enum_new1 B) ⟨h1, ?_⟩
  have hz : (s.heap.push o).objs.size = s.heap.objs.size + 1 := Heap.size_push ..
  show _ ∧ _
  rw [hz]
  have he : IsEnum ((s.heap.push o).push { cls := .type "enumerate", data := .fields #[.none, .bool false, .ref s.heap.objs.size, rawInt 0, .none, .none] }) (s.heap.objs.size + 1) s.heap.objs.size 0 .none := by
    have := Heap.get?_push_size (s.heap.push o) (o := { cls := .type "enumerate", data := .fields #[.none, .bool false, .ref s.heap.objs.size, rawInt 0, .none, .none] }) rfl
    rw [hz] at this; exact this
  exact ⟨⟨_, he, rfl⟩, h _ he (Heap.get?_push_of_some _ (Heap.get?_push_size _ B.free)) (by rw [Heap.size_push, hz]) fun b o x => Heap.get?_push_of_some _ (Heap.get?_push_of_some _ x)⟩

/-- enumerate over a tuple at a; over a text x -/
def IteT (K : PySem.W.Frag) (a : Addr) : It :=
  ⟨fun i H => ∃ (xs : List V) (x : V), SqT K H a xs ∧ xs[i]? = some x, fun i H v H' => ∃ T x, v = .ref T ∧ H T = none ∧ H' = upd H T (.tup [.int (i : Nat), x]) ∧ ∀ xs, SqT K H a xs → xs[i]? = some x, fun i H => ∃ xs : List V, SqT K H a xs ∧ xs.length = i⟩
def IteS (x : Str) : It :=
  ⟨fun i _ => i < x.cps.size, fun i H v H' => ∃ (T : Addr) (c : Nat), v = .ref T ∧ H T = none ∧ H' = upd H T (.tup [.int (i : Nat), .str ⟨#[c]⟩]) ∧ x.cps[i]? = some c, fun i _ => x.cps.size = i⟩
/-- the common part of a turn -/
theorem enum_turned {X : Cx} {pins : List (Addr × Obj)} {s : Shared} {σ : St} {H : Hp} {e it : Addr} {elts : List Expr} {kk : Nat} {tpos : Pos} {E : Value → Shared → Prop} {fp : List Addr} {n i : Nat} {P : Nat → Value → Prop} {St : Nat → Heap → Prop} {old : Value} {R : V → Hp → Shared → Prop}
    (I : Inv X pins σ H s) (hf : ∀ b ∈ [e, it], FpOk X pins H b) (D : Draws X.prog X.w X.A.in1 it fp n P St) (he : IsEnum s.heap e it ((i : Nat) : Int) old) (hst : St i s.heap) (hlt : i < n) (hne : e ≠ it) (hef : e ∉ fp) (hil : it < s.heap.objs.size)
    (hP : ∀ u, P i u → ∃ x, RelV x u ∧ ∀ h'' tk, St (i + 1) h'' → IsEnum h'' e it (((i + 1 : Nat)) : Int) u → Inv X pins σ (upd H s.heap.objs.size (.tup [.int (i : Nat), x])) { s with heap := h'', toks := tk } →
      (∀ b ∈ [e, it], upd H s.heap.objs.size (.tup [.int (i : Nat), x]) b = none) → R (.ref s.heap.objs.size) (upd H s.heap.objs.size (.tup [.int (i : Nat), x])) { s with heap := h'', toks := tk }) :
    wpAny (model X.prog X.w) X.A (pyNext (.ref e)) (fun r s1 => ∃ u, r = some u ∧
      wpAny (model X.prog X.w) X.A (letOwnedTupleGo (.Tuple elts kk tpos) (.ref e) u) (fun _ s2 => ∃ x H', RelV x u ∧ R x H' s2) E s1) E s := by
  have hel : e < s.heap.objs.size := Heap.lt_size he
  refine wpAny_pyNext_enum_itemD D he hst hlt hne hef fun u h' tk hPu ho hst' hT hsz hk => ?_
  refine ⟨_, rfl, wpAny_letOwnedTupleGo_enum (s := { s with heap := h', toks := tk + 1 }) ho fun h'' he' sb => ?_⟩
  have hT2 : h''.get? s.heap.objs.size = some { cls := .type "tuple", data := .seq #[.int i tk, u] } := (sb.2 _ (Nat.ne_of_gt hel)).trans hT
  obtain ⟨x, ru, k⟩ := hP u hPu
  have new : ObjOk X.prog X.w (upd H s.heap.objs.size (.tup [.int (i : Nat), x])) h'' s.heap.objs.size (.tup [.int (i : Nat), x]) :=
    ⟨by show 2 ≤ sizeLine; decide, [.int i tk, u], .cons ⟨_, rfl⟩ (.cons ru .nil), ⟨_, hT2, rfl, _, rfl⟩⟩
  have I1 : Inv X pins σ (upd H s.heap.objs.size (.tup [.int (i : Nat), x])) { s with heap := h'', toks := tk + 1 } :=
    I.turnedNew (ch := [e, it]) (fun b ob hb q => (sb.2 b (fun z => hb (by simp [z]))).trans (hk b ob (fun z => hb (by simp [z])) (fun z => hb (by simp [z])) q)) hf (Nat.le_refl _) new
  refine ⟨.ref s.heap.objs.size, _, rfl, k h'' (tk + 1) (D.frame _ _ _ hst' fun b hb o y => (sb.2 b fun q => hef (q ▸ hb)).trans y) ?_ I1 fun b hb => ?_⟩
  · have e1 : ((i + 1 : Nat) : Int) = (i : Int) + 1 := by omega
    rw [e1]; exact he'
  · have hb' : b < s.heap.objs.size := by
      have e' : b = e ∨ b = it := by simpa using hb
      rcases e' with z | z
      · rw [z]; exact hel
      · rw [z]; exact hil
    rw [upd_ne (Nat.ne_of_lt hb')]
    exact (hf b hb).1
theorem turn_enumT {P : Program} {w : World} {K : PySem.W.Frag} {elts : List Expr} {kk : Nat} {tpos : Pos} (a e it : Addr) :
    Turn P w K (.Tuple elts kk tpos) (IteT K a) [e, it] e (fun i h => (∃ old, IsEnum h e it ((i : Nat) : Int) old) ∧ h.IsTupleIter it a i ∧ e ≠ it) where
  mem := by simp
  obj := fun i h st b hb => by
    obtain ⟨⟨old, he⟩, ⟨o, ho, hc, hd⟩, _⟩ := st
    have e' : b = e ∨ b = it := by simpa using hb
    rcases e' with z | z
    · rw [z]; exact ⟨_, he, fun v q => nomatch q⟩
    · rw [z]; exact ⟨o, ho, fun v q => by rw [hd] at q; cases q⟩
  keep := fun i h h' st k => let ⟨⟨old, he⟩, hi, hne⟩ := st; ⟨⟨old, k e (by simp) _ he⟩, hi.at fun o q => k it (by simp) o q, hne⟩
  item := by
    intro X hP hw hK hc i pins s σ H E I hf st hg
    subst hP hw hK
    obtain ⟨⟨old, he⟩, hit, hne⟩ := st
    obtain ⟨xs, x, hq, hx⟩ := hg
    obtain ⟨its, rv, p, hz⟩ := I.tuple hq
    have hil : it < s.heap.objs.size := by obtain ⟨_, q, _⟩ := hit; exact Heap.lt_size q
    have hal : a < s.heap.objs.size := p.lt
    have nit : a ≠ it := fun z => by
      obtain ⟨o1, h1, c1, _⟩ := p
      obtain ⟨o2, h2, c2, _⟩ := hit
      rw [z, h2] at h1
      cases h1
      rw [c2] at c1
      injection c1 with c1
      exact absurd c1 (by decide)
    have nea : e ≠ a := fun z => by
      obtain ⟨o1, h1, c1, _⟩ := p
      rw [← z, show s.heap.get? e = some _ from he] at h1
      cases h1
      have c1 : Value.type "enumerate" = Value.type "tuple" := c1
      injection c1 with c1
      exact absurd c1 (by decide)
    have hlt : i < its.toArray.size := by
      have := rv.length
      have := (List.getElem?_eq_some_iff.mp hx).1
      simp; omega
    refine wpAny_mono (enum_turned (R := fun v H' s2 => Inv X pins σ H' s2 ∧ (IteT X.K a).yld i H v H' ∧ ((∃ old, IsEnum s2.heap e it (((i + 1 : Nat)) : Int) old) ∧ s2.heap.IsTupleIter it a (i + 1) ∧ e ≠ it) ∧ ∀ b ∈ [e, it], H' b = none) I hf (Draws.tuple (A := X.A.in1) (I.ok.hd hc) it a nit its.toArray) he ⟨hit, p⟩ hlt hne (by simp [hne, nea]) hil fun u hu => ?_) (fun r s1 ⟨u, hr, h⟩ => ⟨u, hr, wpAny_mono h (fun _ s2 ⟨x, H', rx, J, y, t, f⟩ => ⟨x, H', J, rx, y, t, f⟩) fun _ _ z => z⟩) fun _ _ z => z
    obtain ⟨y, hy, ry⟩ : ∃ y, xs[i]? = some y ∧ RelV y u := by
      obtain ⟨u', hu', ru'⟩ := rv.get hx
      have e1 : its[i]? = some u := by simpa using hu
      rw [hu'] at e1
      cases e1
      exact ⟨x, hx, ru'⟩
    refine ⟨y, ry, fun h'' tk st' he' I' hn => ⟨I', ⟨_, y, rfl, I.hok.fresh (Nat.le_refl _), rfl, fun ys hys => ?_⟩, ⟨⟨_, he'⟩, st'.1, hne⟩, hn⟩⟩
    rw [I.tuple_inj hys hq]; exact hy
  done := by
    intro X hP hw hK hc i pins s σ H E I hf st hg
    subst hP hw hK
    obtain ⟨⟨old, he⟩, hit, hne⟩ := st
    obtain ⟨xs, hq, hx⟩ := hg
    obtain ⟨its, rv, p, hz⟩ := I.tuple hq
    obtain ⟨f0, f1, f2, f3, f4, f5⟩ := hf it (by simp)
    have hl := rv.length
    have nit : a ≠ it := fun z => by
      obtain ⟨o1, h1, c1, _⟩ := p
      obtain ⟨o2, h2, c2, _⟩ := hit
      rw [z, h2] at h1
      cases h1
      rw [c2] at c1
      injection c1 with c1
      exact absurd c1 (by decide)
    have e1 : its.toArray.size = i := by simp; omega
    refine wpAny_pyNext_enum_endD (Draws.tuple (A := X.A.in1) (I.ok.hd hc) it a nit its.toArray) he (by rw [e1]; exact ⟨hit, p⟩) fun h' hb => ⟨rfl, I.turned (t' := s.toks) (fun b o hb' q => hb b o hb' q) f0 f1 f3 f4 f5⟩
  self := fun A i s Q E st h => let ⟨⟨_, he⟩, _⟩ := st; wpAny_pyIter_enum he h
theorem turn_enumS {P : Program} {w : World} {K : PySem.W.Frag} {elts : List Expr} {kk : Nat} {tpos : Pos} (x : Str) (tk : Tok) (e it : Addr) :
    Turn P w K (.Tuple elts kk tpos) (IteS x) [e, it] e (fun i h => (∃ old, IsEnum h e it ((i : Nat) : Int) old) ∧ h.IsStrIter it (strIterType x) x tk i ∧ e ≠ it) where
  mem := by simp
  obj := fun i h st b hb => by
    obtain ⟨⟨old, he⟩, ⟨o, ho, hc, hd⟩, _⟩ := st
    have e' : b = e ∨ b = it := by simpa using hb
    rcases e' with z | z
    · rw [z]; exact ⟨_, he, fun v q => nomatch q⟩
    · rw [z]; exact ⟨o, ho, fun v q => by rw [hd] at q; cases q⟩
  keep := fun i h h' st k => let ⟨⟨old, he⟩, ⟨o, ho, r⟩, hne⟩ := st; ⟨⟨old, k e (by simp) _ he⟩, ⟨o, k it (by simp) o ho, r⟩, hne⟩
  item := by
    intro X hP hw hK hc i pins s σ H E I hf st hg
    subst hP hw hK
    obtain ⟨⟨old, he⟩, hit, hne⟩ := st
    have hil : it < s.heap.objs.size := by obtain ⟨_, q, _⟩ := hit; exact Heap.lt_size q
    refine wpAny_mono (enum_turned (R := fun v H' s2 => Inv X pins σ H' s2 ∧ (IteS x).yld i H v H' ∧ ((∃ old, IsEnum s2.heap e it (((i + 1 : Nat)) : Int) old) ∧ s2.heap.IsStrIter it (strIterType x) x tk (i + 1) ∧ e ≠ it) ∧ ∀ b ∈ [e, it], H' b = none) I hf (Draws.text (A := X.A.in1) (I.ok.hd hc) it x tk) he hit hg hne (by simp [hne]) hil fun u hu => ?_) (fun r s1 ⟨u, hr, h⟩ => ⟨u, hr, wpAny_mono h (fun _ s2 ⟨x, H', rx, J, y, t, f⟩ => ⟨x, H', J, rx, y, t, f⟩) fun _ _ z => z⟩) fun _ _ z => z
    obtain ⟨cc, uu, hcx, rfl⟩ := hu
    exact ⟨.str ⟨#[cc]⟩, ⟨uu, rfl⟩, fun h'' tk' st' he' I' hn => ⟨I', ⟨_, cc, rfl, I.hok.fresh (Nat.le_refl _), rfl, hcx⟩, ⟨⟨_, he'⟩, st', hne⟩, hn⟩⟩
  done := by
    intro X hP hw hK hc i pins s σ H E I hf st hg
    subst hP hw hK
    obtain ⟨⟨old, he⟩, hit, hne⟩ := st
    obtain ⟨f0, f1, f2, f3, f4, f5⟩ := hf it (by simp)
    have e1 : x.cps.size = i := hg
    exact wpAny_pyNext_enum_endD (Draws.text (A := X.A.in1) (I.ok.hd hc) it x tk) he (by rw [e1]; exact hit) fun h' hb => ⟨rfl, I.turned (t' := s.toks) (fun b o hb' q => hb b o hb' q) f0 f1 f3 f4 f5⟩
  self := fun A i s Q E st h => let ⟨⟨_, he⟩, _⟩ := st; wpAny_pyIter_enum he h
/-- enumerate of a list, a tuple, a text -/
def iEnumA (K : PySem.W.Frag) (ta : TA) : TI := fun σ H R => ta σ H fun vs H1 => (∃ a xs, vs = [.ref a] ∧ SqL K H1 a xs ∧ R (Ite K a) H1) ∨ (∃ a xs, vs = [.ref a] ∧ SqT K H1 a xs ∧ R (IteT K a) H1) ∨ ∃ x, vs = [.str x] ∧ R (IteS x) H1
theorem pi_enumA {X : Cx} {e : Expr} {ta : TA} {p pos tpos : Pos} {elts : List Expr} {kk : Nat} (hg : Gl X "enumerate") (hm : X.mg "enumerate" = none) (ha : PA X [e] ta) (hs : starEach [e] X.env = [(false, eval e X.env)] := by rfl) :
    PI X (.Tuple elts kk tpos) (.Call (.Name "enumerate" p) [e] [] pos) (iEnumA X.K ta) := by
  refine ⟨fun pins s σ H R I h => ?_⟩
  refine Call_ (ld_blt I hg hm boot_enumerate (PyProof.Rows.callWith_type1 (thn (ha.run pos pins s σ H _ I h) fun us s1 ⟨vs, H1, I1, r1, q1⟩ => ?_) hs rfl))
  have fp2 : ∀ b ∈ [s1.heap.objs.size + 1, s1.heap.objs.size], FpOk X pins H1 b := fun b hb => by
    have e' : b = s1.heap.objs.size + 1 ∨ b = s1.heap.objs.size := by simpa using hb
    have hle : s1.heap.objs.size ≤ b := by
      rcases e' with z | z
      · rw [z]; exact Nat.le_add_right _ _
      · rw [z]; exact Nat.le_refl _
    exact I1.fpOk hle (I1.hok.fresh hle)
  rcases q1 with ⟨a, xs, ex, hq, q⟩ | ⟨a, xs, ex, hq, q⟩ | ⟨x, ex, q⟩
  · subst ex
    cases r1 with
    | cons r rr =>
      cases rr
      cases r
      obtain ⟨its, rv, p', hz⟩ := I1.list hq
      refine call_enumerate_list p'.isList fun h' he hit hsz hk => wpAny_pyIter_enum he ?_
      have I2 : Inv X pins σ H1 { s1 with heap := h' } := I1.kept (t' := s1.toks) hk
      exact ⟨s1.heap.objs.size + 1, [s1.heap.objs.size + 1, s1.heap.objs.size], _, _, H1, rfl, I2, turn_enum a (s1.heap.objs.size + 1) s1.heap.objs.size, ⟨⟨.none, he⟩, hit, Nat.succ_ne_self _⟩, fp2, q⟩
  · subst ex
    cases r1 with
    | cons r rr =>
      cases rr
      cases r
      obtain ⟨its, rv, p', hz⟩ := I1.tuple hq
      refine call_enum1 (begins_tuple a its.toArray) p' fun h' he hit hsz hk => wpAny_pyIter_enum he ?_
      have I2 : Inv X pins σ H1 { s1 with heap := h' } := I1.kept (t' := s1.toks) hk
      exact ⟨s1.heap.objs.size + 1, [s1.heap.objs.size + 1, s1.heap.objs.size], _, _, H1, rfl, I2, turn_enumT a (s1.heap.objs.size + 1) s1.heap.objs.size, ⟨⟨.none, he⟩, ⟨_, hit, rfl, rfl⟩, Nat.succ_ne_self _⟩, fp2, q⟩
  · subst ex
    cases r1 with
    | cons r rr =>
      cases rr
      obtain ⟨t, rfl⟩ := r
      refine call_enum1 (begins_text x t) trivial fun h' he hit hsz hk => wpAny_pyIter_enum he ?_
      have I2 : Inv X pins σ H1 { s1 with heap := h' } := I1.kept (t' := s1.toks) hk
      exact ⟨s1.heap.objs.size + 1, [s1.heap.objs.size + 1, s1.heap.objs.size], _, _, H1, rfl, I2, turn_enumS x t (s1.heap.objs.size + 1) s1.heap.objs.size, ⟨⟨.none, he⟩, ⟨_, hit, rfl, rfl⟩, Nat.succ_ne_self _⟩, fp2, q⟩

/-- any value that is walked: a list, a tuple, a text -/
def iAny (K : PySem.W.Frag) (tl : TE) : TI := fun σ H R => tl σ H fun x H1 => (∃ a, x = .ref a ∧ (∃ xs, SqL K H1 a xs) ∧ R (Itl K a) H1) ∨ (∃ a, x = .ref a ∧ (∃ xs, SqT K H1 a xs) ∧ R (Itt K a) H1) ∨ ∃ y, x = .str y ∧ R (Its y) H1
theorem pi_any {X : Cx} {tg l : Expr} {tl : TE} (hl : PE X l tl) : PI X tg l (iAny X.K tl) := by
  refine ⟨fun pins s σ H R I h => ?_⟩
  refine thn (hl.run pins s σ H _ I h) fun v s1 ⟨x, H1, I1, r1, q1⟩ => ?_
  have fp1 : ∀ b ∈ [s1.heap.objs.size], FpOk X pins H1 b := fun b hb => by
    have e : b = s1.heap.objs.size := by simpa using hb
    subst e
    exact I1.fpOk (Nat.le_refl _) (I1.hok.fresh (Nat.le_refl _))
  rcases q1 with ⟨a, e, ⟨xs, hq⟩, q⟩ | ⟨a, e, ⟨xs, hq⟩, q⟩ | ⟨y, e, q⟩
  · subst e
    cases r1
    obtain ⟨its, rv, p, hz⟩ := I1.list hq
    refine wpAny_pyIter_list p.isList ?_
    exact ⟨s1.heap.objs.size, [s1.heap.objs.size], _, _, H1, rfl, I1.kept (t' := s1.toks) fun b o e => Heap.get?_push_of_some _ e, turn_list a _, ⟨_, Heap.get?_push_size _ rfl, rfl, rfl⟩, fp1, q⟩
  · subst e
    cases r1
    obtain ⟨its, rv, p, hz⟩ := I1.tuple hq
    refine wpAny_pyIter_tuple (show s1.heap.IsTuple a its.toArray from p) ?_
    exact ⟨s1.heap.objs.size, [s1.heap.objs.size], _, _, H1, rfl, I1.kept (t' := s1.toks) fun b o e => Heap.get?_push_of_some _ e, turn_tuple a _, ⟨_, Heap.get?_push_size _ rfl, rfl, rfl⟩, fp1, q⟩
  · subst e
    obtain ⟨t, rfl⟩ := r1
    cases ha : y.cps.all (· < 128)
    · exact wpAny_pyIter_wide ha (pi_one (tk := s1.toks) I1 _ (turn_str _ y t "str_iterator" (.inr rfl)) ⟨_, Heap.get?_push_size _ rfl, rfl, rfl⟩ q)
    · exact wpAny_pyIter_ascii ha (pi_one (tk := s1.toks) I1 _ (turn_str _ y t "str_ascii_iterator" (.inl rfl)) ⟨_, Heap.get?_push_size _ rfl, rfl, rfl⟩ q)
end DL

/-! DLh: what is walked; while; comprehensions. -/
namespace DL
open PySem PySem.Spec PyProof.Rows L2

/-! ### sources -/
def charsD (x : Str) : List D := x.cps.toList.map fun c => D.str ⟨#[c]⟩
def itemsD : D → Option (List D)
  | .lst ds => some ds
  | .tup ds => some ds
  | .str x => some (charsD x)
  | .scr ns => some (ns.map D.int)
  | _ => none
def lnItems (j : Nat) : Ro → Option (List D) := fun ρ => match ρ[j]? with
  | some (.ln _ (.lst ds)) => some ds
  | _ => none
/-- what stands at v is walked as it says -/
inductive SrcK (c : Cn) (it : Iter) (v : V) (G : Hp) (σ : St) : Prop where
  | lst (a : Addr) (e : v = .ref a) (k : ∀ σ0 G' own' ρ' σ' H' ds, Same G G' → SR c σ0 G' own' ρ' σ' H' → (∀ p ∈ it.src, σ'[p.1]? = σ[p.1]? ∧ isLn ρ' p.1 = true) → it.items ρ' = some ds → ∃ vs, SqL c.K H' a vs ∧ Reps c G' ds vs)
  | tup (a : Addr) (e : v = .ref a) (k : ∀ σ0 G' own' ρ' σ' H' ds, Same G G' → SR c σ0 G' own' ρ' σ' H' → (∀ p ∈ it.src, σ'[p.1]? = σ[p.1]? ∧ isLn ρ' p.1 = true) → it.items ρ' = some ds → ∃ vs, SqT c.K H' a vs ∧ Reps c G' ds vs)
  | str (x : Str) (e : v = .str x) (k : ∀ ρ ds, it.items ρ = some ds → ds = charsD x)
structure SrcOk (c : Cn) (it : Iter) (v : V) (G : Hp) (σ : St) : Prop where
  loc : ∀ ρ ρ' : Ro, (∀ p ∈ it.src, ρ[p.1]? = ρ'[p.1]?) → it.items ρ = it.items ρ'
  k : SrcK c it v G σ
abbrev relS (c : Cn) : Rl Iter V := fun G _ σ _ _ it v => SrcOk c it v G σ
theorem relS_mono (c : Cn) : RlMono (relS c) := fun _ _ _ _ _ _ _ _ _ r => r
abbrev tSr (c : Cn) (σ0 : St) (W : WX) (f : M Iter) : TE := tX (relS c) c σ0 W f
def itVals (ds : List D) : Iter := ⟨[], fun _ => some ds⟩
def itLent (j : Nat) (u : Bool) : Iter := ⟨[(j, u)], lnItems j⟩
/-- a value's items -/
def itR (r : R) : M Iter := fun ρ => match r with
  | .val d => match itemsD d with
    | some ds => .ok (itVals ds) ρ
    | none => .bad
  | .nw o => match itemsD o.toD with
    | some ds => .ok (itVals ds) ρ
    | none => .bad
  | .sl _ => .bad
def itE (f : M R) : M Iter := f.bind itR
/-- a name's items -/
def itN (j : Nat) : M Iter := fun ρ => match ρ[j]? with
  | some (.fz d) => match itemsD d with
    | some ds => .ok (itVals ds) ρ
    | none => .bad
  | some (.ow k (.lst ds)) => .ok (itLent j true) (ρ.set j (.ln k (.lst ds)))
  | some (.ln k (.lst ds)) => .ok (itLent j false) ρ
  | _ => .bad
/-- only what was not lent ahead is given back -/
def Und (f : M Iter) : Prop := ∀ ρ it ρ', f ρ = .ok it ρ' → ∀ p ∈ it.src, p.2 = true → isLn ρ p.1 = false

section
variable {X : Cx} {c : Cn} {σ0 : St} {W : WX} {σ : St} {ρ : Ro} {G H : Hp} {own : Own} {a b e tg : Expr} {es : List Expr} {pos p : Pos} {f g : M R}
theorem reps_ints : ∀ ns : List Int, Reps c G (ns.map D.int) (ns.map V.int)
  | [] => .nil
  | n :: ns => .cons (.int n) (reps_ints ns)
theorem src_vals {d : D} {ds : List D} {v : V} (h : Rep c G d v) (e : itemsD d = some ds) : SrcOk c (itVals ds) v G σ := by
  refine ⟨fun _ _ _ => rfl, ?_⟩
  cases h with
  | lst hs r =>
    cases e
    exact .lst _ rfl fun σ0 G' own' ρ' σ' H' ds' s S _ e => by
      cases e
      exact ⟨_, .inl (.inl ((s.trans S.same) _ _ hs)), r.mono s⟩
  | scr hs =>
    cases e
    exact .lst _ rfl fun σ0 G' own' ρ' σ' H' ds' s S _ e => by
      cases e
      exact ⟨_, sqL_same (s.trans S.same) hs, reps_ints _⟩
  | tup hs r =>
    cases e
    exact .tup _ rfl fun σ0 G' own' ρ' σ' H' ds' s S _ e => by
      cases e
      exact ⟨_, sqT_same (s.trans S.same) hs, r.mono s⟩
  | str x =>
    cases e
    exact .str x rfl fun ρ ds e => by cases e; rfl
  | _ => cases e
theorem und_vals {f : M R} : Und (itE f) := fun ρ it ρ' h p hp => by
  unfold itE M.bind at h
  cases e : f ρ with
  | bad => rw [e] at h; cases h
  | ex x ρ1 => rw [e] at h; cases h
  | ok r ρ1 =>
    rw [e] at h
    dsimp only at h
    have go : ∀ {d : D}, (match itemsD d with
        | some ds => Res.ok (itVals ds) ρ1
        | none => Res.bad) = Res.ok it ρ' → it.src = [] := fun {d} h => by
      cases q : itemsD d with
      | none => rw [q] at h; cases h
      | some ds => rw [q] at h; cases h; rfl
    cases r with
    | val d => rw [go h] at hp; cases hp
    | nw o => rw [go h] at hp; cases hp
    | sl j => cases h
theorem dsr_E (h : PE X e (tD c σ0 W f)) : PE X e (tSr c σ0 W (itE f)) := PE.imp h fun σ H Q q => by
  obtain ⟨G, own, ρ, S, q⟩ := q
  refine XP.bind S q fun r ρ1 G1 own1 H1 v t1 S1 R1 h1 => ?_
  cases r with
  | sl j => exact h1.elim
  | val d =>
    have h1 : XP (relS c) c σ0 W σ ρ G own H Q (match itemsD d with
      | some ds => .ok (itVals ds) ρ1
      | none => .bad) := h1
    cases e : itemsD d with
    | none => rw [e] at h1; exact h1.elim
    | some ds =>
      rw [e] at h1
      exact h1 G1 own1 H1 v t1 S1 (src_vals R1 e)
  | nw o =>
    have h1 : XP (relS c) c σ0 W σ ρ G own H Q (match itemsD o.toD with
      | some ds => .ok (itVals ds) ρ1
      | none => .bad) := h1
    cases e : itemsD o.toD with
    | none => rw [e] at h1; exact h1.elim
    | some ds =>
      rw [e] at h1
      obtain ⟨G1', s1, t1', S1', R1'⟩ := fz_of S1 t1 (fun b n => n) R1
      cases R1' with
      | val hd _ => exact h1 G1' own1 H1 v t1' S1' (src_vals hd e)
theorem und_name {j : Nat} : Und (itN j) := fun ρ it ρ' h p hp hu => by
  unfold itN at h
  unfold isLn
  cases e : ρ[j]? with
  | none => rw [e] at h; cases h
  | some s =>
    rw [e] at h
    cases s with
    | no => cases h
    | fz d =>
      dsimp only at h
      cases q : itemsD d with
      | none => rw [q] at h; cases h
      | some ds => rw [q] at h; cases h; cases hp
    | ow k o =>
      cases o with
      | lst ds =>
        cases h
        cases hp with
        | head => rw [e]
        | tail _ z => cases z
      | _ => cases h
    | ln k o =>
      cases o with
      | lst ds =>
        cases h
        cases hp with
        | head => cases hu
        | tail _ z => cases z
      | _ => cases h
theorem src_lent {j : Nat} {u : Bool} {v : V} (hv : σ[j]? = some (some v)) (ha : ∃ a, v = .ref a) : SrcOk c (itLent j u) v G σ := by
  refine ⟨fun ρ ρ' h => ?_, ?_⟩
  · have z : ρ[j]? = ρ'[j]? := h (j, u) (by unfold itLent; exact List.mem_cons_self)
    show lnItems j ρ = lnItems j ρ'
    unfold lnItems
    rw [z]
  · obtain ⟨a, ea⟩ := ha
    refine .lst a ea fun σ1 G' own' ρ' σ' H' ds s S hl e => ?_
    obtain ⟨z1, z2⟩ := hl (j, u) (by unfold itLent; exact List.mem_cons_self)
    have e : lnItems j ρ' = some ds := e
    unfold lnItems at e
    cases q : ρ'[j]? with
    | none => rw [q] at e; cases e
    | some s' =>
      rw [q] at e
      cases s' with
      | ln k o =>
        cases o with
        | lst ds' =>
          cases e
          obtain ⟨w, hw, a', vs, ew, _, hs, r⟩ := S.slot j _ q
          rw [show σ'[j]? = σ[j]? from z1, hv] at hw
          cases hw
          rw [ea] at ew
          cases ew
          exact ⟨vs, .inl (.inl hs), r⟩
        | _ => cases e
      | _ => cases e
theorem dsr_N {j : Nat} (h : PE X e (tVar j)) : PE X e (tSr c σ0 W (itN j)) := PE.imp h fun σ H Q q => by
  obtain ⟨G, own, ρ, S, q⟩ := q
  unfold itN at q
  cases e : ρ[j]? with
  | none => rw [e] at q; exact q.elim
  | some s =>
    rw [e] at q
    have z := S.slot j s e
    cases s with
    | no => exact q.elim
    | fz d =>
      obtain ⟨v, hv, r⟩ := z
      dsimp only at q
      cases e2 : itemsD d with
      | none => rw [e2] at q; exact q.elim
      | some ds =>
        rw [e2] at q
        exact ⟨v, hv, q G own H v Tr.refl S (src_vals r e2)⟩
    | ow k o =>
      cases o with
      | lst ds =>
        obtain ⟨v, hv, a, vs, ea, _, _, _⟩ := z
        refine ⟨v, hv, q G own H v ⟨Same.refl _, fun _ _ h _ => h, fun _ _ h => .inl h, fun _ h => .inl h, fun i k' o' h => ⟨?_, rfl⟩⟩ (S.lend e) (src_lent hv ⟨a, ea⟩)⟩
        have ne : j ≠ i := fun w => by
          subst w
          rw [e] at h; cases h
        rw [List.getElem?_set_ne ne]
        exact h
      | _ => exact q.elim
    | ln k o =>
      cases o with
      | lst ds =>
        obtain ⟨v, hv, a, vs, ea, _, _, _⟩ := z
        exact ⟨v, hv, q G own H v Tr.refl S (src_lent hv ⟨a, ea⟩)⟩
      | _ => exact q.elim

theorem SrcK.there {it : Iter} {v : V} (h : SrcK c it v G σ) : True := trivial
theorem Reps.nx {ds : List D} {vs : List V} {i : Nat} (r : Reps c G ds vs) (h : ds.length ≤ i) : vs.length ≤ i := by rw [← r.length]; exact h
/-- walking it -/
theorem di_any (hK : c.K = X.K) {f : M Iter} (h : PE X e (tSr c σ0 W f)) (hl : ∀ ρ it ρ', f ρ = .ok it ρ' → it.src.all (fun p => isLn ρ' p.1) = true ∧ (it.items ρ').isSome = true) : PI X tg e (tI c σ0 W f) := by
  refine ⟨fun pins s σ H R I q => (pi_any h).run pins s σ H R I ?_⟩
  obtain ⟨G, own, ρ, S, q⟩ := q
  refine ⟨G, own, ρ, S, ?_⟩
  cases e1 : f ρ with
  | bad => rw [e1] at q; exact q
  | ex x ρ1 => rw [e1] at q; exact q
  | ok it ρ1 =>
    rw [e1] at q
    obtain ⟨hln, hsome⟩ := hl _ _ _ e1
    obtain ⟨ds0, hds0⟩ := Option.isSome_iff_exists.mp hsome
    intro G1 own1 H1 v t1 S1 K
    have q := fun J => q G1 own1 H1 J t1 S1
    have hs0 : ∀ p ∈ it.src, σ[p.1]? = σ[p.1]? ∧ isLn ρ1 p.1 = true := fun p hp => ⟨rfl, List.all_eq_true.mp hln p hp⟩
    rcases K.k with ⟨a, ea, k⟩ | ⟨a, ea, k⟩ | ⟨x, ea, k⟩
    · obtain ⟨vs0, hq0, _⟩ := k σ0 G1 own1 ρ1 σ H1 ds0 (Same.refl _) S1 hs0 hds0
      refine .inl ⟨a, ea, ⟨vs0, by rw [← hK]; exact hq0⟩, q _ ⟨K.loc, fun σ1 G' own' ρ' σ' H' ds s S' hl' e => ?_⟩⟩
      obtain ⟨vs, hq, r⟩ := k σ1 G' own' ρ' σ' H' ds s S' hl' e
      rw [hK] at hq
      refine ⟨⟨vs, hq, by rw [r.length]; exact Nat.le_refl _⟩, fun i d hd => ?_⟩
      obtain ⟨w, hw, rw'⟩ := r.get hd
      refine ⟨⟨vs, w, hq, hw⟩, fun y H2 hy => ?_⟩
      obtain ⟨rfl, hy⟩ := hy
      have := hy vs hq
      rw [hw] at this
      cases this
      exact ⟨G', New.refl S'.same, rw'⟩
    · obtain ⟨vs0, hq0, _⟩ := k σ0 G1 own1 ρ1 σ H1 ds0 (Same.refl _) S1 hs0 hds0
      refine .inr (.inl ⟨a, ea, ⟨vs0, by rw [← hK]; exact hq0⟩, q _ ⟨K.loc, fun σ1 G' own' ρ' σ' H' ds s S' hl' e => ?_⟩⟩)
      obtain ⟨vs, hq, r⟩ := k σ1 G' own' ρ' σ' H' ds s S' hl' e
      rw [hK] at hq
      refine ⟨⟨vs, hq, by rw [r.length]; exact Nat.le_refl _⟩, fun i d hd => ?_⟩
      obtain ⟨w, hw, rw'⟩ := r.get hd
      refine ⟨⟨vs, w, hq, hw⟩, fun y H2 hy => ?_⟩
      obtain ⟨rfl, hy⟩ := hy
      have := hy vs hq
      rw [hw] at this
      cases this
      exact ⟨G', New.refl S'.same, rw'⟩
    · refine .inr (.inr ⟨x, ea, q _ ⟨K.loc, fun σ1 G' own' ρ' σ' H' ds s S' hl' e => ?_⟩⟩)
      have e := k ρ' ds e
      subst e
      refine ⟨by show x.cps.size ≤ _; unfold charsD; simp, fun i d hd => ?_⟩
      unfold charsD at hd
      rw [List.getElem?_map] at hd
      cases e2 : x.cps.toList[i]? with
      | none => rw [e2] at hd; cases hd
      | some w =>
        rw [e2] at hd
        cases hd
        have e3 : x.cps[i]? = some w := by simpa using e2
        refine ⟨by
          show i < x.cps.size
          have := (List.getElem?_eq_some_iff.mp e2).1
          simpa using this, fun y H2 hy => ?_⟩
        obtain ⟨rfl, w', hw', rfl⟩ := hy
        rw [e3] at hw'
        cases hw'
        exact ⟨G', New.refl S'.same, .str _⟩
theorem all_E {f : M R} : ∀ ρ it ρ', itE f ρ = .ok it ρ' → it.src.all (fun p => isLn ρ' p.1) = true ∧ (it.items ρ').isSome = true := fun ρ it ρ' h => by
  unfold itE M.bind at h
  cases e : f ρ with
  | bad => rw [e] at h; cases h
  | ex x ρ1 => rw [e] at h; cases h
  | ok r ρ1 =>
    rw [e] at h
    dsimp only at h
    have go : ∀ {d : D}, (match itemsD d with
        | some ds => Res.ok (itVals ds) ρ1
        | none => Res.bad) = Res.ok it ρ' → it.src.all (fun p => isLn ρ' p.1) = true ∧ (it.items ρ').isSome = true := fun {d} h => by
      cases q : itemsD d with
      | none => rw [q] at h; cases h
      | some ds => rw [q] at h; cases h; exact ⟨rfl, rfl⟩
    cases r with
    | val d => exact go h
    | nw o => exact go h
    | sl j => cases h
theorem all_N {j : Nat} : ∀ ρ it ρ', itN j ρ = .ok it ρ' → it.src.all (fun p => isLn ρ' p.1) = true ∧ (it.items ρ').isSome = true := fun ρ it ρ' h => by
  unfold itN at h
  cases e : ρ[j]? with
  | none => rw [e] at h; cases h
  | some s =>
    rw [e] at h
    cases s with
    | no => cases h
    | fz d =>
      dsimp only at h
      cases q : itemsD d with
      | none => rw [q] at h; cases h
      | some ds => rw [q] at h; cases h; exact ⟨rfl, rfl⟩
    | ow k o =>
      cases o with
      | lst ds =>
        cases h
        have e2 : (ρ.set j (.ln k (.lst ds)))[j]? = some (.ln k (.lst ds)) := List.getElem?_set_self (lt_of_get e)
        refine ⟨?_, ?_⟩
        · show (isLn (ρ.set j (.ln k (.lst ds))) j && true) = true
          unfold isLn
          rw [e2]
          rfl
        · show (lnItems j (ρ.set j (.ln k (.lst ds)))).isSome = true
          unfold lnItems
          rw [e2]
          rfl
      | _ => cases h
    | ln k o =>
      cases o with
      | lst ds =>
        cases h
        refine ⟨?_, ?_⟩
        · show (isLn ρ j && true) = true
          unfold isLn
          rw [e]
          rfl
        · show (lnItems j ρ).isSome = true
          unfold lnItems
          rw [e]
          rfl
      | _ => cases h
end
end DL

/-! DLi: enumerate, zip, range; while; comprehensions. -/
namespace DL
open PySem PySem.Spec PyProof.Rows L2

def AllOk (f : M Iter) : Prop := ∀ ρ it ρ', f ρ = .ok it ρ' → it.src.all (fun p => isLn ρ' p.1) = true ∧ (it.items ρ').isSome = true
def enumD (ds : List D) : List D := ds.zipIdx.map fun p => D.tup [.int (p.2 : Nat), p.1]
def itEnum (f : M Iter) : M Iter := fun ρ => match f ρ with
  | .ok it ρ' => .ok ⟨it.src, fun ρ => (it.items ρ).map enumD⟩ ρ'
  | .ex x ρ' => .ex x ρ'
  | .bad => .bad
def zipD (ds es : List D) : List D := (ds.zip es).map fun p => D.tup [p.1, p.2]
def itZip (f g : M Iter) : M Iter := fun ρ => match f ρ with
  | .ok it ρ1 => match g ρ1 with
    | .ok it2 ρ2 => .ok ⟨it.src ++ it2.src, fun ρ => match it.items ρ, it2.items ρ with
      | some ds, some es => some (zipD ds es)
      | _, _ => none⟩ ρ2
    | .ex x ρ2 => .ex x ρ2
    | .bad => .bad
  | .ex x ρ1 => .ex x ρ1
  | .bad => .bad
theorem enumD_get {ds : List D} {i : Nat} : (enumD ds)[i]? = (ds[i]?).map fun d => D.tup [.int (i : Nat), d] := by
  unfold enumD
  rw [List.getElem?_map, List.getElem?_zipIdx]
  cases ds[i]? with
  | none => rfl
  | some d => simp
theorem enumD_len {ds : List D} : (enumD ds).length = ds.length := by
  unfold enumD; simp
section
variable {X : Cx} {c : Cn} {σ0 : St} {W : WX} {σ : St} {ρ : Ro} {G H : Hp} {own : Own} {a b e tg : Expr} {es : List Expr} {pos p : Pos} {f g : M R}
theorem und_enum {f : M Iter} (h : Und f) : Und (itEnum f) := fun ρ it ρ' hf => by
  unfold itEnum at hf
  cases e : f ρ with
  | bad => rw [e] at hf; cases hf
  | ex x ρ1 => rw [e] at hf; cases hf
  | ok it1 ρ1 =>
    rw [e] at hf
    cases hf
    exact h ρ it1 ρ' e
/-- a new pair is laid -/
theorem pair_new {x y : V} {d1 d2 : D} {T : Addr} (S : SR c σ0 G own ρ σ H) (hT : H T = none) (h1 : Rep c G d1 x) (h2 : Rep c G d2 y) : ∃ G', New G H G' (upd H T (.tup [x, y])) ∧ Rep c G' (.tup [d1, d2]) (.ref T) := by
  have gT : G T = none := by
    cases e : G T with
    | none => rfl
    | some o =>
      rw [S.same T o e] at hT
      cases hT
  have s1 : Same G (upd G T (.tup [x, y])) := fun b o e => by
    rw [upd_ne (ne_of_none e gT)]; exact e
  refine ⟨upd G T (.tup [x, y]), ⟨fun b o e => by rw [upd_ne (ne_of_none e hT)]; exact e, s1, fun b o e => ?_, fun b o e => ?_⟩, .tup (SqT.of upd_same) (.cons (h1.mono s1) (.cons (h2.mono s1) .nil))⟩
  · by_cases z : b = T
    · subst z; rw [upd_same] at e ⊢; exact e
    · rw [upd_ne z] at e ⊢; exact S.same b o e
  · by_cases z : b = T
    · subst z; exact .inr hT
    · rw [upd_ne z] at e; exact .inl e
theorem di_enum (hK : c.K = X.K) {f : M Iter} {elts : List Expr} {kk : Nat} {tpos : Pos} (hg : Gl X "enumerate") (hm : X.mg "enumerate" = none) (h : PE X e (tSr c σ0 W f)) (hl : AllOk f) (hs : starEach [e] X.env = [(false, eval e X.env)] := by rfl)
    (hs2 : starEach [e] X.env = (false, eval e X.env) :: starEach [] X.env := by rfl) : PI X (.Tuple elts kk tpos) (.Call (.Name "enumerate" p) [e] [] pos) (tI c σ0 W (itEnum f)) := by
  refine ⟨fun pins s σ H R I q => (pi_enumA hg hm (pa_cons h pa_nil hs2) hs).run pins s σ H R I ?_⟩
  obtain ⟨G, own, ρ, S, q⟩ := q
  refine ⟨G, own, ρ, S, ?_⟩
  unfold itEnum at q
  cases e1 : f ρ with
  | bad => rw [e1] at q; exact q
  | ex x ρ1 => rw [e1] at q; exact q
  | ok it ρ1 =>
    rw [e1] at q
    obtain ⟨hln, hsome⟩ := hl _ _ _ e1
    obtain ⟨ds0, hds0⟩ := Option.isSome_iff_exists.mp hsome
    intro G1 own1 H1 v t1 S1 K
    have q := fun J => q G1 own1 H1 J t1 S1
    have hs0 : ∀ p ∈ it.src, σ[p.1]? = σ[p.1]? ∧ isLn ρ1 p.1 = true := fun p hp => ⟨rfl, List.all_eq_true.mp hln p hp⟩
    have hloc : ∀ ρ ρ' : Ro, (∀ p ∈ it.src, ρ[p.1]? = ρ'[p.1]?) → (it.items ρ).map enumD = (it.items ρ').map enumD := fun ρ ρ' z => by rw [K.loc ρ ρ' z]
    show (∃ a xs, [v] = [V.ref a] ∧ _) ∨ _ ∨ _
    rcases K.k with ⟨a, ea, k⟩ | ⟨a, ea, k⟩ | ⟨x, ea, k⟩
    · obtain ⟨vs0, hq0, _⟩ := k σ0 G1 own1 ρ1 σ H1 ds0 (Same.refl _) S1 hs0 hds0
      refine .inl ⟨a, vs0, by rw [ea], by rw [← hK]; exact hq0, q _ ⟨hloc, fun σ1 G' own' ρ' σ' H' ds s S' hl' e => ?_⟩⟩
      have e : (it.items ρ').map enumD = some ds := e
      cases e3 : it.items ρ' with
      | none => rw [e3] at e; cases e
      | some ds1 =>
        rw [e3] at e
        cases e
        obtain ⟨vs, hq, r⟩ := k σ1 G' own' ρ' σ' H' ds1 s S' hl' e3
        rw [hK] at hq
        refine ⟨⟨vs, hq, by rw [enumD_len, r.length]; exact Nat.le_refl _⟩, fun i d hd => ?_⟩
        rw [enumD_get] at hd
        cases e4 : ds1[i]? with
        | none => rw [e4] at hd; cases hd
        | some d1 =>
          rw [e4] at hd
          cases hd
          obtain ⟨w, hw, rw'⟩ := r.get e4
          refine ⟨⟨vs, w, hq, hw⟩, fun y H2 hy => ?_⟩
          obtain ⟨T, x, rfl, hT, rfl, hx⟩ := hy
          have := hx vs hq
          rw [hw] at this
          cases this
          exact pair_new S' hT (.int _) rw'
    · obtain ⟨vs0, hq0, _⟩ := k σ0 G1 own1 ρ1 σ H1 ds0 (Same.refl _) S1 hs0 hds0
      refine .inr (.inl ⟨a, vs0, by rw [ea], by rw [← hK]; exact hq0, q _ ⟨hloc, fun σ1 G' own' ρ' σ' H' ds s S' hl' e => ?_⟩⟩)
      have e : (it.items ρ').map enumD = some ds := e
      cases e3 : it.items ρ' with
      | none => rw [e3] at e; cases e
      | some ds1 =>
        rw [e3] at e
        cases e
        obtain ⟨vs, hq, r⟩ := k σ1 G' own' ρ' σ' H' ds1 s S' hl' e3
        rw [hK] at hq
        refine ⟨⟨vs, hq, by rw [enumD_len, r.length]⟩, fun i d hd => ?_⟩
        rw [enumD_get] at hd
        cases e4 : ds1[i]? with
        | none => rw [e4] at hd; cases hd
        | some d1 =>
          rw [e4] at hd
          cases hd
          obtain ⟨w, hw, rw'⟩ := r.get e4
          refine ⟨⟨vs, w, hq, hw⟩, fun y H2 hy => ?_⟩
          obtain ⟨T, x, rfl, hT, rfl, hx⟩ := hy
          have := hx vs hq
          rw [hw] at this
          cases this
          exact pair_new S' hT (.int _) rw'
    · refine .inr (.inr ⟨x, by rw [ea], q _ ⟨hloc, fun σ1 G' own' ρ' σ' H' ds s S' hl' e => ?_⟩⟩)
      have e : (it.items ρ').map enumD = some ds := e
      cases e3 : it.items ρ' with
      | none => rw [e3] at e; cases e
      | some ds1 =>
        rw [e3] at e
        cases e
        have e := k ρ' ds1 e3
        subst e
        refine ⟨by show x.cps.size = _; rw [enumD_len]; unfold charsD; simp, fun i d hd => ?_⟩
        rw [enumD_get] at hd
        unfold charsD at hd
        rw [List.getElem?_map] at hd
        cases e2 : x.cps.toList[i]? with
        | none => rw [e2] at hd; cases hd
        | some w =>
          rw [e2] at hd
          cases hd
          have e5 : x.cps[i]? = some w := by simpa using e2
          refine ⟨by
            show i < x.cps.size
            have := (List.getElem?_eq_some_iff.mp e2).1
            simpa using this, fun y H2 hy => ?_⟩
          obtain ⟨T, w', rfl, hT, rfl, hw'⟩ := hy
          rw [e5] at hw'
          cases hw'
          exact pair_new S' hT (.int _) (.str _)

/-! ### range -/
def rangeD (lo : Int) (n : Nat) : List D := (List.range n).map fun i => D.int (lo + (i : Nat))
def fits62 (i : Int) : Bool := decide (-(2 ^ 62) ≤ i) && decide (i < 2 ^ 62)
def itRange (f : M (List R)) : M Iter := f.bind fun rs ρ => match derefs ρ rs with
  | some [.int j] => if fits62 j = true then .ok (itVals (rangeD 0 j.toNat)) ρ else .bad
  | some [.int i, .int j] => if (fits62 i && fits62 j) = true then .ok (itVals (rangeD i (j - i).toNat)) ρ else .bad
  | _ => .bad
theorem fits62_of {i : Int} (h : fits62 i = true) : -(2 ^ 62) ≤ i ∧ i < 2 ^ 62 := by
  unfold fits62 at h
  simpa using h
theorem it_range {lo : Int} {n : Nat} : ItOk c (itVals (rangeD lo n)) (Itr lo n) G σ := by
  refine ⟨fun _ _ _ => rfl, fun σ1 G' own' ρ' σ' H' ds s S' hl' e => ?_⟩
  cases e
  refine ⟨by show n ≤ _; unfold rangeD; simp, fun i d hd => ?_⟩
  unfold rangeD at hd
  rw [List.getElem?_map] at hd
  cases e2 : (List.range n)[i]? with
  | none => rw [e2] at hd; cases hd
  | some w =>
    rw [e2] at hd
    cases hd
    have hi := (List.getElem?_eq_some_iff.mp e2).1
    rw [List.length_range] at hi
    rw [List.getElem?_range hi] at e2
    cases e2
    refine ⟨hi, fun y H2 hy => ?_⟩
    obtain ⟨rfl, rfl⟩ := hy
    exact ⟨G', New.refl S'.same, .int _⟩
theorem di_range1 {fa : M (List R)} (hg : Gl X "range") (hm : X.mg "range" = none) (ha : PA X [e] (tA c σ0 W fa)) (hlen : ∀ ρ rs ρ', fa ρ = .ok rs ρ' → rs.length = 1) (hs : starEach [e] X.env = [(false, eval e X.env)] := by rfl) :
    PI X tg (.Call (.Name "range" p) [e] [] pos) (tI c σ0 W (itRange fa)) := by
  refine ⟨fun pins s σ H R I q => (pi_range1 hg hm ha hs).run pins s σ H R I ?_⟩
  obtain ⟨G, own, ρ, S, q⟩ := q
  refine ⟨G, own, ρ, S, ?_⟩
  unfold itRange M.bind at q
  cases e1 : fa ρ with
  | bad => rw [e1] at q; exact q
  | ex x ρ1 => rw [e1] at q; exact q
  | ok rs ρ1 =>
    rw [e1] at q
    intro G1 own1 H1 vs t1 S1 R1
    dsimp only at q
    have hl := hlen _ _ _ e1
    cases e2 : derefs ρ1 rs with
    | none => rw [e2] at q; exact q.elim
    | some ds =>
      have rr := R1.derefs S1 e2
      rw [e2] at q
      have ln : ∀ {rs : List DL.R} {ds : List D}, derefs ρ1 rs = some ds → ds.length = rs.length := by
        intro rs
        induction rs with
        | nil => intro ds h; cases h; rfl
        | cons r rs ih =>
          intro ds h
          unfold derefs at h
          cases q1 : deref ρ1 r with
          | none => rw [q1] at h; cases h
          | some d =>
            cases q2 : derefs ρ1 rs with
            | none => rw [q1, q2] at h; cases h
            | some es => rw [q1, q2] at h; cases h; rw [List.length_cons, List.length_cons, ih q2]
      have l1 := ln e2
      rw [hl] at l1
      cases rr with
      | nil => cases l1
      | cons h1 h2 =>
        cases h2 with
        | cons _ _ => cases l1
        | nil =>
          rename_i d v
          cases d with
          | int j =>
            cases h1
            have q : XP (relI c) c σ0 W σ ρ G own H R (if fits62 j = true then .ok (itVals (rangeD 0 j.toNat)) ρ1 else .bad) := q
            by_cases hb : fits62 j = true
            · rw [if_pos hb] at q
              exact ⟨j, rfl, (fits62_of hb).1, (fits62_of hb).2, q G1 own1 H1 _ t1 S1 it_range⟩
            · rw [if_neg hb] at q
              exact q.elim
          | _ => exact q.elim
theorem di_range2 {fa : M (List R)} (hg : Gl X "range") (hm : X.mg "range" = none) (ha : PA X [a, b] (tA c σ0 W fa)) (hlen : ∀ ρ rs ρ', fa ρ = .ok rs ρ' → rs.length = 2) (hs : starEach [a, b] X.env = [(false, eval a X.env), (false, eval b X.env)] := by rfl) (hs2 : starEach [b] X.env = [(false, eval b X.env)] := by rfl) :
    PI X tg (.Call (.Name "range" p) [a, b] [] pos) (tI c σ0 W (itRange fa)) := by
  refine ⟨fun pins s σ H R I q => (pi_range2 hg hm ha hs hs2).run pins s σ H R I ?_⟩
  obtain ⟨G, own, ρ, S, q⟩ := q
  refine ⟨G, own, ρ, S, ?_⟩
  unfold itRange M.bind at q
  cases e1 : fa ρ with
  | bad => rw [e1] at q; exact q
  | ex x ρ1 => rw [e1] at q; exact q
  | ok rs ρ1 =>
    rw [e1] at q
    intro G1 own1 H1 vs t1 S1 R1
    dsimp only at q
    have hl := hlen _ _ _ e1
    cases e2 : derefs ρ1 rs with
    | none => rw [e2] at q; exact q.elim
    | some ds =>
      have rr := R1.derefs S1 e2
      rw [e2] at q
      cases rr with
      | nil =>
        exact q.elim
      | cons h1 h2 =>
        cases h2 with
        | nil =>
          cases R1 with
          | val _ R2 => cases R2; cases hl
          | sl _ R2 => cases R2; cases hl
        | cons h2 h3 =>
          cases h3 with
          | cons _ _ =>
            cases R1 with
            | val _ R2 =>
              cases R2 with
              | val _ R3 => cases R3 <;> cases hl
              | sl _ R3 => cases R3 <;> cases hl
            | sl _ R2 =>
              cases R2 with
              | val _ R3 => cases R3 <;> cases hl
              | sl _ R3 => cases R3 <;> cases hl
          | nil =>
            rename_i d1 v1 d2 v2
            cases d1 with
            | int i =>
              cases d2 with
              | int j =>
                cases h1
                cases h2
                have q : XP (relI c) c σ0 W σ ρ G own H R (if (fits62 i && fits62 j) = true then .ok (itVals (rangeD i (j - i).toNat)) ρ1 else .bad) := q
                by_cases hb : (fits62 i && fits62 j) = true
                · rw [if_pos hb] at q
                  obtain ⟨b1, b2⟩ := Bool.and_eq_true_iff.mp hb
                  exact ⟨i, j, rfl, ⟨(fits62_of b1).1, (fits62_of b1).2, (fits62_of b2).1, (fits62_of b2).2⟩, q G1 own1 H1 _ t1 S1 it_range⟩
                · rw [if_neg hb] at q
                  exact q.elim
              | _ => exact q.elim
            | _ => exact q.elim
theorem und_range {fa : M (List R)} : Und (itRange fa) := fun ρ it ρ' h p hp => by
  have e : it.src = [] := by
    unfold itRange M.bind at h
    cases e1 : fa ρ with
    | bad => rw [e1] at h; cases h
    | ex x ρ1 => rw [e1] at h; cases h
    | ok rs ρ1 =>
      rw [e1] at h
      dsimp only at h
      split at h
      · split at h
        · cases h; rfl
        · cases h
      · split at h
        · cases h; rfl
        · cases h
      · cases h
  rw [e] at hp
  cases hp

/-! ### while -/
def whileN (t : M Bool) (s : S) : Nat → S
  | 0, _ => .bad
  | n + 1, ρ => match t ρ with
    | .ok true ρ1 => match s ρ1 with
      | .nx ρ2 => whileN t s n ρ2
      | .cnt ρ2 => whileN t s n ρ2
      | .brk ρ2 => .nx ρ2
      | o => o
    | .ok false ρ1 => .nx ρ1
    | .ex x ρ1 => .ex x ρ1
    | .bad => .bad
open Classical in
noncomputable def sWhile (t : M Bool) (s : S) : S := fun ρ => if h : ∃ n, whileN t s n ρ ≠ .bad then whileN t s (Classical.choose h) ρ else .bad
theorem whileN_more {t : M Bool} {s : S} : ∀ {n : Nat} {ρ : Ro}, whileN t s n ρ ≠ .bad → whileN t s (n + 1) ρ = whileN t s n ρ
  | 0, _, h => absurd rfl h
  | n + 1, ρ, h => by
    rw [show whileN t s (n + 1 + 1) ρ = (match t ρ with
      | .ok true ρ1 => match s ρ1 with
        | .nx ρ2 => whileN t s (n + 1) ρ2
        | .cnt ρ2 => whileN t s (n + 1) ρ2
        | .brk ρ2 => .nx ρ2
        | o => o
      | .ok false ρ1 => .nx ρ1
      | .ex x ρ1 => .ex x ρ1
      | .bad => .bad) from rfl]
    unfold whileN at h ⊢
    cases e : t ρ with
    | bad => rfl
    | ex x ρ1 => rfl
    | ok b ρ1 =>
      rw [e] at h
      cases b with
      | false => rfl
      | true =>
        dsimp only at h ⊢
        cases e2 : s ρ1 with
        | nx ρ2 =>
          rw [e2] at h
          exact whileN_more h
        | cnt ρ2 =>
          rw [e2] at h
          exact whileN_more h
        | _ => rfl
theorem whileN_le {t : M Bool} {s : S} {ρ : Ro} {n : Nat} (h : whileN t s n ρ ≠ .bad) : ∀ k, whileN t s (n + k) ρ = whileN t s n ρ
  | 0 => rfl
  | k + 1 => by
    have e := whileN_le h k
    rw [show n + (k + 1) = n + k + 1 from rfl, whileN_more (by rw [e]; exact h), e]
theorem whileN_eq {t : M Bool} {s : S} {ρ : Ro} {n m : Nat} (h : whileN t s n ρ ≠ .bad) (h' : whileN t s m ρ ≠ .bad) : whileN t s n ρ = whileN t s m ρ := by
  rcases Nat.le_total n m with l | l
  · obtain ⟨k, rfl⟩ := Nat.exists_eq_add_of_le l
    exact (whileN_le h k).symm
  · obtain ⟨k, rfl⟩ := Nat.exists_eq_add_of_le l
    exact whileN_le h' k
/-- the while's value, by so many turns -/
theorem sWhile_of {t : M Bool} {s : S} {ρ : Ro} {o : Out} (n : Nat) (h : whileN t s n ρ = o) (ho : o ≠ .bad) : sWhile t s ρ = o := by
  have ex : ∃ n, whileN t s n ρ ≠ .bad := ⟨n, by rw [h]; exact ho⟩
  unfold sWhile
  rw [dif_pos ex, ← h]
  exact whileN_eq (Classical.choose_spec ex) (by rw [h]; exact ho)
theorem ds_while {x : Expr} {body : List Stmt} {t : M Bool} {s : S} (hp : PassesOwn (model X.prog X.w) X.A X.env X.xe) (hc : PT X x (tT c σ0 W t)) (hb : PSs X body (tS c σ0 W s)) : PS X (.While x body [] pos) (tS c σ0 W (sWhile t s)) :=
  PS.imp (ps_while hp hc hb) fun E σ H q => by
    obtain ⟨G, own, ρ, S, q⟩ := q
    unfold sWhile at q
    by_cases ex : ∃ n, whileN t s n ρ ≠ .bad
    · rw [dif_pos ex] at q
      refine ⟨fun m σ' H' => ∃ G' own' ρ', SR c σ0 G' own' ρ' σ' H' ∧ Tr ρ σ G own H ρ' σ' G' own' H' ∧ SPo c σ0 W σ ρ G own H E (whileN t s m ρ'), ⟨_, G, own, ρ, S, Tr.refl, q⟩, ?_⟩
      rintro m σ' H' ⟨G', own', ρ', S', t', h'⟩
      cases m with
      | zero => exact h'.elim
      | succ m =>
        unfold whileN at h'
        refine ⟨G', own', ρ', S', ?_⟩
        cases e : t ρ' with
        | bad => rw [e] at h'; exact h'
        | ex x ρ1 =>
          rw [e] at h'
          exact fun G1 own1 H1 cls d t1 S1 R1 => h' σ' G1 own1 H1 cls d (t'.trans t1) S1 R1
        | ok b ρ1 =>
          rw [e] at h'
          intro G1 own1 H1 v t1 S1 R1
          cases R1
          cases b with
          | false => exact h' σ' G1 own1 H1 (t'.trans t1) S1
          | true =>
            refine ⟨fun σ'' H'' => ∃ G'' own'' ρ'', SR c σ0 G'' own'' ρ'' σ'' H'' ∧ Tr ρ σ G own H ρ'' σ'' G'' own'' H'' ∧ SPo c σ0 W σ ρ G own H E (whileN t s m ρ''), fun σ'' H'' z => ⟨m, Nat.lt_succ_self m, z⟩, G1, own1, ρ1, S1, ?_⟩
            have t01 := t'.trans t1
            dsimp only at h'
            cases e2 : s ρ1 with
            | bad => rw [e2] at h'; exact h'
            | nx ρ4 =>
              rw [e2] at h'
              exact fun σ4 G4 own4 H4 t4 S4 => ⟨G4, own4, ρ4, S4, t01.trans t4, h'⟩
            | cnt ρ4 =>
              rw [e2] at h'
              exact fun σ4 G4 own4 H4 t4 S4 => ⟨G4, own4, ρ4, S4, t01.trans t4, h'⟩
            | brk ρ4 =>
              rw [e2] at h'
              exact fun σ4 G4 own4 H4 t4 S4 => h' σ4 G4 own4 H4 (t01.trans t4) S4
            | ret r ρ4 =>
              rw [e2] at h'
              exact fun σ4 G4 own4 H4 v t4 S4 R4 => h' σ4 G4 own4 H4 v (t01.trans t4) S4 (RR.mono (fun b => t01.back) R4)
            | ex x ρ4 =>
              rw [e2] at h'
              exact fun σ4 G4 own4 H4 cls d t4 S4 R4 => h' σ4 G4 own4 H4 cls d (t01.trans t4) S4 R4
    · rw [dif_neg ex] at q
      exact q.elim
end
end DL

/-! DLj: comprehensions. -/
namespace DL
open PySem PySem.Spec PyProof.Rows L2

def wipeR (ρ : Ro) : List Nat → Ro
  | [] => ρ
  | v :: vs => (wipeR ρ vs).set v .no
def escD : R → Option D
  | .val d => some d
  | .nw o => some o.toD
  | .sl _ => none
def compN (tgt : Tgt) (cond : M Bool) (elt : M R) (vs : List Nat) : List D → List D → M (List D)
  | [], acc, ρ => .ok acc ρ
  | d :: ds, acc, ρ => match tgt d ρ with
    | none => .bad
    | some ρ1 => match cond ρ1 with
      | .ok true ρ2 => match elt ρ2 with
        | .ok r ρ3 => match escD r with
          | some x => if acc.length < sizeLine then compN tgt cond elt vs ds (acc ++ [x]) (wipeR ρ3 vs) else .bad
          | none => .bad
        | _ => .bad
      | .ok false ρ2 => compN tgt cond elt vs ds acc (wipeR ρ2 vs)
      | _ => .bad
def compR (tgt : Tgt) (cond : M Bool) (elt : M R) (vs : List Nat) (it : Iter) : M R := fun ρ =>
  if (it.src.all (fun p => isLn ρ p.1) && vs.all fun v => !isLn ρ v) = true then (match it.items ρ with
    | none => .bad
    | some ds => match compN tgt cond elt vs ds [] (wipeR ρ vs) with
      | .ok acc ρ' => .ok (.nw (.lst acc)) (undoR it.src ρ')
      | _ => .bad) else .bad
def eComp (f : M Iter) (tgt : Tgt) (cond : M Bool) (elt : M R) (vs : List Nat) : M R := f.bind (compR tgt cond elt vs)
def eYes : M Bool := M.ret true

theorem wipe_get {σ : St} {i : Nat} : ∀ {vs : List Nat}, (wipe σ vs)[i]? = if i ∈ vs then (σ[i]?).map fun _ => none else σ[i]?
  | [] => by simp [wipe]
  | v :: vs => by
    unfold wipe
    by_cases e : v = i
    · subst e
      rw [if_pos List.mem_cons_self]
      by_cases h : v < (wipe σ vs).length
      · rw [List.getElem?_set_self h]
        rw [wipe_length] at h
        rw [List.getElem?_eq_getElem h]
        rfl
      · rw [List.getElem?_eq_none (by rw [List.length_set]; omega)]
        rw [wipe_length] at h
        rw [List.getElem?_eq_none (by omega)]
        rfl
    · rw [List.getElem?_set_ne e, wipe_get]
      by_cases h : i ∈ vs
      · rw [if_pos h, if_pos (List.mem_cons_of_mem _ h)]
      · rw [if_neg h, if_neg fun z => (List.mem_cons.mp z).elim (fun q => e q.symm) h]
theorem wipeR_get {ρ : Ro} {i : Nat} : ∀ {vs : List Nat}, (wipeR ρ vs)[i]? = if i ∈ vs then (ρ[i]?).map fun _ => Sl.no else ρ[i]?
  | [] => by simp [wipeR]
  | v :: vs => by
    have len : ∀ vs : List Nat, (wipeR ρ vs).length = ρ.length := fun vs => by
      induction vs with
      | nil => rfl
      | cons v vs ih => unfold wipeR; rw [List.length_set, ih]
    unfold wipeR
    by_cases e : v = i
    · subst e
      rw [if_pos List.mem_cons_self]
      by_cases h : v < (wipeR ρ vs).length
      · rw [List.getElem?_set_self h]
        rw [len] at h
        rw [List.getElem?_eq_getElem h]
        rfl
      · rw [List.getElem?_eq_none (by rw [List.length_set]; omega)]
        rw [len] at h
        rw [List.getElem?_eq_none (by omega)]
        rfl
    · rw [List.getElem?_set_ne e, wipeR_get]
      by_cases h : i ∈ vs
      · rw [if_pos h, if_pos (List.mem_cons_of_mem _ h)]
      · rw [if_neg h, if_neg fun z => (List.mem_cons.mp z).elim (fun q => e q.symm) h]
theorem wipeR_len {ρ : Ro} : ∀ vs : List Nat, (wipeR ρ vs).length = ρ.length
  | [] => rfl
  | v :: vs => by unfold wipeR; rw [List.length_set, wipeR_len vs]
theorem wipe_off {σ σ' : St} {ts vs : List Nat} (h : Off ts (wipe σ vs) σ') (hs : ∀ i ∈ ts, i ∈ vs) : wipe σ' vs = wipe σ vs := by
  refine List.ext_getElem? fun i => ?_
  rw [wipe_get, wipe_get]
  by_cases hi : i ∈ vs
  · rw [if_pos hi, if_pos hi]
    have hl : σ'.length = σ.length := by rw [h.1, wipe_length]
    by_cases q : i < σ.length
    · rw [List.getElem?_eq_getElem q, List.getElem?_eq_getElem (by rw [hl]; exact q)]
      rfl
    · rw [List.getElem?_eq_none (by omega), List.getElem?_eq_none (by omega)]
  · rw [if_neg hi, if_neg hi, h.2 i fun z => hi (hs i z), wipe_get, if_neg hi]
section
variable {X : Cx} {c : Cn} {σ0 : St} {W : WX} {σ σ' : St} {ρ ρ' : Ro} {G G' H H' : Hp} {own own' : Own} {vs : List Nat}
theorem SR.wipe (S : SR c σ0 G own ρ σ H) : SR c σ0 G own (wipeR ρ vs) (L2.wipe σ vs) H where
  same := S.same
  out := S.out
  there := S.there
  dis := S.dis
  len := by rw [wipeR_len, wipe_length]; exact S.len
  slot := fun i s h => by
    rw [wipeR_get] at h
    by_cases hi : i ∈ vs
    · rw [if_pos hi] at h
      cases e : ρ[i]? with
      | none => rw [e] at h; cases h
      | some t => rw [e] at h; cases h; trivial
    · rw [if_neg hi] at h
      rw [wipe_get, if_neg hi]
      exact S.slot i s h
  io := fun i s h q => by
    rw [wipeR_get] at h
    by_cases hi : i ∈ vs
    · rw [if_pos hi] at h
      cases e : ρ[i]? with
      | none => rw [e] at h; cases h
      | some t => rw [e] at h; cases h; cases q
    · rw [if_neg hi] at h
      rw [wipe_get, if_neg hi]
      exact S.io i s h q
/-- back at the whole slots -/
theorem SR.unwipe {ρ1 : Ro} (S : SR c σ0 G own (wipeR ρ1 vs) (L2.wipe σ vs) H) (hl : ρ1.length = σ.length) : SR c σ0 G own (wipeR ρ1 vs) σ H where
  same := S.same
  out := S.out
  there := S.there
  dis := S.dis
  len := by rw [wipeR_len]; exact hl
  slot := fun i s h => by
    have z := S.slot i s h
    rw [wipeR_get] at h
    by_cases hi : i ∈ vs
    · rw [if_pos hi] at h
      cases e : ρ1[i]? with
      | none => rw [e] at h; cases h
      | some t => rw [e] at h; cases h; trivial
    · rw [wipe_get, if_neg hi] at z
      exact z
  io := fun i s h q => by
    have z := S.io i s h q
    rw [wipeR_get] at h
    by_cases hi : i ∈ vs
    · rw [if_pos hi] at h
      cases e : ρ1[i]? with
      | none => rw [e] at h; cases h
      | some t => rw [e] at h; cases h; cases q
    · rw [wipe_get, if_neg hi] at z
      exact z
theorem Tr.wipeIn (hn : ∀ v ∈ vs, isLn ρ v = false) : Tr ρ σ G own H (wipeR ρ vs) (L2.wipe σ vs) G own H :=
  ⟨Same.refl _, fun _ _ h _ => h, fun _ _ h => .inl h, fun _ h => .inl h, fun j k o h => by
    have hj : j ∉ vs := fun z => by
      have q := hn j z
      unfold isLn at q
      rw [h] at q
      cases q
    rw [wipeR_get, wipe_get, if_neg hj, if_neg hj]
    exact ⟨h, rfl⟩⟩
theorem Tr.wipeOut {ρ1 : Ro} {σ1 : St} (t : Tr (wipeR ρ1 vs) (L2.wipe σ1 vs) G own H ρ' σ' G' own' H') : Tr (wipeR ρ1 vs) (L2.wipe σ1 vs) G own H (wipeR ρ' vs) (L2.wipe σ1 vs) G' own' H' :=
  ⟨t.ext, t.keep, t.gnew, t.onew, fun j k o h => by
    obtain ⟨h1, _⟩ := t.lent j k o h
    have hj : j ∉ vs := fun z => by
      rw [wipeR_get, if_pos z] at h
      cases e : ρ1[j]? with
      | none => rw [e] at h; cases h
      | some t => rw [e] at h; cases h
    rw [wipeR_get, if_neg hj]
    exact ⟨h1, rfl⟩⟩
/-- the new list changes -/
theorem SR.updFree {Da : Addr} {o : HO} (S : SR c σ0 G own ρ σ H) (hg : G Da = none) (ho : ¬ ao own Da) : SR c σ0 G own ρ σ (upd H Da o) where
  same := fun b u e => by
    rw [upd_ne (ne_of_none e hg)]
    exact S.same b u e
  out := S.out
  there := fun i b h => by
    have ne : b ≠ Da := fun z => ho (z ▸ ⟨i, h⟩)
    rw [upd_ne ne]
    exact S.there i b h
  dis := S.dis
  len := S.len
  slot := fun i s h => (S.slot i s h).at (Same.refl _) (fun b u p q => by
    have ne : b ≠ Da := fun z => ho (z ▸ ⟨i, p⟩)
    rw [upd_ne ne]
    exact q) fun b p => p
  io := S.io
theorem Tr.updFree {Da : Addr} {o : HO} {ρ0 : Ro} {σ00 : St} {G0 H0 : Hp} {own0 : Own} (t : Tr ρ0 σ00 G0 own0 H0 ρ σ G own H) (hn : H0 Da = none) : Tr ρ0 σ00 G0 own0 H0 ρ σ G own (upd H Da o) :=
  ⟨t.ext, fun b u h n => by rw [upd_ne (ne_of_none h hn)]; exact t.keep b u h n, t.gnew, t.onew, t.lent⟩

theorem tLc_of {f : M Iter} {ts : List Nat} {tgt : Tgt} {cond : M Bool} {elt : M R} {Q : VK} (hts : ∀ i ∈ ts, i ∈ vs)
    (h : tD c σ0 W (eComp f tgt cond elt vs) σ H Q) (hu : Und f) : tLc (tI c σ0 W f) (tG c σ0 ts tgt) (tT c σ0 (fun _ _ _ _ => False) cond) (tD c σ0 (fun _ _ _ _ => False) elt) vs σ H Q := by
  obtain ⟨G, own, ρ, S, q⟩ := h
  refine ⟨G, own, ρ, S, ?_⟩
  unfold eComp M.bind at q
  cases e : f ρ with
  | bad => rw [e] at q; exact q
  | ex x ρ1 =>
    rw [e] at q
    exact q
  | ok it ρ1 =>
    rw [e] at q
    intro G1 own1 H1 J t1 S1 K Da hDa
    unfold compR at q
    dsimp only at q
    by_cases hl : (it.src.all (fun p => isLn ρ1 p.1) && vs.all fun v => !isLn ρ1 v) = true
    · rw [if_pos hl] at q
      obtain ⟨hl1, hl2⟩ := Bool.and_eq_true_iff.mp hl
      have hn : ∀ v ∈ vs, isLn ρ1 v = false := fun v hv => by
        have := List.all_eq_true.mp hl2 v hv
        simpa using this
      cases e2 : it.items ρ1 with
      | none => rw [e2] at q; exact q.elim
      | some ds =>
        rw [e2] at q
        dsimp only at q
        have gDa : G1 Da = none := by
          cases z : G1 Da with
          | none => rfl
          | some o => rw [S1.same Da o z] at hDa; cases hDa
        have oDa : ¬ ao own1 Da := fun ⟨i, z⟩ => by
          obtain ⟨o, w⟩ := S1.there i Da z
          rw [hDa] at w; cases w
        generalize hres : compN tgt cond elt vs ds [] (wipeR ρ1 vs) = res at q
        have Sw : SR c σ0 G1 own1 (wipeR ρ1 vs) (L2.wipe σ vs) H1 := S1.wipe
        refine ⟨fun i m H' => m = ds.length - i ∧ i ≤ ds.length ∧ ∃ G' own' ρ' acc accV, SR c σ0 G' own' (wipeR ρ' vs) (L2.wipe σ vs) H' ∧ ρ'.length = σ.length ∧ Tr (wipeR ρ1 vs) (L2.wipe σ vs) G1 own1 H1 (wipeR ρ' vs) (L2.wipe σ vs) G' own' H' ∧
          H' Da = some (.lst accV) ∧ Reps c G' acc accV ∧ G' Da = none ∧ ¬ ao own' Da ∧ compN tgt cond elt vs (ds.drop i) acc (wipeR ρ' vs) = res, ⟨ds.length, rfl, Nat.zero_le _, G1, own1, ρ1, [], [], Sw.updFree gDa oDa, S1.len, Tr.refl.updFree hDa, upd_same, .nil, gDa, oDa, hres⟩, ?_⟩
        rintro i m H' ⟨rfl, hle, G', own', ρ', acc, accV, S', hlen, t', hD', ra, gD', oD', hr⟩
        have hsrc : ∀ p ∈ it.src, (wipeR ρ' vs)[p.1]? = ρ1[p.1]? ∧ (L2.wipe σ vs)[p.1]? = σ[p.1]? ∧ isLn (wipeR ρ' vs) p.1 = true := fun p hp => by
          obtain ⟨k, o, e⟩ := isLn_get (List.all_eq_true.mp hl1 p hp)
          have hj : p.1 ∉ vs := fun z => by
            have w := hn p.1 z
            unfold isLn at w
            rw [e] at w
            cases w
          have ew : (wipeR ρ1 vs)[p.1]? = some (.ln k o) := by rw [wipeR_get, if_neg hj]; exact e
          obtain ⟨e1, e2⟩ := t'.lent p.1 k o ew
          exact ⟨by rw [e1, e], by rw [wipe_get, if_neg hj], by unfold isLn; rw [e1]⟩
        have hitems : it.items (wipeR ρ' vs) = some ds := by
          rw [K.loc (wipeR ρ' vs) ρ1 fun p hp => (hsrc p hp).1]
          exact e2
        obtain ⟨kstop, kgo⟩ := K.go σ0 G' own' (wipeR ρ' vs) (L2.wipe σ vs) H' ds t'.ext S' (fun p hp => (hsrc p hp).2) hitems
        by_cases hlt : i < ds.length
        · have hd : ds[i]? = some ds[i] := List.getElem?_eq_getElem hlt
          obtain ⟨kg, ky⟩ := kgo i _ hd
          have hdrop : ds.drop i = ds[i] :: ds.drop (i + 1) := List.drop_eq_getElem_cons hlt
          rw [hdrop] at hr
          refine .inr ⟨kg, fun H'' => ∃ G'' own'' ρ'' acc accV, SR c σ0 G'' own'' (wipeR ρ'' vs) (L2.wipe σ vs) H'' ∧ ρ''.length = σ.length ∧ Tr (wipeR ρ1 vs) (L2.wipe σ vs) G1 own1 H1 (wipeR ρ'' vs) (L2.wipe σ vs) G'' own'' H'' ∧
            H'' Da = some (.lst accV) ∧ Reps c G'' acc accV ∧ G'' Da = none ∧ ¬ ao own'' Da ∧ compN tgt cond elt vs (ds.drop (i + 1)) acc (wipeR ρ'' vs) = res, fun H'' z => ⟨ds.length - (i + 1), by omega, rfl, hlt, z⟩, fun x H2 hy => ?_⟩
          obtain ⟨G2, n2, r2⟩ := ky x H2 hy
          have S2 := n2.sr S'
          have t2 := t'.trans (n2.tr (ρ := wipeR ρ' vs) (σ := L2.wipe σ vs) S'.there)
          unfold compN at hr
          cases e1 : tgt ds[i] (wipeR ρ' vs) with
          | none => rw [e1] at hr; rw [← hr] at q; exact q.elim
          | some ρa =>
            rw [e1] at hr
            refine ⟨G2, own', wipeR ρ' vs, ds[i], S2, r2, ρa, e1, fun σ3 own3 off t3 S3 => ?_⟩
            have hw3 : L2.wipe σ3 vs = L2.wipe σ vs := wipe_off off hts
            refine ⟨hw3, G2, own3, ρa, S3, ?_⟩
            have t23 := t2.trans t3
            dsimp only at hr
            have dkeep : ∀ {ρb : Ro} {σb : St} {Gb Hb : Hp} {ownb : Own}, Tr (wipeR ρ' vs) (L2.wipe σ vs) G' own' H' ρb σb Gb ownb Hb → Hb Da = some (.lst accV) ∧ Gb Da = none ∧ ¬ ao ownb Da := fun {ρb σb Gb Hb ownb} t => by
              refine ⟨t.keep Da _ hD' oD', ?_, fun z => ?_⟩
              · cases z : Gb Da with
                | none => rfl
                | some o =>
                  rcases t.gnew Da o z with w | w | w
                  · rw [gD'] at w; cases w
                  · rw [hD'] at w; cases w
                  · exact absurd w oD'
              · rcases t.onew Da z with w | w
                · exact oD' w
                · rw [hD'] at w; cases w
            have tin := (n2.tr (ρ := wipeR ρ' vs) (σ := L2.wipe σ vs) S'.there).trans t3
            cases e3 : cond ρa with
            | bad => rw [e3] at hr; rw [← hr] at q; exact q.elim
            | ex x ρb => rw [e3] at hr; rw [← hr] at q; exact q.elim
            | ok bb ρb =>
              rw [e3] at hr
              intro G4 own4 H4 b4 t4 S4 R4
              cases R4
              have t24 := t23.trans t4
              have tin4 := tin.trans t4
              cases bb with
              | false =>
                obtain ⟨d1, d2, d3⟩ := dkeep tin4
                refine ⟨G4, own4, ρb, acc, accV, ?_, by rw [S4.len, off.1, wipe_length], t24.wipeOut, d1, ra.mono (tin4.ext), d2, d3, hr⟩
                have := S4.wipe (vs := vs)
                rw [hw3] at this
                exact this
              | true =>
                dsimp only at hr
                refine ⟨G4, own4, ρb, S4, ?_⟩
                cases e4 : elt ρb with
                | bad => rw [e4] at hr; rw [← hr] at q; exact q.elim
                | ex x ρc => rw [e4] at hr; rw [← hr] at q; exact q.elim
                | ok r ρc =>
                  rw [e4] at hr
                  dsimp only at hr
                  intro G5 own5 H5 y t5 S5 R5
                  have t25 := t24.trans t5
                  have tin5 := tin4.trans t5
                  obtain ⟨d1, d2, d3⟩ := dkeep tin5
                  cases e5 : escD r with
                  | none => rw [e5] at hr; rw [← hr] at q; exact q.elim
                  | some dx =>
                    rw [e5] at hr
                    dsimp only at hr
                    by_cases hsz : acc.length < sizeLine
                    · rw [if_pos hsz] at hr
                      refine ⟨accV, d1, by rw [← ra.length]; exact hsz, ?_⟩
                      obtain ⟨d4, d5, d6⟩ := dkeep tin4
                      -- the element is frozen
                      have fin : ∀ G6, Same G5 G6 → Tr (wipeR ρ1 vs) (L2.wipe σ vs) G1 own1 H1 ρc σ3 G6 own5 H5 → SR c σ0 G6 own5 ρc σ3 H5 → G6 Da = none → Rep c G6 dx y →
                          ∃ G'' own'' ρ'' acc2 accV2, SR c σ0 G'' own'' (wipeR ρ'' vs) (L2.wipe σ vs) (upd H5 Da (.lst (accV ++ [y]))) ∧ ρ''.length = σ.length ∧ Tr (wipeR ρ1 vs) (L2.wipe σ vs) G1 own1 H1 (wipeR ρ'' vs) (L2.wipe σ vs) G'' own'' (upd H5 Da (.lst (accV ++ [y]))) ∧
                            (upd H5 Da (.lst (accV ++ [y]))) Da = some (.lst accV2) ∧ Reps c G'' acc2 accV2 ∧ G'' Da = none ∧ ¬ ao own'' Da ∧ compN tgt cond elt vs (ds.drop (i + 1)) acc2 (wipeR ρ'' vs) = res := fun G6 s6 t6 S6 g6 r6 => by
                        have Sw6 := S6.wipe (vs := vs)
                        rw [hw3] at Sw6
                        exact ⟨G6, own5, ρc, acc ++ [dx], accV ++ [y], Sw6.updFree g6 d3, by rw [S6.len, off.1, wipe_length], t6.wipeOut.updFree hDa, upd_same, ((ra.mono tin5.ext).mono s6).append (.cons r6 .nil), g6, d3, hr⟩
                      cases r with
                      | sl j => cases e5
                      | val d =>
                        cases e5
                        exact fin G5 (Same.refl _) t25 S5 d2 R5
                      | nw o =>
                        cases e5
                        obtain ⟨P, ow, k⟩ := R5
                        have nP : ¬ P Da := fun p => by
                          rcases (k Da p).2.2.2 with w | w
                          · rw [d4] at w; cases w
                          · exact d6 w
                        refine fin (frzG G5 H5 P) (frz_same fun b p => (k b p).1) (frz_tr t25 fun b p => ⟨(k b p).1, t24.back (k b p).2.2.2⟩) (S5.frz fun b p => ⟨(k b p).1, (k b p).2.1⟩) (by rw [frz_ne nP]; exact d2) (ow.frz fun b p => (k b p).1)
                    · rw [if_neg hsz] at hr
                      rw [← hr] at q
                      exact q.elim
        · have ed : ds.drop i = [] := List.drop_eq_nil_of_le (by omega)
          rw [ed] at hr
          have hr : Res.ok acc (wipeR ρ' vs) = res := hr
          rw [← hr] at q
          have ei : i = ds.length := by omega
          rw [ei]
          refine .inl ⟨kstop, ?_⟩
          have Su := S'.unwipe hlen
          have tu : Tr ρ σ G own H (wipeR ρ' vs) σ G' own' H' := t1.trans ⟨t'.ext, t'.keep, t'.gnew, t'.onew, fun j k o h => by
            obtain ⟨h1, h2⟩ := (Tr.wipeIn (σ := σ) (G := G1) (own := own1) (H := H1) hn).lent j k o h
            obtain ⟨h3, _⟩ := t'.lent j k o h1
            exact ⟨h3, rfl⟩⟩
          obtain ⟨S2, t2⟩ := SR.undoR (G1 := G') it.src (hu ρ it ρ1 e) Su tu
          exact q G' own' H' (.ref Da) t2 S2 ⟨fun b => b = Da, ⟨Da, accV, rfl, rfl, hD', ra⟩, fun b hb => by
            subst hb
            exact ⟨gD', oD', ⟨_, hD'⟩, t1.back (.inl hDa)⟩⟩
    · rw [if_neg hl] at q
      exact q.elim
end
section
variable {X : Cx} {c : Cn} {σ0 : St} {W : WX}
/-- [elt for target in iter if ..], as a value -/
theorem de_comp {elt tg iter : Expr} {ifs : List Expr} {scope : Scope} {own : List (Str × Nat)} {pos : Pos} {f : M Iter} {ts : List Nat} {tgt : Tgt} {cond : M Bool} {fe : M R} (hc : X.calm = true) (hN : X.N.Nodup) (hi : PI X tg iter (tI c σ0 W f)) (ok : BlkOk X.N X.env.scope scope own) (hu : Und f) (hts : ∀ i ∈ ts, i ∈ own.map (·.2))
    (hg : ∀ (s : Shared) (H : Hp) (C : Addr) (cl : List (Str × Addr)) (fp : List Addr), PG (X.blk s H scope (compEnvC scope cl C X.env) fp) tg (tG c σ0 ts tgt)) (ht : ∀ (s : Shared) (H : Hp) (C : Addr) (cl : List (Str × Addr)) (fp : List Addr), PTs (X.blk s H scope (compEnvC scope cl C X.env) fp) ifs (tT c σ0 (fun _ _ _ _ => False) cond))
    (he : ∀ (s : Shared) (H : Hp) (C : Addr) (cl : List (Str × Addr)) (fp : List Addr), PE (X.blk s H scope (compEnvC scope cl C X.env) fp) elt (tD c σ0 (fun _ _ _ _ => False) fe)) (hs : ∀ x, foldedSetIterable iter X.env x = pure x := by intro _; rfl) :
    PE X (.ListComp elt [⟨tg, iter, ifs, 0⟩] scope pos) (tD c σ0 W (eComp f tgt cond fe (own.map (·.2)))) :=
  PE.imp (pe_lc hc hN hi ok hg ht he hs) fun σ H Q q => tLc_of hts q hu
/-- name = [..] on one line -/
theorem ds_setComp {i : Nat} {y : Str} {py : Pos} {elt tg iter : Expr} {ifs : List Expr} {scope : Scope} {own : List (Str × Nat)} {pos spos : Pos} {f : M Iter} {ts : List Nat} {tgt : Tgt} {cond : M Bool} {fe : M R} (hc : X.calm = true) (hN : X.N.Nodup) (hy : X.N[i]? = some y) (hyl : X.env.scope.names.lookup y = some .local)
    (hsw : swapsWith (.ListComp elt [⟨tg, iter, ifs, 0⟩] scope pos) (some (.Name y py)) spos.line X.env = pure true) (hi : PI X tg iter (tI c σ0 W f)) (ok : BlkOk X.N X.env.scope scope own) (hu : Und f) (hts : ∀ i ∈ ts, i ∈ own.map (·.2))
    (hg : ∀ (s : Shared) (H : Hp) (C : Addr) (cl : List (Str × Addr)) (fp : List Addr), PG (X.blk s H scope (compEnvC scope cl C X.env) fp) tg (tG c σ0 ts tgt)) (ht : ∀ (s : Shared) (H : Hp) (C : Addr) (cl : List (Str × Addr)) (fp : List Addr), PTs (X.blk s H scope (compEnvC scope cl C X.env) fp) ifs (tT c σ0 (fun _ _ _ _ => False) cond))
    (he : ∀ (s : Shared) (H : Hp) (C : Addr) (cl : List (Str × Addr)) (fp : List Addr), PE (X.blk s H scope (compEnvC scope cl C X.env) fp) elt (tD c σ0 (fun _ _ _ _ => False) fe)) (hs : ∀ x, foldedSetIterable iter X.env x = pure x := by intro _; rfl) :
    PS X (.Assign [.Name y py] (.ListComp elt [⟨tg, iter, ifs, 0⟩] scope pos) spos) (tS c σ0 W (sAsg i (eComp f tgt cond fe (own.map (·.2))))) :=
  ds_asg (PS.imp (ps_setLc hc hN hy hyl hsw hi ok hg ht he hs) fun E σ H q => tLc_of hts q hu)
theorem dts_nil : PTs X [] (tT c σ0 W eYes) := ⟨fun pins s σ H Q I q => pts_nil.run pins s σ H Q I (by
  obtain ⟨G, own, ρ, S, q⟩ := q
  exact q G own H true Tr.refl S rfl)⟩
theorem dts_one {x : Expr} {t : M Bool} (h : PT X x (tT c σ0 W t)) : PTs X [x] (tT c σ0 W t) := pts_one h
end
end DL

/-! DLk: the operations. -/
namespace DL
open PySem PySem.Spec PyProof.Rows L2

/-! ### data -/
mutual
def D.py : D → PyData
  | .non => .none
  | .bl b => .bool b
  | .int i => .int i
  | .str x => .str x
  | .tup ds => .tuple (D.pys ds)
  | .lst ds => .list (D.pys ds)
  | _ => .none
def D.pys : List D → List PyData
  | [] => []
  | d :: ds => D.py d :: D.pys ds
end
mutual
def D.data : D → Bool
  | .tup ds => D.datas ds
  | .lst ds => D.datas ds
  | .dct _ => false
  | .ins _ _ => false
  | .scr _ => false
  | _ => true
def D.datas : List D → Bool
  | [] => true
  | d :: ds => D.data d && D.datas ds
end
def pyOk (d : D) : Bool := d.data && SeqAt.shaped d.py
section
variable {c : Cn} {G H : Hp}
mutual
theorem Rep.dp (s : Same G H) : ∀ (d : D) (v : V), Rep c G d v → d.data = true → Dp c.K H v d.py
  | .non, _, h, _ => by cases h; exact .non
  | .bl _, _, h, _ => by cases h; exact .bl _
  | .int _, _, h, _ => by cases h; exact .int _
  | .str _, _, h, _ => by cases h; exact .str _
  | .tup ds, _, h, e => by
    cases h with
    | tup hs r => exact .tup (sqT_same s hs) (Reps.dps s ds _ r e)
  | .lst ds, _, h, e => by
    cases h with
    | lst hs r => exact .lst (.inl (.inl (s _ _ hs))) (Reps.dps s ds _ r e)
  | .dct _, _, _, e => by cases e
  | .ins _ _, _, _, e => by cases e
  | .scr _, _, _, e => by cases e
theorem Reps.dps (s : Same G H) : ∀ (ds : List D) (vs : List V), Reps c G ds vs → D.datas ds = true → DpAll c.K H vs (D.pys ds)
  | [], _, h, _ => by cases h; exact .nil
  | d :: ds, _, h, e => by
    cases h with
    | cons h r =>
      obtain ⟨e1, e2⟩ := Bool.and_eq_true_iff.mp e
      exact .cons (Rep.dp s d _ h e1) (Reps.dps s ds _ r e2)
end
theorem RepR.dp (s : Same G H) {d : D} {v : V} (h : RepR c G H d v) (e : d.data = true) : Dp c.K H v d.py := by
  cases d with
  | non => cases h; exact .non
  | bl b => cases h; exact .bl b
  | int i => cases h; exact .int i
  | str x => cases h; exact .str x
  | tup ds =>
    obtain ⟨a, vs, rfl, hs, r⟩ := h
    exact .tup (sqT_same s hs) (Reps.dps s ds _ r e)
  | lst ds =>
    obtain ⟨a, vs, rfl, hs, r⟩ := h
    exact .lst (.inl (.inl hs)) (Reps.dps s ds _ r e)
  | dct _ => cases e
  | ins _ _ => cases e
  | scr _ => cases e
end

/-! ### the plain functions -/
def vI (i : Int) : Option R := some (.val (.int i))
def vB (b : Bool) : Option R := some (.val (.bl b))
def vS (x : Str) : Option R := some (.val (.str x))
def opAdd : D → D → Option R
  | .int i, .int j => vI (i + j)
  | .str x, .str y => if x.length + y.length ≤ sizeLine then vS (x ++ y) else none
  | .lst ds, .lst es => if ds.length + es.length ≤ sizeLine then some (.nw (.lst (ds ++ es))) else none
  | .tup ds, .tup es => if ds.length + es.length ≤ sizeLine then some (.val (.tup (ds ++ es))) else none
  | _, _ => none
def opSub : D → D → Option R
  | .int i, .int j => vI (i - j)
  | _, _ => none
def mulOk (i j : Int) : Bool := (decide (-(2 ^ 64) < i) && decide (i < 2 ^ 64)) || (decide (-(2 ^ 64) < j) && decide (j < 2 ^ 64))
def repS (x : Str) (k : Nat) : Str := ⟨(List.replicate k x.cps.toList).flatten.toArray⟩
def opMul : D → D → Option R
  | .int i, .int j => if mulOk i j = true then vI (i * j) else none
  | .lst ds, .int k => if (decide (-(2 ^ 63) ≤ k) && decide (k < 2 ^ 63) && decide (ds.length * k.toNat ≤ sizeLine)) = true then some (.nw (.lst (List.replicate k.toNat ds).flatten)) else none
  | _, _ => none
def opMod : D → D → Option R
  | .int i, .int j => if 0 < j then vI (i % j) else none
  | _, _ => none
def opFdiv : D → D → Option R
  | .int i, .int j => if (decide (0 < j) && decide (j.natAbs.log2 < 9000)) = true then vI (i / j) else none
  | _, _ => none
def opPow : D → D → Option R
  | .int i, .int j => if (decide (0 ≤ j) && decide ((Builtin.Int.intBits i : Int) * j ≤ 2 ^ 27)) = true then vI (i ^ j.toNat) else none
  | _, _ => none
def opLt : D → D → Option R
  | .int i, .int j => vB (decide (i < j))
  | .str x, .str y => vB (decide (x.cps.toList < y.cps.toList))
  | _, _ => none
def opLe : D → D → Option R
  | .int i, .int j => vB (decide (i ≤ j))
  | _, _ => none
def opGt : D → D → Option R
  | .int i, .int j => vB (decide (j < i))
  | _, _ => none
def opGe : D → D → Option R
  | .int i, .int j => vB (decide (j ≤ i))
  | _, _ => none
def opEq (d e : D) : Option R := if (pyOk d && pyOk e) = true then vB (PyData.eqv d.py e.py) else none
def opNe (d e : D) : Option R := if (pyOk d && pyOk e) = true then vB (!PyData.eqv d.py e.py) else none
def opIs : D → D → Option R
  | .bl a, .bl b => vB (decide (a = b))
  | .non, .non => vB true
  | .bl _, .non => vB false
  | .int _, .non => vB false
  | .str _, .non => vB false
  | .tup _, .non => vB false
  | .lst _, .non => vB false
  | .ins _ _, .non => vB false
  | _, _ => none
def opIsNot : D → D → Option R
  | .bl a, .bl b => vB (!decide (a = b))
  | .non, .non => vB false
  | .bl _, .non => vB true
  | .int _, .non => vB true
  | .str _, .non => vB true
  | .tup _, .non => vB true
  | .lst _, .non => vB true
  | .ins _ _, .non => vB true
  | _, _ => none
def occB (x y : Str) : Bool := !(Builtin.Str.occurrences y x 0 y.length 1).isEmpty
def flatD : D → Bool
  | .non => true
  | .bl _ => true
  | .int _ => true
  | .str _ => true
  | _ => false
def eqF (y x : D) : Bool := PyData.eqv y.py x.py
def keyD : D → Option Key
  | .int i => some (.inl i)
  | .str x => some (.inr x)
  | _ => none
def inB : D → D → Option Bool
  | .str x, .str y => some (occB x y)
  | d, .lst ds => if (pyOk d && pyOk (.lst ds)) = true then some (ds.any fun z => eqF z d) else none
  | d, .tup ds => if (flatD d && ds.all flatD) = true then some (ds.any fun z => eqF z d) else none
  | d, .dct kvs => (keyD d).map fun k => kvs.any fun p => decide (p.1 = k)
  | _, _ => none
def opIn (d e : D) : Option R := (inB d e).bind vB
def opNotIn (d e : D) : Option R := (inB d e).bind fun b => vB (!b)
def opNeg : D → Option R
  | .int i => vI (-i)
  | _ => none
def lenD : D → Option Nat
  | .str x => if x.length ≤ sizeLine then some x.length else none
  | .lst ds => some ds.length
  | .tup ds => some ds.length
  | .scr ns => some ns.length
  | _ => none
def cLen : List D → Option R
  | [d] => (lenD d).bind fun n => vI (n : Int)
  | _ => none
def cInt : List D → Option R
  | [.int i] => vI i
  | [.bl k] => vI (if k then 1 else 0)
  | _ => none
def cAbs : List D → Option R
  | [.int i] => vI (if i < 0 then -i else i)
  | _ => none
def cStr : List D → Option R
  | [.int i] => if i.natAbs.log2 < 1920 then vS (toString i) else none
  | _ => none
def cList : List D → Option R
  | [.lst ds] => some (.nw (.lst ds))
  | [.tup ds] => some (.nw (.lst ds))
  | _ => none
def cTuple : List D → Option R
  | [.lst ds] => some (.val (.tup ds))
  | [.tup ds] => some (.val (.tup ds))
  | _ => none
def boolsD : List D → Option (List Bool)
  | [] => some []
  | .bl b :: ds => (boolsD ds).map (b :: ·)
  | _ :: _ => none
def intsD : List D → Option (List Int)
  | [] => some []
  | .int b :: ds => (intsD ds).map (b :: ·)
  | _ :: _ => none
def strsD : List D → Option (List Str)
  | [] => some []
  | .str b :: ds => (strsD ds).map (b :: ·)
  | _ :: _ => none
def cAll : List D → Option R
  | [.lst ds] => (boolsD ds).bind fun bs => vB (bs.all id)
  | _ => none
def cAny : List D → Option R
  | [.lst ds] => (boolsD ds).bind fun bs => vB (bs.any id)
  | _ => none
def cSum : List D → Option R
  | [.lst ds] => (intsD ds).bind fun bs => vI bs.sum
  | _ => none

section
variable {X : Cx} {c : Cn} {G H : Hp}
theorem RO.nwl {vs : List V} {ds : List D} {p : Addr} (r : Reps c G ds vs) (s : Same G H) (hp : H p = none) : New G H G (upd H p (.lst vs)) ∧ RO c G (upd H p (.lst vs)) H (.nw (.lst ds)) (.ref p) := by
  have gp : G p = none := by
    cases e : G p with
    | none => rfl
    | some o => rw [s p o e] at hp; cases hp
  refine ⟨⟨fun b o e => by rw [upd_ne (ne_of_none e hp)]; exact e, Same.refl _, fun b o e => by rw [upd_ne (ne_of_none e gp)]; exact s b o e, fun b o e => .inl e⟩, fun b => b = p, ⟨p, vs, rfl, rfl, upd_same, r⟩, fun b hb => ?_⟩
  subst hb
  exact ⟨gp, ⟨_, upd_same⟩, hp⟩
theorem RO.nwt {vs : List V} {ds : List D} {p : Addr} (r : Reps c G ds vs) (s : Same G H) (hp : H p = none) : ∃ G', New G H G' (upd H p (.tup vs)) ∧ RO c G' (upd H p (.tup vs)) H (.val (.tup ds)) (.ref p) := by
  have gp : G p = none := by
    cases e : G p with
    | none => rfl
    | some o => rw [s p o e] at hp; cases hp
  have s1 : Same G (upd G p (.tup vs)) := fun b o e => by rw [upd_ne (ne_of_none e gp)]; exact e
  refine ⟨upd G p (.tup vs), ⟨fun b o e => by rw [upd_ne (ne_of_none e hp)]; exact e, s1, fun b o e => ?_, fun b o e => ?_⟩, .tup (SqT.of upd_same) (r.mono s1)⟩
  · by_cases z : b = p
    · subst z; rw [upd_same] at e ⊢; exact e
    · rw [upd_ne z] at e ⊢; exact s b o e
  · by_cases z : b = p
    · subst z; exact .inr hp
    · rw [upd_ne z] at e; exact .inl e
/-- a value that is read stands still -/
theorem RO.same {d : D} {v : V} (h : Rep c G d v) (s : Same G H) : New G H G H ∧ RO c G H H (.val d) v := ⟨New.refl s, h⟩

theorem o_add (hK : c.K = X.K) : OpR X (binaryOp .Add) (rD c opAdd) := by
  intro pins s σ H x y v u Q I rx ry ⟨G, d, e, r, sg, hd, he, ho, k⟩
  cases d with
  | int i =>
    cases e with
    | int j =>
      cases ho; cases hd; cases he
      exact op_add pins s σ H _ _ v u Q I rx ry ⟨i, j, rfl, rfl, k G H _ (New.refl sg) (Rep.int _)⟩
    | _ => cases ho
  | str a =>
    cases e with
    | str b =>
      have ho : (if a.length + b.length ≤ sizeLine then vS (a ++ b) else none) = some r := ho
      by_cases hl : a.length + b.length ≤ sizeLine
      · rw [if_pos hl] at ho
        cases ho; cases hd; cases he
        exact op_add_str pins s σ H _ _ v u Q I rx ry ⟨a, b, rfl, rfl, hl, k G H _ (New.refl sg) (Rep.str _)⟩
      · rw [if_neg hl] at ho; cases ho
    | _ => cases ho
  | lst ds =>
    cases e with
    | lst es =>
      have ho : (if ds.length + es.length ≤ sizeLine then some (R.nw (.lst (ds ++ es))) else none) = some r := ho
      by_cases hl : ds.length + es.length ≤ sizeLine
      · rw [if_pos hl] at ho
        cases ho
        obtain ⟨a, vs, rfl, h1, r1⟩ := hd
        obtain ⟨b, ws, rfl, h2, r2⟩ := he
        refine op_cat pins s σ H _ _ v u Q I rx ry ⟨a, b, vs, ws, rfl, rfl, h1, h2, by rw [← r1.length, ← r2.length]; exact hl, fun p hp => ?_⟩
        obtain ⟨n, o⟩ := RO.nwl (r1.append r2) sg hp
        exact k G _ _ n o
      · rw [if_neg hl] at ho; cases ho
    | _ => cases ho
  | tup ds =>
    cases e with
    | tup es =>
      have ho : (if ds.length + es.length ≤ sizeLine then some (R.val (.tup (ds ++ es))) else none) = some r := ho
      by_cases hl : ds.length + es.length ≤ sizeLine
      · rw [if_pos hl] at ho
        cases ho
        obtain ⟨a, vs, rfl, h1, r1⟩ := hd
        obtain ⟨b, ws, rfl, h2, r2⟩ := he
        have h1' := sqT_same sg h1
        have h2' := sqT_same sg h2
        rw [hK] at h1' h2'
        refine op_catA pins s σ H _ _ v u Q I rx ry ⟨a, b, vs, ws, rfl, rfl, h1', h2', by rw [← r1.length, ← r2.length]; exact hl, fun z => ?_, fun _ z => ?_, fun _ _ p hp => ?_⟩
        · subst z
          cases r1
          exact k G H _ (New.refl sg) (Rep.tup h2 r2)
        · subst z
          cases r2
          refine k G H _ (New.refl sg) ?_
          show Rep c G (.tup (ds ++ [])) _
          rw [List.append_nil]
          exact Rep.tup h1 r1
        · obtain ⟨G', n, o⟩ := RO.nwt (r1.append r2) sg hp
          exact k G' _ _ n o
      · rw [if_neg hl] at ho; cases ho
    | _ => cases ho
  | _ => cases ho
theorem o_sub : OpR X (binaryOp .Sub) (rD c opSub) := by
  intro pins s σ H x y v u Q I rx ry ⟨G, d, e, r, sg, hd, he, ho, k⟩
  cases d with
  | int i =>
    cases e with
    | int j =>
      cases ho; cases hd; cases he
      exact op_sub pins s σ H _ _ v u Q I rx ry ⟨i, j, rfl, rfl, k G H _ (New.refl sg) (Rep.int _)⟩
    | _ => cases ho
  | _ => cases ho
theorem mulOk_of {i j : Int} (h : mulOk i j = true) : CMul i j := by
  unfold mulOk at h
  rcases Bool.or_eq_true_iff.mp h with h | h
  · exact .inl (by simpa using h)
  · exact .inr (by simpa using h)
theorem o_mul : OpR X (binaryOp .Mult) (rD c opMul) := by
  intro pins s σ H x y v u Q I rx ry ⟨G, d, e, r, sg, hd, he, ho, k⟩
  cases d with
  | int i =>
    cases e with
    | int j =>
      have ho : (if mulOk i j = true then vI (i * j) else none) = some r := ho
      by_cases hm : mulOk i j = true
      · rw [if_pos hm] at ho
        cases ho; cases hd; cases he
        exact op_mul pins s σ H _ _ v u Q I rx ry ⟨i, j, rfl, rfl, mulOk_of hm, k G H _ (New.refl sg) (Rep.int _)⟩
      · rw [if_neg hm] at ho; cases ho
    | _ => cases ho
  | lst ds =>
    cases e with
    | int j =>
      have ho : (if (decide (-(2 ^ 63) ≤ j) && decide (j < 2 ^ 63) && decide (ds.length * j.toNat ≤ sizeLine)) = true then some (R.nw (.lst (List.replicate j.toNat ds).flatten)) else none) = some r := ho
      by_cases hm : (decide (-(2 ^ 63) ≤ j) && decide (j < 2 ^ 63) && decide (ds.length * j.toNat ≤ sizeLine)) = true
      · rw [if_pos hm] at ho
        cases ho; cases he
        obtain ⟨a, vs, rfl, h1, r1⟩ := hd
        simp only [Bool.and_eq_true, decide_eq_true_eq] at hm
        refine op_rep pins s σ H _ _ v u Q I rx ry ⟨a, j, vs, rfl, rfl, h1, hm.1.1, hm.1.2, by rw [← r1.length]; exact hm.2, fun p hp => ?_⟩
        have rep : ∀ n : Nat, Reps c G (List.replicate n ds).flatten (List.replicate n vs).flatten := fun n => by
          induction n with
          | zero => exact .nil
          | succ n ih =>
            rw [List.replicate_succ, List.replicate_succ, List.flatten_cons, List.flatten_cons]
            exact r1.append ih
        obtain ⟨n, o⟩ := RO.nwl (rep j.toNat) sg hp
        exact k G _ _ n o
      · rw [if_neg hm] at ho; cases ho
    | _ => cases ho
  | _ => cases ho
theorem o_mod : OpR X (binaryOp .Mod) (rD c opMod) := by
  intro pins s σ H x y v u Q I rx ry ⟨G, d, e, r, sg, hd, he, ho, k⟩
  cases d with
  | int i =>
    cases e with
    | int j =>
      have ho : (if 0 < j then vI (i % j) else none) = some r := ho
      by_cases hm : 0 < j
      · rw [if_pos hm] at ho
        cases ho; cases hd; cases he
        exact op_mod pins s σ H _ _ v u Q I rx ry ⟨i, j, rfl, rfl, hm, k G H _ (New.refl sg) (Rep.int _)⟩
      · rw [if_neg hm] at ho; cases ho
    | _ => cases ho
  | _ => cases ho
theorem o_fdiv : OpR X (binaryOp .FloorDiv) (rD c opFdiv) := by
  intro pins s σ H x y v u Q I rx ry ⟨G, d, e, r, sg, hd, he, ho, k⟩
  cases d with
  | int i =>
    cases e with
    | int j =>
      have ho : (if (decide (0 < j) && decide (j.natAbs.log2 < 9000)) = true then vI (i / j) else none) = some r := ho
      by_cases hm : (decide (0 < j) && decide (j.natAbs.log2 < 9000)) = true
      · rw [if_pos hm] at ho
        cases ho; cases hd; cases he
        simp only [Bool.and_eq_true, decide_eq_true_eq] at hm
        exact op_fdivW pins s σ H _ _ v u Q I rx ry ⟨i, j, rfl, rfl, hm, k G H _ (New.refl sg) (Rep.int _)⟩
      · rw [if_neg hm] at ho; cases ho
    | _ => cases ho
  | _ => cases ho
theorem o_pow : OpR X (binaryOp .Pow) (rD c opPow) := by
  intro pins s σ H x y v u Q I rx ry ⟨G, d, e, r, sg, hd, he, ho, k⟩
  cases d with
  | int i =>
    cases e with
    | int j =>
      have ho : (if (decide (0 ≤ j) && decide ((Builtin.Int.intBits i : Int) * j ≤ 2 ^ 27)) = true then vI (i ^ j.toNat) else none) = some r := ho
      by_cases hm : (decide (0 ≤ j) && decide ((Builtin.Int.intBits i : Int) * j ≤ 2 ^ 27)) = true
      · rw [if_pos hm] at ho
        cases ho; cases hd; cases he
        simp only [Bool.and_eq_true, decide_eq_true_eq] at hm
        obtain ⟨t, rfl⟩ := rx
        obtain ⟨t', rfl⟩ := ry
        exact pow_int hm.1 hm.2 ⟨.int _, H, I.tok _, ⟨_, rfl⟩, k G H _ (New.refl sg) (Rep.int _)⟩
      · rw [if_neg hm] at ho; cases ho
    | _ => cases ho
  | _ => cases ho
theorem o_lt : OpR X (compareOp .Lt) (rD c opLt) := by
  intro pins s σ H x y v u Q I rx ry ⟨G, d, e, r, sg, hd, he, ho, k⟩
  cases d with
  | int i =>
    cases e with
    | int j =>
      cases ho; cases hd; cases he
      exact op_lt pins s σ H _ _ v u Q I rx ry ⟨i, j, rfl, rfl, k G H _ (New.refl sg) (Rep.bl _)⟩
    | _ => cases ho
  | str i =>
    cases e with
    | str j =>
      cases ho; cases hd; cases he
      exact op_lt_str pins s σ H _ _ v u Q I rx ry ⟨i, j, rfl, rfl, k G H _ (New.refl sg) (Rep.bl _)⟩
    | _ => cases ho
  | _ => cases ho
theorem o_le : OpR X (compareOp .LtE) (rD c opLe) := by
  intro pins s σ H x y v u Q I rx ry ⟨G, d, e, r, sg, hd, he, ho, k⟩
  cases d with
  | int i =>
    cases e with
    | int j =>
      cases ho; cases hd; cases he
      exact op_le pins s σ H _ _ v u Q I rx ry ⟨i, j, rfl, rfl, k G H _ (New.refl sg) (Rep.bl _)⟩
    | _ => cases ho
  | _ => cases ho
theorem o_gt : OpR X (compareOp .Gt) (rD c opGt) := by
  intro pins s σ H x y v u Q I rx ry ⟨G, d, e, r, sg, hd, he, ho, k⟩
  cases d with
  | int i =>
    cases e with
    | int j =>
      cases ho; cases hd; cases he
      exact op_gt pins s σ H _ _ v u Q I rx ry ⟨i, j, rfl, rfl, k G H _ (New.refl sg) (Rep.bl _)⟩
    | _ => cases ho
  | _ => cases ho
theorem o_ge : OpR X (compareOp .GtE) (rD c opGe) := by
  intro pins s σ H x y v u Q I rx ry ⟨G, d, e, r, sg, hd, he, ho, k⟩
  cases d with
  | int i =>
    cases e with
    | int j =>
      cases ho; cases hd; cases he
      exact op_ge pins s σ H _ _ v u Q I rx ry ⟨i, j, rfl, rfl, k G H _ (New.refl sg) (Rep.bl _)⟩
    | _ => cases ho
  | _ => cases ho
theorem pyOk_of {d : D} (h : pyOk d = true) : d.data = true ∧ SeqAt.shaped d.py = true := Bool.and_eq_true_iff.mp h
theorem o_eq (hK : c.K = X.K) (hu : X.A.units + 64 < cLine) : OpR X (compareOp .Eq) (rD c opEq) := by
  intro pins s σ H x y v u Q I rx ry ⟨G, d, e, r, sg, hd, he, ho, k⟩
  unfold opEq at ho
  by_cases hm : (pyOk d && pyOk e) = true
  · rw [if_pos hm] at ho
    cases ho
    obtain ⟨h1, h2⟩ := Bool.and_eq_true_iff.mp hm
    have d1 := hd.dp sg (pyOk_of h1).1
    have d2 := he.dp sg (pyOk_of h2).1
    rw [hK] at d1 d2
    exact op_eqD hu pins s σ H _ _ v u Q I rx ry ⟨_, _, d1, d2, (pyOk_of h1).2, (pyOk_of h2).2, k G H _ (New.refl sg) (Rep.bl _)⟩
  · rw [if_neg hm] at ho; cases ho
theorem o_ne (hK : c.K = X.K) (hu : X.A.units + 64 < cLine) : OpR X (compareOp .NotEq) (rD c opNe) := by
  intro pins s σ H x y v u Q I rx ry ⟨G, d, e, r, sg, hd, he, ho, k⟩
  unfold opNe at ho
  by_cases hm : (pyOk d && pyOk e) = true
  · rw [if_pos hm] at ho
    cases ho
    obtain ⟨h1, h2⟩ := Bool.and_eq_true_iff.mp hm
    have d1 := hd.dp sg (pyOk_of h1).1
    have d2 := he.dp sg (pyOk_of h2).1
    rw [hK] at d1 d2
    exact op_neD hu pins s σ H _ _ v u Q I rx ry ⟨_, _, d1, d2, (pyOk_of h1).2, (pyOk_of h2).2, k G H _ (New.refl sg) (Rep.bl _)⟩
  · rw [if_neg hm] at ho; cases ho
theorem o_is : OpR X (compareOp .Is) (rD c opIs) := by
  intro pins s σ H x y v u Q I rx ry ⟨G, d, e, r, sg, hd, he, ho, k⟩
  have isn : ∀ {b : Bool}, r = .val (.bl b) → y = .non → decide (x = .non) = b → wpAny (model X.prog X.w) X.A (compareOp .Is v u) (EP X pins σ Q) X.xe s := fun {b} hr hy hx => by
    subst hr
    exact op_isN pins s σ H _ _ v u Q I rx ry ⟨hy, by rw [hx]; exact k G H _ (New.refl sg) (Rep.bl _)⟩
  cases d with
  | bl a =>
    cases e with
    | bl b =>
      cases ho; cases hd; cases he
      exact op_is_bl pins s σ H _ _ v u Q I rx ry ⟨a, b, rfl, rfl, k G H _ (New.refl sg) (Rep.bl _)⟩
    | non => cases ho; cases hd; exact isn rfl he (by simp)
    | _ => cases ho
  | non =>
    cases e with
    | non => cases ho; cases hd; exact isn rfl he (by simp)
    | _ => cases ho
  | int a =>
    cases e with
    | non => cases ho; cases hd; exact isn rfl he (by simp)
    | _ => cases ho
  | str a =>
    cases e with
    | non => cases ho; cases hd; exact isn rfl he (by simp)
    | _ => cases ho
  | tup ds =>
    cases e with
    | non => cases ho; obtain ⟨_, _, rfl, _⟩ := hd; exact isn rfl he (by simp)
    | _ => cases ho
  | lst ds =>
    cases e with
    | non => cases ho; obtain ⟨_, _, rfl, _⟩ := hd; exact isn rfl he (by simp)
    | _ => cases ho
  | ins n fs =>
    cases e with
    | non => cases ho; obtain ⟨_, _, _, _, rfl, _⟩ := hd; exact isn rfl he (by simp)
    | _ => cases ho
  | _ => cases ho
theorem o_isnot : OpR X (compareOp .IsNot) (rD c opIsNot) := by
  intro pins s σ H x y v u Q I rx ry ⟨G, d, e, r, sg, hd, he, ho, k⟩
  have isn : ∀ {b : Bool}, r = .val (.bl b) → y = .non → (!decide (x = .non)) = b → wpAny (model X.prog X.w) X.A (compareOp .IsNot v u) (EP X pins σ Q) X.xe s := fun {b} hr hy hx => by
    subst hr
    exact op_notN pins s σ H _ _ v u Q I rx ry ⟨hy, by rw [hx]; exact k G H _ (New.refl sg) (Rep.bl _)⟩
  cases d with
  | bl a =>
    cases e with
    | bl b =>
      cases ho; cases hd; cases he
      exact op_isnot_bl pins s σ H _ _ v u Q I rx ry ⟨a, b, rfl, rfl, k G H _ (New.refl sg) (Rep.bl _)⟩
    | non => cases ho; cases hd; exact isn rfl he (by simp)
    | _ => cases ho
  | non =>
    cases e with
    | non => cases ho; cases hd; exact isn rfl he (by simp)
    | _ => cases ho
  | int a =>
    cases e with
    | non => cases ho; cases hd; exact isn rfl he (by simp)
    | _ => cases ho
  | str a =>
    cases e with
    | non => cases ho; cases hd; exact isn rfl he (by simp)
    | _ => cases ho
  | tup ds =>
    cases e with
    | non => cases ho; obtain ⟨_, _, rfl, _⟩ := hd; exact isn rfl he (by simp)
    | _ => cases ho
  | lst ds =>
    cases e with
    | non => cases ho; obtain ⟨_, _, rfl, _⟩ := hd; exact isn rfl he (by simp)
    | _ => cases ho
  | ins n fs =>
    cases e with
    | non => cases ho; obtain ⟨_, _, _, _, rfl, _⟩ := hd; exact isn rfl he (by simp)
    | _ => cases ho
  | _ => cases ho
theorem o_neg : UnR X (unaryOp .USub) (rD1 c opNeg) := by
  intro pins s σ H x v Q I rx ⟨G, d, r, sg, hd, ho, k⟩
  cases d with
  | int i =>
    cases ho; cases hd
    exact un_neg pins s σ H _ v Q I rx ⟨i, rfl, k G H _ (New.refl sg) (Rep.int _)⟩
  | _ => cases ho
end
end DL

/-! DLl: freezing, displays, chains, in. -/
namespace DL
open PySem PySem.Spec PyProof.Rows L2

def frzR (r : R) : M R := fun ρ => match r with
  | .val d => .ok (.val d) ρ
  | .nw o => .ok (.val o.toD) ρ
  | .sl j => match ρ[j]? with
    | some (.ow false o) => .ok (.val o.toD) (ρ.set j (.fz o.toD))
    | _ => .bad
/-- the value is frozen: it may stand in a list from now on -/
def eFz (f : M R) : M R := f.bind frzR
def valsR : List R → Option (List D)
  | [] => some []
  | .val d :: rs => (valsR rs).map (d :: ·)
  | _ :: _ => none
def tupR (rs : List R) : M R := fun ρ => match valsR rs with
  | some ds => if ds.length ≤ sizeLine then .ok (.val (.tup ds)) ρ else .bad
  | none => .bad
def lstR (rs : List R) : M R := fun ρ => match valsR rs with
  | some ds => if ds.length ≤ sizeLine then .ok (.nw (.lst ds)) ρ else .bad
  | none => .bad
def eTup (f : M (List R)) : M R := f.bind tupR
def eLst (f : M (List R)) : M R := f.bind lstR
def chainK (op' : D → D → Option R) (b : R) (fc : M R) (r : R) : M R := match r with
  | .val (.bl true) => fc.bind fun c => opE op' b c
  | .val (.bl false) => M.ret (.val (.bl false))
  | _ => fun _ => .bad
def eChain (op op' : D → D → Option R) (fa fb fc : M R) : M R := fa.bind fun a => fb.bind fun b => (opE op a b).bind (chainK op' b fc)

section
variable {X : Cx} {c : Cn} {σ0 : St} {W : WX} {σ : St} {ρ : Ro} {G H : Hp} {own : Own} {a b e : Expr} {es : List Expr} {pos : Pos} {f g fa fb fc : M R} {op op' : D → D → Option R}

/-- a slot's object goes into the frozen part -/
theorem SR.freeze {j : Nat} {o : OV} {v : V} {ρ0 : Ro} {G0 H0 : Hp} {own0 : Own} (S : SR c σ0 G own ρ σ H) (t : Tr ρ0 σ G0 own0 H0 ρ σ G own H) (q : ρ[j]? = some (.ow false o)) (hv : σ[j]? = some (some v)) :
    ∃ G' own', Tr ρ0 σ G0 own0 H0 (ρ.set j (.fz o.toD)) σ G' own' H ∧ SR c σ0 G' own' (ρ.set j (.fz o.toD)) σ H ∧ Rep c G' o.toD v ∧ Same G G' := by
  obtain ⟨w, hw, S1, x, k⟩ := S.take q
  rw [hv] at hw
  cases hw
  have S2 := S1.frz (P := own j) fun b p => ⟨(k b p).1, (k b p).2.1⟩
  have z : Rep c (frzG G H (own j)) o.toD v := x.frz fun b p => (k b p).1
  have S3 := S2.know (by rw [List.getElem?_set_self (lt_of_get q)]) hv z
  rw [List.set_set] at S3
  have t1 : Tr ρ0 σ G0 own0 H0 (ρ.set j (.fz o.toD)) σ G (minO own j) H := t.take q
  have t2 := frz_tr (P := own j) t1 fun b p => ⟨(k b p).1, (t.onew b ⟨j, p⟩).symm⟩
  exact ⟨_, _, t2, S3, z, frz_same fun b p => (k b p).1⟩
theorem de_fz (h : PE X e (tD c σ0 W f)) : PE X e (tD c σ0 W (eFz f)) := PE.imp h fun σ H Q q => by
  obtain ⟨G, own, ρ, S, q⟩ := q
  refine XP.bind S q fun r ρ1 G1 own1 H1 v t1 S1 R1 h1 => ?_
  cases r with
  | val d => exact h1 G1 own1 H1 v t1 S1 R1
  | nw o =>
    obtain ⟨P, x, k⟩ := R1
    exact h1 (frzG G1 H1 P) own1 H1 v (frz_tr t1 fun b p => ⟨(k b p).1, (k b p).2.2.2⟩) (S1.frz fun b p => ⟨(k b p).1, (k b p).2.1⟩) (x.frz fun b p => (k b p).1)
  | sl j =>
    unfold frzR at h1
    dsimp only at h1
    cases q : ρ1[j]? with
    | none => rw [q] at h1; exact h1.elim
    | some s =>
      rw [q] at h1
      cases s with
      | no => exact h1.elim
      | fz d => exact h1.elim
      | ln k o => exact h1.elim
      | ow k o =>
        cases k with
        | true => exact h1.elim
        | false =>
          obtain ⟨G', own', t2, S2, z, _⟩ := S1.freeze t1 q R1
          exact h1 G' own' H1 v t2 S2 z
theorem RRs.vals : ∀ {rs : List R} {vs : List V} {ds : List D}, RRs c G σ rs vs → valsR rs = some ds → Reps c G ds vs
  | _, _, _, .nil, e => by cases e; exact .nil
  | _, _, ds, .val (rs := rs) h r, e => by
    unfold valsR at e
    cases q : valsR rs with
    | none => rw [q] at e; cases e
    | some es =>
      rw [q] at e
      cases e
      exact .cons h (RRs.vals r q)
  | _, _, ds, .sl h r, e => by cases e

theorem de_tup {x1} {fa : M (List R)} (h : PA X es (tA c σ0 W fa)) : PE X (.Tuple es x1 pos) (tD c σ0 W (eTup fa)) := PE.imp (pe_tup h) fun σ H Q q => by
  obtain ⟨G, own, ρ, S, q⟩ := q
  refine XP.bind S q fun rs ρ1 G1 own1 H1 vs t1 S1 R1 h1 => ?_
  unfold tupR at h1
  cases e : valsR rs with
  | none => rw [e] at h1; exact h1.elim
  | some ds =>
    rw [e] at h1
    dsimp only at h1
    have r := R1.vals e
    by_cases hl : ds.length ≤ sizeLine
    · rw [if_pos hl] at h1
      refine ⟨by rw [← r.length]; exact hl, fun p hp => ?_⟩
      obtain ⟨G', n, o⟩ := RO.nwt r S1.same hp
      exact XP.new S1 (XP.from t1 h1 (relR_mono c)) n o
    · rw [if_neg hl] at h1; exact h1.elim
theorem de_lst {fa : M (List R)} (h : PA X es (tA c σ0 W fa)) : PE X (.List es pos) (tD c σ0 W (eLst fa)) := PE.imp (pe_lst h) fun σ H Q q => by
  obtain ⟨G, own, ρ, S, q⟩ := q
  refine XP.bind S q fun rs ρ1 G1 own1 H1 vs t1 S1 R1 h1 => ?_
  unfold lstR at h1
  cases e : valsR rs with
  | none => rw [e] at h1; exact h1.elim
  | some ds =>
    rw [e] at h1
    dsimp only at h1
    have r := R1.vals e
    by_cases hl : ds.length ≤ sizeLine
    · rw [if_pos hl] at h1
      refine ⟨by rw [← r.length]; exact hl, fun p hp => ?_⟩
      obtain ⟨n, o⟩ := RO.nwl r S1.same hp
      exact XP.new S1 (XP.from t1 h1 (relR_mono c)) n o
    · rw [if_neg hl] at h1; exact h1.elim

/-! ### a < b < c -/
theorem XP.op2k {k : R → M R} {Q T : VK} {r1 r2 : R} {v w : V} {N1 N2 : Addr → Prop} (S : SR c σ0 G own ρ σ H) (h : XP (relR c) c σ0 W σ ρ G own H Q (M.bind (opE op r1 r2) k ρ)) (h1 : RR c G own σ H N1 r1 v) (h2 : RR c G own σ H N2 r2 w)
    (hk : ∀ r G' H' v', New G H G' H' → RO c G' H' H r v' → XP (relR c) c σ0 W σ ρ G own H Q (k r ρ) → T v' H') : rD c op v w H T := by
  unfold M.bind opE at h
  cases e1 : deref ρ r1 with
  | none => rw [e1] at h; exact h.elim
  | some d =>
    cases e2 : deref ρ r2 with
    | none => rw [e1, e2] at h; exact h.elim
    | some e =>
      rw [e1, e2] at h
      dsimp only at h
      cases e3 : op d e with
      | none => rw [e3] at h; exact h.elim
      | some r =>
        rw [e3] at h
        exact ⟨G, d, e, r, S.same, deref_rd S h1 e1, deref_rd S h2 e2, e3, fun G' H' v' n o => hk r G' H' v' n o h⟩
theorem tChain_of {Q : VK} (h : tD c σ0 W (eChain op op' fa fb fc) σ H Q) : tChain (rD c op) (rD c op') (tD c σ0 W fa) (tD c σ0 W fb) (tD c σ0 W fc) σ H Q := by
  obtain ⟨G, own, ρ, S, h⟩ := h
  refine XP.bind S h fun r1 ρ1 G1 own1 H1 v t1 S1 R1 h1 => ?_
  refine XP.bind S1 (XP.from t1 h1 (relR_mono c)) fun r2 ρ2 G2 own2 H2 w t2 S2 R2 h2 => ?_
  refine XP.op2k S2 (XP.from t2 h2 (relR_mono c)) (R1.step t2) R2 fun r G3 H3 v3 n o h3 => ?_
  cases r with
  | sl j => exact h3.elim
  | nw o => exact h3.elim
  | val d =>
    cases d with
    | bl k =>
      cases o
      refine ⟨k, rfl, ?_⟩
      have t3 : Tr ρ2 σ G2 own2 H2 ρ2 σ G3 own2 H3 := n.tr S2.there
      have S3 := n.sr S2
      cases k with
      | true =>
        refine XP.bind S3 (XP.from t3 h3 (relR_mono c)) fun r4 ρ4 G4 own4 H4 v4 t4 S4 R4 h4 => ?_
        exact XP.op2 (ρ0 := ρ) (G0 := G) (H0 := H) (own0 := own) S4 (XP.from t4 h4 (relR_mono c)) ((R2.step t3).step t4) R4
      | false => exact XP.ret S3 (XP.from t3 h3 (relR_mono c)) (Rep.bl _)
    | _ => exact h3.elim
theorem de_chain {o o' : CmpOp} {e1 e2 e3 : Expr} (ho : OpR X (compareOp o) (rD c op)) (ho' : OpR X (compareOp o') (rD c op')) (ha : PE X e1 (tD c σ0 W fa)) (hb : PE X e2 (tD c σ0 W fb)) (hc : PE X e3 (tD c σ0 W fc))
    (hm : lastMarks [o, o'] [e2, e3] = false := by with_unfolding_all rfl) : PE X (.Compare e1 [o, o'] [e2, e3] pos) (tD c σ0 W (eChain op op' fa fb fc)) :=
  PE.imp (pe_chain ho ho' ha hb hc hm) fun _ _ _ h => tChain_of h
theorem dt_chain {o o' : CmpOp} {e1 e2 e3 : Expr} (ho : OpR X (compareOp o) (rD c op)) (ho' : OpR X (compareOp o') (rD c op')) (ha : PE X e1 (tD c σ0 W fa)) (hb : PE X e2 (tD c σ0 W fb)) (hc : PE X e3 (tD c σ0 W fc))
    (hm : lastMarks [o, o'] [e2, e3] = false := by with_unfolding_all rfl) : PT X (.Compare e1 [o, o'] [e2, e3] pos) (tT c σ0 W (eBool (eChain op op' fa fb fc))) :=
  PT.imp (pt_chain ho ho' ha hb hc hm) fun _ _ _ h => tChain_of (tTest_of h)

/-! ### in -/
theorem pys_any {ds : List D} {d : D} : ((D.pys ds).any fun z => PyData.eqv z d.py) = ds.any fun z => eqF z d := by
  induction ds with
  | nil => rfl
  | cons e es ih =>
    show (_ || _) = (_ || _)
    rw [ih]
    rfl
theorem flat_eq {d e : D} {v w : V} (hd : RepR c G H d v) (he : Rep c G e w) (fd : flatD d = true) (fe : flatD e = true) : eqV w v = eqF e d ∧ flatV w = true ∧ flatV v = true := by
  unfold eqF
  cases d with
  | non => cases hd; cases e <;> first | (cases he; exact ⟨rfl, rfl, rfl⟩) | cases fe
  | bl x => cases hd; cases e <;> first | (cases he; exact ⟨rfl, rfl, rfl⟩) | cases fe
  | int x => cases hd; cases e <;> first | (cases he; exact ⟨rfl, rfl, rfl⟩) | cases fe
  | str x => cases hd; cases e <;> first | (cases he; exact ⟨rfl, rfl, rfl⟩) | cases fe
  | _ => cases fd
theorem flat_in {d : D} {v : V} (hd : RepR c G H d v) (fd : flatD d = true) : ∀ {ds : List D} {vs : List V}, Reps c G ds vs → ds.all flatD = true → inV v vs = (ds.any fun z => eqF z d) ∧ vs.all flatV = true
  | _, _, .nil, _ => ⟨rfl, rfl⟩
  | _, _, .cons h r, e => by
    rw [List.all_cons] at e
    obtain ⟨e1, e2⟩ := Bool.and_eq_true_iff.mp e
    obtain ⟨k1, k2, _⟩ := flat_eq hd h fd e1
    obtain ⟨i1, i2⟩ := flat_in hd fd r e2
    refine ⟨?_, by rw [List.all_cons, k2, i2]; rfl⟩
    unfold inV at i1 ⊢
    rw [List.any_cons, List.any_cons, k1, i1]
theorem flat_self {d : D} {v : V} (hd : RepR c G H d v) (fd : flatD d = true) : flatV v = true := by
  cases d with
  | non => cases hd; rfl
  | bl x => cases hd; rfl
  | int x => cases hd; rfl
  | str x => cases hd; rfl
  | _ => cases fd
theorem keys_val {ds : List (Key × D)} {kvs : List (Key × V)} {k : Key} (h : ds.map (·.1) = kvs.map (·.1)) : (valV kvs k).isSome = ds.any fun p => decide (p.1 = k) := by
  induction ds generalizing kvs with
  | nil => cases kvs with
    | nil => rfl
    | cons q r => cases h
  | cons p l ih =>
    cases kvs with
    | nil => cases h
    | cons q r =>
      rw [List.map_cons, List.map_cons] at h
      injection h with h1 h2
      rw [List.any_cons, h1]
      by_cases e : q.1 = k
      · rw [valV_pos e, decide_eq_true e]; rfl
      · rw [decide_eq_false e, Bool.false_or, ← ih h2]
        unfold valV
        rw [List.find?_cons, decide_eq_false e]
theorem keyD_rep {d : D} {v : V} {k : Key} (hd : RepR c G H d v) (e : keyD d = some k) : v = kV k := by
  cases d with
  | int i => cases e; cases hd; rfl
  | str i => cases e; cases hd; rfl
  | _ => cases e
theorem o_in (hK : c.K = X.K) (hu : X.A.units + 65 < cLine) : OpR X (compareOp .In) (rD c opIn) := by
  intro pins s σ H x y v u Q I rx ry ⟨G, d, e, r, sg, hd, he, ho, k⟩
  unfold opIn at ho
  cases e with
  | str z =>
    cases d with
    | str x =>
      cases ho; cases hd; cases he
      exact op_in_str pins s σ H _ _ v u Q I rx ry ⟨x, z, rfl, rfl, k G H _ (New.refl sg) (Rep.bl _)⟩
    | _ => cases ho
  | lst ds =>
    have ho : ((if (pyOk d && pyOk (.lst ds)) = true then some (ds.any fun z => eqF z d) else none).bind vB) = some r := by cases d <;> exact ho
    by_cases hm : (pyOk d && pyOk (.lst ds)) = true
    · rw [if_pos hm] at ho
      cases ho
      obtain ⟨h1, h2⟩ := Bool.and_eq_true_iff.mp hm
      have d1 := hd.dp sg (pyOk_of h1).1
      have d2 := he.dp sg (pyOk_of h2).1
      rw [hK] at d1 d2
      refine op_inD hu pins s σ H _ _ v u Q I rx ry ⟨_, _, d1, d2, (pyOk_of h1).2, (pyOk_of h2).2, ?_⟩
      rw [pys_any]
      exact k G H _ (New.refl sg) (Rep.bl _)
    · rw [if_neg hm] at ho; cases ho
  | tup ds =>
    have ho : ((if (flatD d && ds.all flatD) = true then some (ds.any fun z => eqF z d) else none).bind vB) = some r := by cases d <;> exact ho
    by_cases hm : (flatD d && ds.all flatD) = true
    · rw [if_pos hm] at ho
      cases ho
      obtain ⟨h1, h2⟩ := Bool.and_eq_true_iff.mp hm
      obtain ⟨a, vs, rfl, hs, rr⟩ := he
      obtain ⟨i1, i2⟩ := flat_in hd h1 rr h2
      have hs' := sqT_same sg hs
      rw [hK] at hs'
      refine op_in_seq pins s σ H _ _ v u Q I rx ry ⟨a, vs, rfl, .inr hs', flat_self hd h1, i2, ?_⟩
      show Q (.bl (inV x vs)) H
      rw [i1]
      exact k G H _ (New.refl sg) (Rep.bl _)
    · rw [if_neg hm] at ho; cases ho
  | dct kvs =>
    have ho : (((keyD d).map fun k => kvs.any fun p => decide (p.1 = k)).bind vB) = some r := by cases d <;> exact ho
    cases ek : keyD d with
    | none => rw [ek] at ho; cases ho
    | some kk =>
      rw [ek] at ho
      cases ho
      obtain ⟨a, kv, rfl, hs, hm, rr⟩ := he
      have hx := keyD_rep hd ek
      subst hx
      obtain rfl : u = Value.ref a := ry
      refine d_in (by omega) I (DGet.k (k := kk) hs) rx fun s' I' => ⟨.bl _, H, I', rfl, ?_⟩
      rw [keys_val hm]
      exact k G H _ (New.refl sg) (Rep.bl _)
  | _ => cases d <;> cases ho
theorem o_notin (hK : c.K = X.K) (hu : X.A.units + 65 < cLine) : OpR X (compareOp .NotIn) (rD c opNotIn) := by
  intro pins s σ H x y v u Q I rx ry ⟨G, d, e, r, sg, hd, he, ho, k⟩
  unfold opNotIn at ho
  cases e with
  | str z =>
    cases d with
    | str x =>
      cases ho; cases hd; cases he
      exact op_notin_str pins s σ H _ _ v u Q I rx ry ⟨x, z, rfl, rfl, k G H _ (New.refl sg) (Rep.bl _)⟩
    | _ => cases ho
  | lst ds =>
    have ho : ((if (pyOk d && pyOk (.lst ds)) = true then some (ds.any fun z => eqF z d) else none).bind fun b => vB (!b)) = some r := by cases d <;> exact ho
    by_cases hm : (pyOk d && pyOk (.lst ds)) = true
    · rw [if_pos hm] at ho
      cases ho
      obtain ⟨h1, h2⟩ := Bool.and_eq_true_iff.mp hm
      have d1 := hd.dp sg (pyOk_of h1).1
      have d2 := he.dp sg (pyOk_of h2).1
      rw [hK] at d1 d2
      refine op_notInD hu pins s σ H _ _ v u Q I rx ry ⟨_, _, d1, d2, (pyOk_of h1).2, (pyOk_of h2).2, ?_⟩
      rw [pys_any]
      exact k G H _ (New.refl sg) (Rep.bl _)
    · rw [if_neg hm] at ho; cases ho
  | tup ds =>
    have ho : ((if (flatD d && ds.all flatD) = true then some (ds.any fun z => eqF z d) else none).bind fun b => vB (!b)) = some r := by cases d <;> exact ho
    by_cases hm : (flatD d && ds.all flatD) = true
    · rw [if_pos hm] at ho
      cases ho
      obtain ⟨h1, h2⟩ := Bool.and_eq_true_iff.mp hm
      obtain ⟨a, vs, rfl, hs, rr⟩ := he
      obtain ⟨i1, i2⟩ := flat_in hd h1 rr h2
      have hs' := sqT_same sg hs
      rw [hK] at hs'
      refine op_notIn_seq pins s σ H _ _ v u Q I rx ry ⟨a, vs, rfl, .inr hs', flat_self hd h1, i2, ?_⟩
      show Q (.bl (!inV x vs)) H
      rw [i1]
      exact k G H _ (New.refl sg) (Rep.bl _)
    · rw [if_neg hm] at ho; cases ho
  | dct kvs =>
    have ho : (((keyD d).map fun k => kvs.any fun p => decide (p.1 = k)).bind fun b => vB (!b)) = some r := by cases d <;> exact ho
    cases ek : keyD d with
    | none => rw [ek] at ho; cases ho
    | some kk =>
      rw [ek] at ho
      cases ho
      obtain ⟨a, kv, rfl, hs, hm, rr⟩ := he
      have hx := keyD_rep hd ek
      subst hx
      obtain rfl : u = Value.ref a := ry
      refine d_notIn (by omega) I (DGet.k (k := kk) hs) rx fun s' I' => ⟨.bl _, H, I', rfl, ?_⟩
      rw [keys_val hm]
      exact k G H _ (New.refl sg) (Rep.bl _)
  | _ => cases d <;> cases ho
end

/-! ### a text, so many times -/
def opRep : D → D → Option R
  | .str x, .int n => if (decide (-(2 ^ 63) ≤ n) && decide (n < 2 ^ 63) && decide (x.length * n.toNat ≤ sizeLine)) = true then vS (Txt.mul x n) else none
  | _, _ => none
theorem mulOkS {x : Str} {n : Int} (h1 : -(2 ^ 63) ≤ n) (h2 : n < 2 ^ 63) (h3 : x.length * n.toNat ≤ sizeLine) : MulOk x n := by
  have hs : sizeLine = 16777216 := sizeLine_eq
  refine ⟨?_, fun hn _ => ?_, fun _ _ => ?_⟩
  · rw [decide_eq_false (by omega), decide_eq_false (by omega)]; rfl
  · have hp : 0 < n := by omega
    have e : (x.length : Int) * n ≤ 16777216 := by
      have : ((x.length * n.toNat : Nat) : Int) ≤ (sizeLine : Nat) := by exact_mod_cast h3
      rw [Int.natCast_mul, Int.toNat_of_nonneg (by omega), hs] at this
      exact this
    have : (x.length : Int) ≤ (2 ^ 63 - 1) / n := (Int.le_ediv_iff_mul_le hp).mpr (by omega)
    omega
  · show decide (x.length * n.toNat > sizeLine) = false
    exact decide_eq_false (by omega)
theorem o_rep {X : Cx} {c : Cn} : OpR X (binaryOp .Mult) (rD c opRep) := by
  intro pins s σ H x y v u Q I rx ry ⟨G, d, e, r, sg, hd, he, ho, k⟩
  cases d with
  | str a =>
    cases e with
    | int n =>
      have ho : (if (decide (-(2 ^ 63) ≤ n) && decide (n < 2 ^ 63) && decide (a.length * n.toNat ≤ sizeLine)) = true then vS (Txt.mul a n) else none) = some r := ho
      by_cases hm : (decide (-(2 ^ 63) ≤ n) && decide (n < 2 ^ 63) && decide (a.length * n.toNat ≤ sizeLine)) = true
      · rw [if_pos hm] at ho
        cases ho; cases hd; cases he
        simp only [Bool.and_eq_true, decide_eq_true_eq] at hm
        obtain ⟨t, rfl⟩ := rx
        obtain ⟨t', rfl⟩ := ry
        exact SB.mul (mulOkS hm.1.1 hm.1.2 hm.2) fun t' kk => ⟨.str _, H, I.tok _, ⟨_, rfl⟩, k G H _ (New.refl sg) (Rep.str _)⟩
      · rw [if_neg hm] at ho; cases ho
    | _ => cases ho
  | _ => cases ho
end DL

/-! DLm: built-in functions, methods, stores into an object. -/
namespace DL
open PySem PySem.Spec PyProof.Rows L2

section
variable {X : Cx} {c : Cn} {σ0 : St} {W : WX} {σ : St} {ρ : Ro} {G H : Hp} {own : Own} {a b e : Expr} {es : List Expr} {pos p p2 : Pos} {x : Str} {f g : M R} {fa : M (List R)} {id T : String} {op : List D → Option R}
theorem de_callB (hc : CallR X (.builtin id) (rDn c op)) (hg : Gl X x) (hm : X.mg x = none) (hv : bootBuiltins x = some (.builtin id)) (ha : PA X (e :: es) (tA c σ0 W fa)) (hn : x ≠ "__name__" := by decide) (hdb : (x == ("__debug__" : Str)) = false := by decide)
    (he : starEach (e :: es) X.env = (false, eval e X.env) :: starEach es X.env := by rfl) (hpl : (backTo pos (starEach es X.env)).any (·.1) = false := by rfl) : PE X (.Call (.Name x p) (e :: es) [] pos) (tD c σ0 W (eCallB op fa)) :=
  PE.imp (pe_callB hc hg hm hv ha hn hdb he hpl) fun _ _ _ h => tCB_of h
theorem de_callTy (hc : CallR X (.type T) (rDn c op)) (hg : Gl X x) (hm : X.mg x = none) (hv : bootBuiltins x = some (.type T)) (ha : PA X (e :: es) (tA c σ0 W fa)) (hn : x ≠ "__name__" := by decide) (hdb : (x == ("__debug__" : Str)) = false := by decide)
    (he : starEach (e :: es) X.env = (false, eval e X.env) :: starEach es X.env := by rfl) (hpl : (backTo pos (starEach es X.env)).any (·.1) = false := by rfl) : PE X (.Call (.Name x p) (e :: es) [] pos) (tD c σ0 W (eCallB op fa)) :=
  PE.imp (pe_callTy hc hg hm hv ha hn hdb he hpl) fun _ _ _ h => tCB_of h

theorem LenV_of (s : Same G H) {d : D} {v : V} {n : Nat} (h : RepR c G H d v) (e : lenD d = some n) : LenV c.K v H n := by
  cases d with
  | str x =>
    cases h
    have e : (if x.length ≤ sizeLine then some x.length else none) = some n := e
    by_cases hl : x.length ≤ sizeLine
    · rw [if_pos hl] at e; cases e; exact ⟨hl, rfl⟩
    · rw [if_neg hl] at e; cases e
  | lst ds =>
    cases e
    obtain ⟨a, vs, rfl, hs, r⟩ := h
    exact .inl ⟨vs, .inl (.inl hs), r.length⟩
  | tup ds =>
    cases e
    obtain ⟨a, vs, rfl, hs, r⟩ := h
    exact .inr ⟨vs, sqT_same s hs, r.length⟩
  | scr ns =>
    cases e
    obtain ⟨a, rfl, hs⟩ := h
    exact .inl ⟨_, hs, by rw [List.length_map]⟩
  | _ => cases e
theorem cb_len (hK : c.K = X.K) : CallR X (.builtin "len") (rDn c cLen) := by
  intro pins s σ H xs us Q I r ⟨G, ds, rr, sg, hr, ho, k⟩
  cases hr with
  | nil => cases ho
  | cons h t =>
    rename_i d v ds vs
    cases t with
    | cons _ _ => cases ho
    | nil =>
      have ho : (lenD d).bind (fun n => vI (n : Int)) = some rr := ho
      cases e : lenD d with
      | none => rw [e] at ho; cases ho
      | some n =>
        rw [e] at ho
        cases ho
        exact call_len pins s σ H _ us Q I r ⟨v, n, rfl, by rw [← hK]; exact LenV_of sg h e, k G H _ (New.refl sg) (Rep.int _)⟩
theorem cb_int : CallR X (.type "int") (rDn c cInt) := by
  intro pins s σ H xs us Q I r ⟨G, ds, rr, sg, hr, ho, k⟩
  cases hr with
  | nil => cases ho
  | cons h t =>
    rename_i d v ds vs
    cases t with
    | cons _ _ => cases d <;> cases ho
    | nil =>
      cases d with
      | int i => cases ho; cases h; exact call_int1 pins s σ H _ us Q I r (.inl ⟨i, rfl, k G H _ (New.refl sg) (Rep.int _)⟩)
      | bl b => cases ho; cases h; exact call_int1 pins s σ H _ us Q I r (.inr ⟨b, rfl, k G H _ (New.refl sg) (Rep.int _)⟩)
      | _ => cases ho
theorem cb_abs : CallR X (.builtin "abs") (rDn c cAbs) := by
  intro pins s σ H xs us Q I r ⟨G, ds, rr, sg, hr, ho, k⟩
  cases hr with
  | nil => cases ho
  | cons h t =>
    rename_i d v ds vs
    cases t with
    | cons _ _ => cases d <;> cases ho
    | nil =>
      cases d with
      | int i => cases ho; cases h; exact call_abs pins s σ H _ us Q I r ⟨i, rfl, k G H _ (New.refl sg) (Rep.int _)⟩
      | _ => cases ho
theorem cb_str : CallR X (.type "str") (rDn c cStr) := by
  intro pins s σ H xs us Q I r ⟨G, ds, rr, sg, hr, ho, k⟩
  cases hr with
  | nil => cases ho
  | cons h t =>
    rename_i d v ds vs
    cases t with
    | cons _ _ => cases d <;> cases ho
    | nil =>
      cases d with
      | int i =>
        have ho : (if i.natAbs.log2 < 1920 then vS (toString i) else none) = some rr := ho
        by_cases hl : i.natAbs.log2 < 1920
        · rw [if_pos hl] at ho
          cases ho; cases h
          exact call_str_int pins s σ H _ us Q I r ⟨i, rfl, hl, k G H _ (New.refl sg) (Rep.str _)⟩
        · rw [if_neg hl] at ho; cases ho
      | _ => cases ho
theorem cb_list (hK : c.K = X.K) : CallR X (.type "list") (rDn c cList) := by
  intro pins s σ H xs us Q I r ⟨G, ds, rr, sg, hr, ho, k⟩
  cases hr with
  | nil => cases ho
  | cons h t =>
    rename_i d v ds vs
    cases t with
    | cons _ _ => cases d <;> cases ho
    | nil =>
      cases d with
      | lst es =>
        cases ho
        obtain ⟨a, ws, rfl, hs, q⟩ := h
        refine call_list_of pins s σ H _ us Q I r ⟨a, ws, rfl, .inl (.inl (.inl hs)), fun p hp => ?_⟩
        obtain ⟨n, o⟩ := RO.nwl q sg hp
        exact k G _ _ n o
      | tup es =>
        cases ho
        obtain ⟨a, ws, rfl, hs, q⟩ := h
        have hs' := sqT_same sg hs
        rw [hK] at hs'
        refine call_list_of pins s σ H _ us Q I r ⟨a, ws, rfl, .inr hs', fun p hp => ?_⟩
        obtain ⟨n, o⟩ := RO.nwl q sg hp
        exact k G _ _ n o
      | _ => cases ho
theorem cb_tuple (hK : c.K = X.K) : CallR X (.type "tuple") (rDn c cTuple) := by
  intro pins s σ H xs us Q I r ⟨G, ds, rr, sg, hr, ho, k⟩
  cases hr with
  | nil => cases ho
  | cons h t =>
    rename_i d v ds vs
    cases t with
    | cons _ _ => cases d <;> cases ho
    | nil =>
      cases d with
      | lst es =>
        cases ho
        obtain ⟨a, ws, rfl, hs, q⟩ := h
        refine call_tuple_of pins s σ H _ us Q I r ⟨a, ws, rfl, .inl ⟨.inl (.inl hs), fun p hp => ?_⟩⟩
        obtain ⟨G', n, o⟩ := RO.nwt q sg hp
        exact k G' _ _ n o
      | tup es =>
        cases ho
        obtain ⟨a, ws, rfl, hs, q⟩ := h
        have hs' := sqT_same sg hs
        rw [hK] at hs'
        exact call_tuple_of pins s σ H _ us Q I r ⟨a, ws, rfl, .inr ⟨hs', k G H _ (New.refl sg) (Rep.tup hs q)⟩⟩
      | _ => cases ho
theorem boolsD_of : ∀ {ds : List D} {vs : List V} {bs : List Bool}, Reps c G ds vs → boolsD ds = some bs → vs = bs.map V.bl
  | _, _, _, .nil, e => by cases e; rfl
  | d :: ds, _, _, .cons h r, e => by
    cases d with
    | bl b =>
      have e : (boolsD ds).map (b :: ·) = some _ := e
      cases q : boolsD ds with
      | none => rw [q] at e; cases e
      | some bs =>
        rw [q] at e; cases e; cases h
        rw [boolsD_of r q]; rfl
    | _ => cases e
theorem intsD_of : ∀ {ds : List D} {vs : List V} {bs : List Int}, Reps c G ds vs → intsD ds = some bs → vs = bs.map V.int
  | _, _, _, .nil, e => by cases e; rfl
  | d :: ds, _, _, .cons h r, e => by
    cases d with
    | int b =>
      have e : (intsD ds).map (b :: ·) = some _ := e
      cases q : intsD ds with
      | none => rw [q] at e; cases e
      | some bs =>
        rw [q] at e; cases e; cases h
        rw [intsD_of r q]; rfl
    | _ => cases e
theorem strsD_of : ∀ {ds : List D} {vs : List V} {bs : List Str}, Reps c G ds vs → strsD ds = some bs → vs = bs.map V.str
  | _, _, _, .nil, e => by cases e; rfl
  | d :: ds, _, _, .cons h r, e => by
    cases d with
    | str b =>
      have e : (strsD ds).map (b :: ·) = some _ := e
      cases q : strsD ds with
      | none => rw [q] at e; cases e
      | some bs =>
        rw [q] at e; cases e; cases h
        rw [strsD_of r q]; rfl
    | _ => cases e
theorem cb_all (hc : X.calm = true) : CallR X (.builtin "all") (rDn c cAll) := by
  intro pins s σ H xs us Q I r ⟨G, ds, rr, sg, hr, ho, k⟩
  cases hr with
  | nil => cases ho
  | cons h t =>
    rename_i d v ds vs
    cases t with
    | cons _ _ => cases d <;> cases ho
    | nil =>
      cases d with
      | lst es =>
        have ho : (boolsD es).bind (fun bs => vB (bs.all _root_.id)) = some rr := ho
        cases e : boolsD es with
        | none => rw [e] at ho; cases ho
        | some bs =>
          rw [e] at ho
          cases ho
          obtain ⟨a, ws, rfl, hs, q⟩ := h
          rw [boolsD_of q e] at hs
          exact cr_all hc pins s σ H _ us Q I r ⟨a, bs, rfl, .inl (.inl hs), k G H _ (New.refl sg) (Rep.bl _)⟩
      | _ => cases ho
theorem cb_any (hc : X.calm = true) : CallR X (.builtin "any") (rDn c cAny) := by
  intro pins s σ H xs us Q I r ⟨G, ds, rr, sg, hr, ho, k⟩
  cases hr with
  | nil => cases ho
  | cons h t =>
    rename_i d v ds vs
    cases t with
    | cons _ _ => cases d <;> cases ho
    | nil =>
      cases d with
      | lst es =>
        have ho : (boolsD es).bind (fun bs => vB (bs.any _root_.id)) = some rr := ho
        cases e : boolsD es with
        | none => rw [e] at ho; cases ho
        | some bs =>
          rw [e] at ho
          cases ho
          obtain ⟨a, ws, rfl, hs, q⟩ := h
          rw [boolsD_of q e] at hs
          exact cr_any hc pins s σ H _ us Q I r ⟨a, bs, rfl, .inl (.inl hs), k G H _ (New.refl sg) (Rep.bl _)⟩
      | _ => cases ho
theorem cb_sum (hc : X.calm = true) : CallR X (.builtin "sum") (rDn c cSum) := by
  intro pins s σ H xs us Q I r ⟨G, ds, rr, sg, hr, ho, k⟩
  cases hr with
  | nil => cases ho
  | cons h t =>
    rename_i d v ds vs
    cases t with
    | cons _ _ => cases d <;> cases ho
    | nil =>
      cases d with
      | lst es =>
        have ho : (intsD es).bind (fun bs => vI bs.sum) = some rr := ho
        cases e : intsD es with
        | none => rw [e] at ho; cases ho
        | some bs =>
          rw [e] at ho
          cases ho
          obtain ⟨a, ws, rfl, hs, q⟩ := h
          rw [intsD_of q e] at hs
          exact cr_sum hc pins s σ H _ us Q I r ⟨a, bs, rfl, .inl (.inl hs), k G H _ (New.refl sg) (Rep.int _)⟩
      | _ => cases ho

/-! ### isinstance -/
def tyD : D → Option String
  | .non => some "NoneType"
  | .bl _ => some "bool"
  | .int _ => some "int"
  | .str _ => some "str"
  | .tup _ => some "tuple"
  | .lst _ => some "list"
  | .scr _ => some "list"
  | .dct _ => some "dict"
  | .ins _ _ => none
def isD (n : String) (d : D) : Option Bool := (tyD d).bind fun t => kitB t n
def isiR (n : String) (r : R) : M R := fun ρ => match (deref ρ r).bind (isD n) with
  | some b => .ok (.val (.bl b)) ρ
  | none => .bad
def eIsi (n : String) (f : M R) : M R := f.bind (isiR n)
theorem tyX_of (s : Same G H) {d : D} {v : V} {n : String} (h : RepR c G H d v) (e : tyD d = some n) : TyX c.K H v (.type n) := by
  cases d with
  | non => cases e; cases h; exact .base .non
  | bl b => cases e; cases h; exact .base (.bl b)
  | int i => cases e; cases h; exact .base (.int i)
  | str x => cases e; cases h; exact .base (.str x)
  | tup ds =>
    cases e
    obtain ⟨a, vs, rfl, hs, r⟩ := h
    rcases sqT_same s hs with (hs | ⟨o, hs⟩) | ⟨o, its, n, hk, hc, _⟩
    · exact .base (.tup hs)
    · exact .fTuple hs
    · exact .kTuple hk hc
  | lst ds =>
    cases e
    obtain ⟨a, vs, rfl, hs, r⟩ := h
    exact .base (.lst hs)
  | scr ns =>
    cases e
    obtain ⟨a, rfl, hs⟩ := h
    rcases hs with (hs | ⟨o, hs⟩) | ⟨o, its, n, hk, hc, _⟩
    · exact .base (.lst hs)
    · exact .base (.frz hs)
    · exact .kList hk hc
  | dct ds =>
    cases e
    obtain ⟨a, kvs, rfl, hs, m, r⟩ := h
    exact .base (.dK hs)
  | ins _ _ => cases e
theorem de_isi {n : String} {y : Str} (hK : c.K = X.K) (hg : Gl X "isinstance") (hm : X.mg "isinstance" = none) (hg2 : Gl X y) (hm2 : X.mg y = none) (hv : bootBuiltins y = some (.type n)) (ha : PE X e (tD c σ0 W f)) (hn : y ≠ "__name__" := by decide) (hdb : (y == ("__debug__" : Str)) = false := by decide)
    (h1 : starEach [e, .Name y p2] X.env = (false, eval e X.env) :: starEach [.Name y p2] X.env := by rfl) (h2 : starEach [.Name y p2] X.env = (false, eval (.Name y p2) X.env) :: starEach [] X.env := by rfl) (hpl : (backTo pos (starEach [.Name y p2] X.env)).any (·.1) = false := by rfl) :
    PE X (.Call (.Name "isinstance" p) [e, .Name y p2] [] pos) (tD c σ0 W (eIsi n f)) :=
  PE.imp (pe_callB call_isi hg hm boot_isinstance (pa_cons ha (pa_cons (pe_bltn hg2 hm2 hv (v := V.ty n) rfl hn hdb) pa_nil h2) h1) (by decide) (by decide) h1 hpl) fun σ H Q q => by
    obtain ⟨G, own, ρ, S, q⟩ := q
    refine XP.bind S q fun r ρ1 G1 own1 H1 v t1 S1 R1 hh => ?_
    unfold isiR at hh
    cases e1 : deref ρ1 r with
    | none => rw [e1] at hh; exact hh.elim
    | some d =>
      rw [e1] at hh
      have hh : XP (relR c) c σ0 W σ ρ G own H Q (match isD n d with
        | some b => .ok (.val (.bl b)) ρ1
        | none => .bad) := hh
      unfold isD at hh
      cases e2 : tyD d with
      | none => rw [e2] at hh; exact hh.elim
      | some t =>
        rw [e2] at hh
        have hh : XP (relR c) c σ0 W σ ρ G own H Q (match kitB t n with
          | some b => .ok (.val (.bl b)) ρ1
          | none => .bad) := hh
        cases e3 : kitB t n with
        | none => rw [e3] at hh; exact hh.elim
        | some b =>
          rw [e3] at hh
          refine ⟨v, .ty n, _, _, b, rfl, .ty n, by rw [← hK]; exact tyX_of S1.same (deref_rd S1 R1 e1) e2, kit_ty e3, ?_⟩
          exact hh G1 own1 H1 _ t1 S1 (Rep.bl _)

/-! ### methods of texts -/
def rMs (c : Cn) (op : Str → List D → Option R) : V → List V → Hp → VK → Prop := fun x xs H Q => ∃ G z ds r, x = .str z ∧ Same G H ∧ RepRs c G H ds xs ∧ op z ds = some r ∧ ∀ G' H' v', New G H G' H' → RO c G' H' H r v' → Q v' H'
def msK (op : Str → List D → Option R) (fa : M (List R)) (r : R) : M R := match r with
  | .val (.str z) => fa.bind (opEn (op z))
  | _ => fun _ => .bad
def eMS (op : Str → List D → Option R) (f : M R) (fa : M (List R)) : M R := f.bind (msK op fa)
theorem tMS_of {op : Str → List D → Option R} {Q : VK} (h : tD c σ0 W (eMS op f fa) σ H Q) : tBM X.K "str" (rMs c op) (tD c σ0 W f) (tA c σ0 W fa) σ H Q := by
  obtain ⟨G, own, ρ, S, h⟩ := h
  refine XP.bind S h fun r1 ρ1 G1 own1 H1 v t1 S1 R1 h1 => ?_
  cases r1 with
  | val d =>
    cases d with
    | str z =>
      cases R1
      refine ⟨rfl, XP.bind S1 (XP.from t1 h1 (relR_mono c)) fun rs ρ2 G2 own2 H2 vs t2 S2 R2 h2 => ?_⟩
      obtain ⟨G', ds, r, s, rd, ho, k⟩ := XP.opn S2 (XP.from t2 h2 (relR_mono c)) R2
      exact ⟨G', z, ds, r, rfl, s, rd, ho, k⟩
    | _ => exact h1.elim
  | _ => exact h1.elim
theorem de_ms {o : Expr} {name : Str} {apos cpos : Pos} {op : Str → List D → Option R} (slot : Slot "str" name id) (hty : typeOf (.builtin id) = pure (.type "method_descriptor")) (hm : MtR X id (rMs c op)) (ho : PE X o (tD c σ0 W f)) (ha : PA X (e :: es) (tA c σ0 W fa))
    (hbase : attributeBase o name X.env (eval o X.env) = eval o X.env := by rfl)
    (hfew : ((backTo cpos (starEach (e :: es) X.env)).all (fun x => !x.1) && (backToKw cpos (keywordEach [] X.env)).all (fun x => x.1.isSome)
      && decide ((e :: es).length + ([] : List Keyword).length + (if ([] : List Keyword).isEmpty then 0 else 1) < 30)) = true := by rfl)
    (hline : (apos.endLine == cpos.line) = true := by rfl) (hs : starEach (e :: es) X.env = (false, eval e X.env) :: starEach es X.env := by rfl) (hplain : (backTo cpos (starEach es X.env)).any (·.1) = false := by rfl) :
    PE X (.Call (.Attribute o name apos) (e :: es) [] cpos) (tD c σ0 W (eMS op f fa)) :=
  PE.imp (pe_bm PySem.F.plainAttrs_str slot hty hm ho ha hbase hfew hline hs hplain) fun _ _ _ h => tMS_of h
theorem de_ms0 {o : Expr} {name : Str} {apos cpos : Pos} {op : Str → List D → Option R} (slot : Slot "str" name id) (hty : typeOf (.builtin id) = pure (.type "method_descriptor")) (hm : MtR X id (rMs c op)) (ho : PE X o (tD c σ0 W f))
    (hbase : attributeBase o name X.env (eval o X.env) = eval o X.env := by rfl) (hline : (apos.endLine == cpos.line) = true := by rfl) :
    PE X (.Call (.Attribute o name apos) [] [] cpos) (tD c σ0 W (eMS op f eNil)) :=
  PE.imp (pe_bm0 PySem.F.plainAttrs_str slot hty hm ho hbase hline) fun σ H Q h => by
    have z : tBM X.K "str" (rMs c op) (tD c σ0 W f) (tA c σ0 W eNil) σ H Q := tMS_of h
    obtain ⟨G, own, ρ, S, h⟩ := h
    refine XP.bind S h fun r1 ρ1 G1 own1 H1 v t1 S1 R1 h1 => ?_
    cases r1 with
    | val d =>
      cases d with
      | str z =>
        cases R1
        refine ⟨rfl, ?_⟩
        have h1 := XP.from t1 h1 (relR_mono c)
        have h2 : XP (relR c) c σ0 W σ ρ1 G1 own1 H1 Q (opEn (op z) [] ρ1) := h1
        obtain ⟨G', ds, r, s, rd, ho, k⟩ := XP.opn S1 h2 .nil
        exact ⟨G', z, ds, r, rfl, s, rd, ho, k⟩
      | _ => exact h1.elim
    | _ => exact h1.elim
def mS0 (g : Str → D) : Str → List D → Option R := fun z ds => match ds with
  | [] => some (.val (g z))
  | _ => none
def mSplit : Str → List D → Option R := fun z ds => match ds with
  | [.str y] => if ((y.length != 0) && decide (z.length + 2 ≤ sizeLine)) = true then some (.nw (.lst ((Txt.split z y).map .str))) else none
  | _ => none
def joinOk (z : Str) (ys : List Str) : Bool := decide ((ys.map (·.length)).sum + ys.length * z.length ≤ 16777216)
def mJoin : Str → List D → Option R := fun z ds => match ds with
  | [.lst es] => (strsD es).bind fun ys => if joinOk z ys = true then vS (Txt.join z ys) else none
  | [.tup es] => (strsD es).bind fun ys => if joinOk z ys = true then vS (Txt.join z ys) else none
  | _ => none
theorem reps_strs : ∀ ys : List Str, Reps c G (ys.map D.str) (ys.map V.str)
  | [] => .nil
  | y :: ys => .cons (.str y) (reps_strs ys)
theorem mm_bl {id : String} {q : Str → Bool} (h : MtR X id (fun x xs H Q => ∃ a, x = .str a ∧ xs = [] ∧ True ∧ Q (.bl (q a)) H)) : MtR X id (rMs c (mS0 fun z => .bl (q z))) := by
  intro pins s σ H x xs v us Q I rx rs ⟨G, z, ds, r, ex, sg, rd, ho, k⟩
  cases rd with
  | nil =>
    cases ho
    exact h pins s σ H x _ v us Q I rx rs ⟨z, ex, rfl, trivial, k G H _ (New.refl sg) (Rep.bl _)⟩
  | cons _ _ => cases ho
theorem mm_split : MtR X "str.split" (rMs c mSplit) := by
  intro pins s σ H x xs v us Q I rx rs ⟨G, z, ds, r, ex, sg, rd, ho, k⟩
  cases rd with
  | nil => cases ho
  | cons h t =>
    rename_i d w ds vs
    cases t with
    | cons _ _ => cases d <;> cases ho
    | nil =>
      cases d with
      | str y =>
        have ho : (if ((y.length != 0) && decide (z.length + 2 ≤ sizeLine)) = true then some (R.nw (.lst ((Txt.split z y).map .str))) else none) = some r := ho
        by_cases hm : ((y.length != 0) && decide (z.length + 2 ≤ sizeLine)) = true
        · rw [if_pos hm] at ho
          cases ho; cases h
          simp only [Bool.and_eq_true, decide_eq_true_eq, bne_iff_ne] at hm
          refine mt_split pins s σ H x _ v us Q I rx rs ⟨z, y, ex, rfl, by simpa using hm.1, hm.2, fun p hp => ?_⟩
          obtain ⟨n, o⟩ := RO.nwl (reps_strs (c := c) (Txt.split z y)) sg hp
          exact k G _ _ n o
        · rw [if_neg hm] at ho; cases ho
      | _ => cases ho
theorem mm_join (hK : c.K = X.K) : MtR X "str.join" (rMs c mJoin) := by
  intro pins s σ H x xs v us Q I rx rs ⟨G, z, ds, r, ex, sg, rd, ho, k⟩
  cases rd with
  | nil => cases ho
  | cons h t =>
    rename_i d w ds vs
    cases t with
    | cons _ _ => cases d <;> cases ho
    | nil =>
      cases d with
      | lst es =>
        have ho : (strsD es).bind (fun ys => if joinOk z ys = true then vS (Txt.join z ys) else none) = some r := ho
        cases e : strsD es with
        | none => rw [e] at ho; cases ho
        | some ys =>
          rw [e] at ho
          have ho : (if joinOk z ys = true then vS (Txt.join z ys) else none) = some r := ho
          by_cases hm : joinOk z ys = true
          · rw [if_pos hm] at ho
            cases ho
            obtain ⟨a, ws, rfl, hs, q⟩ := h
            rw [strsD_of q e] at hs
            exact mt_join pins s σ H x _ v us Q I rx rs ⟨z, a, ys, ex, rfl, .inl (.inl (.inl hs)), of_decide_eq_true hm, k G H _ (New.refl sg) (Rep.str _)⟩
          · rw [if_neg hm] at ho; cases ho
      | tup es =>
        have ho : (strsD es).bind (fun ys => if joinOk z ys = true then vS (Txt.join z ys) else none) = some r := ho
        cases e : strsD es with
        | none => rw [e] at ho; cases ho
        | some ys =>
          rw [e] at ho
          have ho : (if joinOk z ys = true then vS (Txt.join z ys) else none) = some r := ho
          by_cases hm : joinOk z ys = true
          · rw [if_pos hm] at ho
            cases ho
            obtain ⟨a, ws, rfl, hs, q⟩ := h
            rw [strsD_of q e] at hs
            have hs' := sqT_same sg hs
            rw [hK] at hs'
            exact mt_join pins s σ H x _ v us Q I rx rs ⟨z, a, ys, ex, rfl, .inr hs', of_decide_eq_true hm, k G H _ (New.refl sg) (Rep.str _)⟩
          · rw [if_neg hm] at ho; cases ho
      | _ => cases ho

/-! ### methods of a slot's own object -/
def OV.ty : OV → String
  | .lst _ => "list"
  | .dct _ => "dict"
  | .ins _ _ => ""
def rMo (c : Cn) (mop : OV → List D → Option (D × OV)) : V → List V → Hp → VK → Prop := fun x xs H Q => ∃ G P o ds r o', Same G H ∧ (∀ b, P b → G b = none) ∧ (∀ b, P b → ∃ u, H b = some u) ∧ OwR c G H P o x ∧ Reps c G ds xs ∧ mop o ds = some (r, o') ∧
  ∀ H' v', (∀ b, ¬ P b → H' b = H b) → (∀ b, P b → ∃ u, H' b = some u) → OwR c G H' P o' x → Rep c G r v' → Q v' H'
def methR (j : Nat) (mop : OV → List D → Option (D × OV)) (rs : List R) : M R := fun ρ => match ρ[j]?, valsR rs with
  | some (.ow k o), some ds => match mop o ds with
    | some (d, o') => .ok (.val d) (ρ.set j (.ow k o'))
    | none => .bad
  | _, _ => .bad
def isOw (T : String) (ρ : Ro) (j : Nat) : Bool := match ρ[j]? with
  | some (.ow _ o) => o.ty == T
  | _ => false
def eMeth (T : String) (j : Nat) (mop : OV → List D → Option (D × OV)) (fa : M (List R)) : M R := fun ρ => if isOw T ρ j = true then (fa.bind (methR j mop)) ρ else .bad
theorem SR.chg {j : Nat} {k : Bool} {o o' : OV} {v : V} {H' : Hp} (S : SR c σ0 G own ρ σ H) (h : ρ[j]? = some (.ow k o)) (hv : σ[j]? = some (some v)) (hH : ∀ b, ¬ own j b → H' b = H b) (ht : ∀ b, own j b → ∃ u, H' b = some u) (r : OwR c G H' (own j) o' v) :
    SR c σ0 G own (ρ.set j (.ow k o')) σ H' ∧ Tr ρ σ G own H (ρ.set j (.ow k o')) σ G own H' := by
  have hj := lt_of_get h
  refine ⟨⟨fun b u e => ?_, S.out, fun i b p => ?_, S.dis, by rw [List.length_set]; exact S.len, fun i s z => ?_, fun i s z q => ?_⟩, ⟨Same.refl _, fun b u e n => ?_, fun b u e => .inl e, fun b p => .inl p, fun i q u z => ?_⟩⟩
  · rw [hH b fun p => by rw [S.out j b p] at e; cases e]
    exact S.same b u e
  · by_cases z : own j b
    · exact ht b z
    · rw [hH b z]; exact S.there i b p
  · by_cases e : j = i
    · subst e
      rw [List.getElem?_set_self hj] at z
      cases z
      exact ⟨v, hv, r⟩
    · rw [List.getElem?_set_ne e] at z
      refine (S.slot i s z).at (Same.refl _) (fun b u p q => ?_) fun _ p => p
      rw [hH b fun z => e (S.dis j i b z p)]
      exact q
  · by_cases e : j = i
    · subst e
      rw [List.getElem?_set_self hj] at z
      cases z
      exact S.io j _ h q
    · rw [List.getElem?_set_ne e] at z
      exact S.io i s z q
  · rw [hH b fun p => n ⟨j, p⟩]; exact e
  · have ne : j ≠ i := fun e => by
      subst e
      rw [h] at z; cases z
    rw [List.getElem?_set_ne ne]
    exact ⟨z, rfl⟩
theorem tyV_of {j : Nat} {T : String} {v : V} (S : SR c σ0 G own ρ σ H) (h : isOw T ρ j = true) (hT : T ≠ "") : ∃ v, σ[j]? = some (some v) ∧ tyV X.K T v H := by
  unfold isOw at h
  cases e : ρ[j]? with
  | none => rw [e] at h; cases h
  | some s =>
    rw [e] at h
    cases s with
    | ow k o =>
      have h : (o.ty == T) = true := h
      obtain ⟨v, hv, r⟩ := S.slot j _ e
      refine ⟨v, hv, ?_⟩
      have hh : o.ty = T := eq_of_beq h
      cases o with
      | lst ds =>
        obtain ⟨a, vs, rfl, _, hs, _⟩ := r
        exact .inl ⟨hh.symm, vs, .inl (.inl hs)⟩
      | dct ds =>
        obtain ⟨a, vs, rfl, _, hs, _⟩ := r
        exact .inr (.inr (.inl ⟨hh.symm, .inl ⟨_, hs⟩⟩))
      | ins n fs => exact absurd hh.symm hT
    | _ => cases h
theorem XP.meth {j : Nat} {mop : OV → List D → Option (D × OV)} {rs : List R} {vs : List V} {v : V} {Q : VK} (S : SR c σ0 G own ρ σ H) (h : XP (relR c) c σ0 W σ ρ G own H Q (methR j mop rs ρ)) (h1 : RRs c G σ rs vs) (hv : σ[j]? = some (some v)) : rMo c mop v vs H Q := by
  unfold methR at h
  cases e : ρ[j]? with
  | none => rw [e] at h; exact h.elim
  | some s =>
    cases e2 : valsR rs with
    | none => rw [e, e2] at h; cases s <;> exact h.elim
    | some ds =>
      rw [e, e2] at h
      cases s with
      | ow k o =>
        dsimp only at h
        cases e3 : mop o ds with
        | none => rw [e3] at h; exact h.elim
        | some p =>
          obtain ⟨d, o'⟩ := p
          rw [e3] at h
          obtain ⟨w, hw, r⟩ := S.slot j _ e
          rw [hv] at hw; cases hw
          refine ⟨G, own j, o, ds, d, o', S.same, S.out j, S.there j, r, h1.vals e2, e3, fun H' v' hH ht r' rd => ?_⟩
          obtain ⟨S', t'⟩ := S.chg e hv hH ht r'
          exact h G own H' v' t' S' rd
      | _ => exact h.elim
theorem de_meth {j : Nat} {o : Expr} {name : Str} {apos cpos : Pos} {mop : OV → List D → Option (D × OV)} (pa : PlainAttrs T) (slot : Slot T name id) (hty : typeOf (.builtin id) = pure (.type "method_descriptor")) (hT : T ≠ "") (hm : MtR X id (rMo c mop)) (ho : PE X o (tVar j)) (ha : PA X (e :: es) (tA c σ0 W fa))
    (hbase : attributeBase o name X.env (eval o X.env) = eval o X.env := by rfl)
    (hfew : ((backTo cpos (starEach (e :: es) X.env)).all (fun x => !x.1) && (backToKw cpos (keywordEach [] X.env)).all (fun x => x.1.isSome)
      && decide ((e :: es).length + ([] : List Keyword).length + (if ([] : List Keyword).isEmpty then 0 else 1) < 30)) = true := by rfl)
    (hline : (apos.endLine == cpos.line) = true := by rfl) (hs : starEach (e :: es) X.env = (false, eval e X.env) :: starEach es X.env := by rfl) (hplain : (backTo cpos (starEach es X.env)).any (·.1) = false := by rfl) :
    PE X (.Call (.Attribute o name apos) (e :: es) [] cpos) (tD c σ0 W (eMeth T j mop fa)) :=
  PE.imp (pe_bm pa slot hty hm ho ha hbase hfew hline hs hplain) fun σ H Q h => by
    obtain ⟨G, own, ρ, S, h⟩ := h
    unfold eMeth at h
    by_cases hi : isOw T ρ j = true
    · rw [if_pos hi] at h
      obtain ⟨v, hv, ty⟩ := tyV_of (X := X) (v := .non) S hi hT
      refine ⟨v, hv, ty, XP.bind S h fun rs ρ1 G1 own1 H1 vs t1 S1 R1 h1 => ?_⟩
      exact XP.meth S1 (XP.from t1 h1 (relR_mono c)) R1 hv
    · rw [if_neg hi] at h; exact h.elim
theorem de_meth0 {j : Nat} {o : Expr} {name : Str} {apos cpos : Pos} {mop : OV → List D → Option (D × OV)} (pa : PlainAttrs T) (slot : Slot T name id) (hty : typeOf (.builtin id) = pure (.type "method_descriptor")) (hT : T ≠ "") (hm : MtR X id (rMo c mop)) (ho : PE X o (tVar j))
    (hbase : attributeBase o name X.env (eval o X.env) = eval o X.env := by rfl) (hline : (apos.endLine == cpos.line) = true := by rfl) :
    PE X (.Call (.Attribute o name apos) [] [] cpos) (tD c σ0 W (eMeth T j mop eNil)) :=
  PE.imp (pe_bm0 pa slot hty hm ho hbase hline) fun σ H Q h => by
    obtain ⟨G, own, ρ, S, h⟩ := h
    unfold eMeth at h
    by_cases hi : isOw T ρ j = true
    · rw [if_pos hi] at h
      obtain ⟨v, hv, ty⟩ := tyV_of (X := X) (v := .non) S hi hT
      refine ⟨v, hv, ty, ?_⟩
      have h2 : XP (relR c) c σ0 W σ ρ G own H Q (methR j mop [] ρ) := h
      exact XP.meth S h2 .nil hv
    · rw [if_neg hi] at h; exact h.elim

def moAppend : OV → List D → Option (D × OV)
  | .lst ds, [d] => if ds.length < sizeLine then some (.non, .lst (ds ++ [d])) else none
  | _, _ => none
def moPop : OV → List D → Option (D × OV)
  | .lst ds, [] => (ds[ds.length - 1]?).map fun d => (d, .lst ds.dropLast)
  | _, _ => none
def moPopAt : OV → List D → Option (D × OV)
  | .lst ds, [.int i] => if (decide (-(2 ^ 63) ≤ i) && decide (i < 2 ^ 63)) = true then (seqIndex? i ds.length).bind fun k => (ds[k]?).map fun d => (d, .lst (ds.eraseIdx k)) else none
  | _, _ => none
def moInsert : OV → List D → Option (D × OV)
  | .lst ds, [.int i, d] => if (decide (0 ≤ i) && decide (i < 2 ^ 63) && decide (ds.length < sizeLine)) = true then some (.non, .lst (ds.take i.toNat ++ [d] ++ ds.drop i.toNat)) else none
  | _, _ => none
theorem Reps.one {d : D} {xs : List V} (h : Reps c G [d] xs) : ∃ v, xs = [v] ∧ Rep c G d v := by
  cases h with
  | cons h t => cases t; exact ⟨_, rfl, h⟩
/-- the list at a is written -/
theorem lst_upd {P : Addr → Prop} {p : Addr} {ds : List D} {vs : List V} (hp : P p) (ht : ∀ b, P b → ∃ u, H b = some u) (r : Reps c G ds vs) :
    (∀ b, ¬ P b → (upd H p (.lst vs)) b = H b) ∧ (∀ b, P b → ∃ u, (upd H p (.lst vs)) b = some u) ∧ OwR c G (upd H p (.lst vs)) P (.lst ds) (.ref p) := by
  refine ⟨fun b n => upd_ne fun e => n (by rw [e]; exact hp), fun b q => ?_, p, vs, rfl, hp, upd_same, r⟩
  by_cases e : b = p
  · exact ⟨_, by rw [e]; exact upd_same⟩
  · rw [upd_ne e]; exact ht b q
theorem mo_append : MtR X "list.append" (rMo c moAppend) := by
  intro pins s σ H x xs v us Q I rx rs ⟨G, P, o, ds, r, o', sg, hn, ht, ow, rd, ho, k⟩
  cases o with
  | lst es =>
    cases ds with
    | nil => cases ho
    | cons d ds =>
      cases ds with
      | cons _ _ => cases ho
      | nil =>
        have ho : (if es.length < sizeLine then some (D.non, OV.lst (es ++ [d])) else none) = some (r, o') := ho
        by_cases hl : es.length < sizeLine
        · rw [if_pos hl] at ho
          cases ho
          obtain ⟨a, vs, rfl, hp, hs, q⟩ := ow
          obtain ⟨w, rfl, h⟩ := rd.one
          obtain ⟨u1, u2, u3⟩ := lst_upd (H := H) hp ht (q.append (.cons h .nil))
          exact mt_append pins s σ H _ _ v us Q I rx rs ⟨a, vs, w, rfl, rfl, hs, by rw [← q.length]; exact hl, k _ _ u1 u2 u3 .non⟩
        · rw [if_neg hl] at ho; cases ho
  | _ => cases ds <;> cases ho
theorem Reps.dropLast {ds : List D} {vs : List V} (r : Reps c G ds vs) : Reps c G ds.dropLast vs.dropLast := by
  rw [List.dropLast_eq_take, List.dropLast_eq_take, ← r.length]
  exact r.take _
theorem mo_pop : MtR X "list.pop" (rMo c moPop) := by
  intro pins s σ H x xs v us Q I rx rs ⟨G, P, o, ds, r, o', sg, hn, ht, ow, rd, ho, k⟩
  cases o with
  | lst es =>
    cases ds with
    | cons _ _ => cases ho
    | nil =>
      have ho : (es[es.length - 1]?).map (fun d => (d, OV.lst es.dropLast)) = some (r, o') := ho
      cases e : es[es.length - 1]? with
      | none => rw [e] at ho; cases ho
      | some d =>
        rw [e] at ho
        cases ho
        cases rd
        obtain ⟨a, vs, rfl, hp, hs, q⟩ := ow
        obtain ⟨w, hw, rw'⟩ := q.get e
        obtain ⟨u1, u2, u3⟩ := lst_upd (H := H) hp ht q.dropLast
        exact mt_pop pins s σ H _ _ v us Q I rx rs ⟨a, vs, w, rfl, rfl, hs, by rw [← q.length]; exact hw, k _ _ u1 u2 u3 rw'⟩
  | _ => cases ds <;> cases ho
theorem mo_popAt : MtR X "list.pop" (rMo c moPopAt) := by
  intro pins s σ H x xs v us Q I rx rs ⟨G, P, o, ds, r, o', sg, hn, ht, ow, rd, ho, k⟩
  cases o with
  | lst es =>
    cases ds with
    | nil => cases ho
    | cons d ds =>
      cases ds with
      | cons _ _ => cases d <;> cases ho
      | nil =>
        cases d with
        | int i =>
          have ho : (if (decide (-(2 ^ 63) ≤ i) && decide (i < 2 ^ 63)) = true then (seqIndex? i es.length).bind fun k => (es[k]?).map fun d => (d, OV.lst (es.eraseIdx k)) else none) = some (r, o') := ho
          by_cases hm : (decide (-(2 ^ 63) ≤ i) && decide (i < 2 ^ 63)) = true
          · rw [if_pos hm] at ho
            simp only [Bool.and_eq_true, decide_eq_true_eq] at hm
            cases e1 : seqIndex? i es.length with
            | none => rw [e1] at ho; cases ho
            | some kk =>
              rw [e1] at ho
              have ho : (es[kk]?).map (fun d => (d, OV.lst (es.eraseIdx kk))) = some (r, o') := ho
              cases e : es[kk]? with
              | none => rw [e] at ho; cases ho
              | some d =>
                rw [e] at ho
                cases ho
                obtain ⟨w0, rfl, h⟩ := rd.one
                cases h
                obtain ⟨a, vs, rfl, hp, hs, q⟩ := ow
                obtain ⟨w, hw, rw'⟩ := q.get e
                obtain ⟨u1, u2, u3⟩ := lst_upd (H := H) hp ht (q.erase kk)
                exact mt_popAt pins s σ H _ _ v us Q I rx rs ⟨a, vs, i, kk, w, rfl, rfl, hs, hm.1, hm.2, by rw [← q.length]; exact e1, hw, k _ _ u1 u2 u3 rw'⟩
          · rw [if_neg hm] at ho; cases ho
        | _ => cases ho
  | _ => cases ds <;> cases ho
theorem mo_insert : MtR X "list.insert" (rMo c moInsert) := by
  intro pins s σ H x xs v us Q I rx rs ⟨G, P, o, ds, r, o', sg, hn, ht, ow, rd, ho, k⟩
  cases o with
  | lst es =>
    cases ds with
    | nil => cases ho
    | cons d ds =>
      cases ds with
      | nil => cases d <;> cases ho
      | cons d2 ds =>
        cases ds with
        | cons _ _ => cases d <;> cases ho
        | nil =>
          cases d with
          | int i =>
            have ho : (if (decide (0 ≤ i) && decide (i < 2 ^ 63) && decide (es.length < sizeLine)) = true then some (D.non, OV.lst (es.take i.toNat ++ [d2] ++ es.drop i.toNat)) else none) = some (r, o') := ho
            by_cases hm : (decide (0 ≤ i) && decide (i < 2 ^ 63) && decide (es.length < sizeLine)) = true
            · rw [if_pos hm] at ho
              simp only [Bool.and_eq_true, decide_eq_true_eq] at hm
              cases ho
              cases rd with
              | cons h1 rd =>
                obtain ⟨w, rfl, h⟩ := rd.one
                cases h1
                obtain ⟨a, vs, rfl, hp, hs, q⟩ := ow
                obtain ⟨u1, u2, u3⟩ := lst_upd (H := H) hp ht (((q.take i.toNat).append (.cons h .nil)).append (q.drop i.toNat))
                exact mt_insert pins s σ H _ _ v us Q I rx rs ⟨a, vs, i, w, rfl, rfl, hs, by rw [← q.length]; exact hm.2, hm.1.1, hm.1.2, k _ _ u1 u2 u3 .non⟩
            · rw [if_neg hm] at ho; cases ho
          | _ => cases ho
  | _ => cases ds <;> cases ho

/-! ### stores into a slot's own object -/
def putD (kvs : List (Key × D)) (k : Key) (v : D) : List (Key × D) :=
  if (kvs.any fun kv => decide (kv.1 = k)) = true then kvs.map (fun kv => if kv.1 = k then (kv.1, v) else kv) else kvs ++ [(k, v)]
def setO : OV → D → D → Option OV
  | .lst ds, .int i, d => (ixN ds.length i).map fun j => .lst (ds.set j d)
  | .dct kvs, k, d => (keyD k).bind fun k => if kvs.length < sizeLine then some (.dct (putD kvs k d)) else none
  | _, _, _ => none
def rSo (c : Cn) : TSet := fun x i v H Q => ∃ G P o di d o', Same G H ∧ (∀ b, P b → G b = none) ∧ (∀ b, P b → ∃ u, H b = some u) ∧ OwR c G H P o x ∧ RepR c G H di i ∧ Rep c G d v ∧ setO o di d = some o' ∧
  ∀ H', (∀ b, ¬ P b → H' b = H b) → (∀ b, P b → ∃ u, H' b = some u) → OwR c G H' P o' x → Q H'
theorem put_keys {ds : List (Key × D)} {kvs : List (Key × V)} {k : Key} {d : D} {v : V} (h : ds.map (·.1) = kvs.map (·.1)) (r : Reps c G (ds.map (·.2)) (kvs.map (·.2))) (rd : Rep c G d v) :
    (putD ds k d).map (·.1) = (putK kvs k v).map (·.1) ∧ Reps c G ((putD ds k d).map (·.2)) ((putK kvs k v).map (·.2)) := by
  have ha : (ds.any fun kv => decide (kv.1 = k)) = kvs.any fun kv => decide (kv.1 = k) := by
    have e1 : (ds.any fun kv => decide (kv.1 = k)) = (ds.map (·.1)).any fun y => decide (y = k) := by rw [List.any_map]; rfl
    have e2 : (kvs.any fun kv => decide (kv.1 = k)) = (kvs.map (·.1)).any fun y => decide (y = k) := by rw [List.any_map]; rfl
    rw [e1, e2, h]
  unfold putD putK
  rw [ha]
  by_cases z : (kvs.any fun kv => decide (kv.1 = k)) = true
  · rw [if_pos z, if_pos z]
    clear ha z
    induction ds generalizing kvs with
    | nil =>
      cases kvs with
      | nil => exact ⟨rfl, .nil⟩
      | cons _ _ => cases h
    | cons p ds ih =>
      cases kvs with
      | nil => cases h
      | cons q kvs =>
        rw [List.map_cons, List.map_cons] at h
        injection h with h1 h2
        rw [List.map_cons, List.map_cons] at r
        cases r with
        | cons r1 r2 =>
          obtain ⟨i1, i2⟩ := ih h2 r2
          rw [List.map_cons, List.map_cons, List.map_cons, List.map_cons, List.map_cons, List.map_cons]
          by_cases e : p.1 = k
          · have e' : q.1 = k := h1.symm.trans e
            rw [if_pos e, if_pos e']
            exact ⟨by rw [i1]; simp [h1], .cons rd i2⟩
          · have e' : ¬ q.1 = k := fun w => e (h1.trans w)
            rw [if_neg e, if_neg e']
            exact ⟨by rw [i1]; simp [h1], .cons r1 i2⟩
  · rw [if_neg z, if_neg z]
    rw [List.map_append, List.map_append, List.map_append, List.map_append]
    exact ⟨by rw [h]; rfl, r.append (.cons rd .nil)⟩
theorem set_O (hu : X.A.units + 1 < cLine) : PSet X (rSo c) := by
  intro pins s σ H x i v ov iv u Q I ro ri rv ⟨G, P, o, di, d, o', sg, hn, ht, ow, hi, hd, ho, k⟩
  cases o with
  | lst es =>
    cases di with
    | int ii =>
      have ho : (ixN es.length ii).map (fun j => OV.lst (es.set j d)) = some o' := ho
      cases e : ixN es.length ii with
      | none => rw [e] at ho; cases ho
      | some j =>
        rw [e] at ho
        cases ho
        cases hi
        obtain ⟨a, vs, rfl, hp, hs, q⟩ := ow
        obtain ⟨u1, u2, u3⟩ := lst_upd (H := H) hp ht (q.set hd j)
        exact set_list pins s σ H _ _ _ ov iv u Q I ro ri rv ⟨a, vs, ii, j, rfl, rfl, hs, by rw [← q.length]; exact e, k _ u1 u2 u3⟩
    | _ => cases ho
  | dct kvs =>
    have ho : (keyD di).bind (fun k => if kvs.length < sizeLine then some (OV.dct (putD kvs k d)) else none) = some o' := ho
    cases e : keyD di with
    | none => rw [e] at ho; cases ho
    | some kk =>
      rw [e] at ho
      have ho : (if kvs.length < sizeLine then some (OV.dct (putD kvs kk d)) else none) = some o' := ho
      by_cases hl : kvs.length < sizeLine
      · rw [if_pos hl] at ho
        cases ho
        obtain ⟨a, kv, rfl, hp, hs, m, q⟩ := ow
        have hx := keyD_rep hi e
        subst hx
        obtain rfl : ov = Value.ref a := ro
        obtain ⟨p1, p2⟩ := put_keys m q hd (k := kk)
        have hlen : kvs.length = kv.length := by
          have := congrArg List.length m
          rw [List.length_map, List.length_map] at this
          exact this
        refine d_setItem (H' := upd H a (.dK (putK kv kk v))) hu I (.inl ⟨kv, kk, hs, rfl, by rw [← hlen]; exact hl, rfl⟩) ri rv fun s4 I4 => ⟨_, I4, k _ (fun b n => upd_ne fun e => n (by rw [e]; exact hp)) (fun b z => ?_) ⟨a, _, rfl, hp, upd_same, p1, p2⟩⟩
        by_cases ee : b = a
        · exact ⟨_, by rw [ee]; exact upd_same⟩
        · rw [upd_ne ee]; exact ht b z
      · rw [if_neg hl] at ho; cases ho
  | ins _ _ => cases ho
def isOwn (ρ : Ro) (j : Nat) : Bool := match ρ[j]? with
  | some (.ow _ _) => true
  | _ => false
def setR (j : Nat) (r ri : R) : S := fun ρ => match r, ρ[j]?, deref ρ ri with
  | .val d, some (.ow k o), some di => match setO o di d with
    | some o' => .nx (ρ.set j (.ow k o'))
    | none => .bad
  | _, _, _ => .bad
def setK (j : Nat) (fi : M R) (r : R) : S := fun ρ => if isOwn ρ j = true then sBind fi (setR j r) ρ else .bad
def sSet (j : Nat) (fv fi : M R) : S := sBind (eFz fv) (setK j fi)
theorem SPo.set {j : Nat} {fi : M R} {r : R} {v : V} {E : Ends} {ρ0 : Ro} {G0 H0 : Hp} {own0 : Own} {σ00 : St} {N : Addr → Prop} (S : SR c σ0 G own ρ σ H) (t : Tr ρ0 σ00 G0 own0 H0 ρ σ G own H) (R1 : RR c G own σ H N r v) (h : SPo c σ0 W σ00 ρ0 G0 own0 H0 E (setK j fi r ρ)) :
    gSub (tVar j) (tD c σ0 W fi) (rSo c) v σ H E.nx := by
  have h := h.from t
  unfold setK at h
  by_cases hi : isOwn ρ j = true
  · rw [if_pos hi] at h
    have hx : ∃ x, σ[j]? = some (some x) := by
      unfold isOwn at hi
      cases e : ρ[j]? with
      | none => rw [e] at hi; cases hi
      | some s =>
        rw [e] at hi
        cases s with
        | ow k o =>
          obtain ⟨x, hx, _⟩ := S.slot j _ e
          exact ⟨x, hx⟩
        | _ => cases hi
    obtain ⟨x, hx⟩ := hx
    refine ⟨x, hx, SPo.bind S h fun ri ρ1 G1 own1 H1 vi t1 S1 R2 h1 => ?_⟩
    have h1 := h1.from t1
    unfold setR at h1
    cases r with
    | val d =>
      cases e : ρ1[j]? with
      | none => rw [e] at h1; exact h1.elim
      | some s =>
        cases e1 : deref ρ1 ri with
        | none => rw [e, e1] at h1; cases s <;> exact h1.elim
        | some di =>
          rw [e, e1] at h1
          cases s with
          | ow k o =>
            dsimp only at h1
            cases e3 : setO o di d with
            | none => rw [e3] at h1; exact h1.elim
            | some o' =>
              rw [e3] at h1
              obtain ⟨w, hw, r⟩ := S1.slot j _ e
              rw [hx] at hw; cases hw
              refine ⟨G1, own1 j, o, di, d, o', S1.same, S1.out j, S1.there j, r, deref_rd S1 R2 e1, Rep.mono t1.ext R1, e3, fun H' hH ht r' => ?_⟩
              obtain ⟨S', t'⟩ := S1.chg e hx hH ht r'
              exact h1 σ G1 own1 H' t' S'
          | _ => exact h1.elim
    | sl _ => cases h1
    | nw _ => cases h1
  · rw [if_neg hi] at h; exact h.elim
theorem ds_sub {j : Nat} {x i value : Expr} {pos' spos : Pos} {fv fi : M R} (hu : X.A.units + 1 < cLine) (hx : PE X x (tVar j)) (hi : PE X i (tD c σ0 W fi)) (hv : PE X value (tD c σ0 W fv))
    (hs : swapsWithSole [.Subscript x i pos'] value spos.line X.env = pure false := by rfl) (hw : swappedStores [.Subscript x i pos'] value X.env = pure none := by rfl)
    (h1 : (assignEach [.Subscript x i pos'] X.env).map (·.2) = [assign (.Subscript x i pos') X.env] := by rfl)
    (ha : ∀ v, assign (.Subscript x i pos') X.env v = (do
      let ov ← holding [v] (eval x X.env)
      let iv ← holding [v, ov] (eval i X.env)
      standAt pos'
      holding [v, ov, iv] (setItem ov iv v)
      release [v, ov, iv] []) := by intro _; rfl) : PS X (.Assign [.Subscript x i pos'] value spos) (tS c σ0 W (sSet j fv fi)) :=
  PS.imp (ps_asg (de_fz hv) (pg_sub hx hi (set_O hu) ha) hs hw h1) fun E σ H q => by
    obtain ⟨G, own, ρ, S, q⟩ := q
    exact SPo.bind S q fun r ρ1 G1 own1 H1 v t1 S1 R1 h1 => SPo.set S1 t1 R1 h1
end
end DL

/-! DLn: subscripts, slices, f-strings, globals. -/
namespace DL
open PySem PySem.Spec PyProof.Rows L2

/-! ### subscripts -/
def opIx : D → D → Option R
  | .lst ds, .int i => (atI ds i).map .val
  | .tup ds, .int i => (atI ds i).map .val
  | .scr ns, .int i => (atI ns i).map fun n => .val (.int n)
  | .str z, .int i => if z.length ≤ sizeLine then (atI z.cps.toList i).bind fun c => vS ⟨#[c]⟩ else none
  | .dct kvs, k => (keyD k).bind fun k => (kvs.find? fun kv => decide (kv.1 = k)).map fun p => .val p.2
  | _, _ => none
section
variable {X : Cx} {c : Cn} {σ0 : St} {W : WX} {σ : St} {ρ : Ro} {G H : Hp} {own : Own} {a b e : Expr} {es : List Expr} {pos p p2 : Pos} {x : Str} {f g : M R} {fa : M (List R)}
theorem Reps.at {ds : List D} {vs : List V} {i : Int} {d : D} (r : Reps c G ds vs) (h : atI ds i = some d) : ∃ v, atI vs i = some v ∧ Rep c G d v := by
  unfold atI at h ⊢
  rw [← r.length]
  cases e : ixN ds.length i with
  | none => rw [e] at h; cases h
  | some j =>
    rw [e] at h
    exact r.get h
theorem keys_get {ds : List (Key × D)} {kvs : List (Key × V)} {k : Key} {p : Key × D} (h : ds.map (·.1) = kvs.map (·.1)) (r : Reps c G (ds.map (·.2)) (kvs.map (·.2))) (e : ds.find? (fun kv => decide (kv.1 = k)) = some p) : ∃ v, valV kvs k = some v ∧ Rep c G p.2 v := by
  induction ds generalizing kvs with
  | nil => cases e
  | cons q ds ih =>
    cases kvs with
    | nil => cases h
    | cons w kvs =>
      rw [List.map_cons, List.map_cons] at h
      injection h with h1 h2
      rw [List.map_cons, List.map_cons] at r
      cases r with
      | cons r1 r2 =>
        rw [List.find?_cons] at e
        by_cases z : q.1 = k
        · rw [decide_eq_true z] at e
          cases e
          exact ⟨w.2, valV_pos (h1.symm.trans z), r1⟩
        · rw [decide_eq_false z] at e
          obtain ⟨v, hv, rv⟩ := ih h2 r2 e
          refine ⟨v, ?_, rv⟩
          rw [← hv]
          unfold valV
          rw [List.find?_cons, decide_eq_false fun y => z (h1.trans y)]
theorem ix_D (hK : c.K = X.K) (hu : X.A.units + 1 < cLine) : IxR X (rD c opIx) := by
  intro value slice pins s σ H x y v u Q I rx ry ⟨G, d, e, r, sg, hd, he, ho, k⟩ hs
  cases d with
  | lst ds =>
    cases e with
    | int i =>
      have ho : (atI ds i).map R.val = some r := ho
      cases q : atI ds i with
      | none => rw [q] at ho; cases ho
      | some z =>
        rw [q] at ho
        cases ho; cases he
        obtain ⟨a, vs, rfl, h1, r1⟩ := hd
        obtain ⟨w, hw, rw'⟩ := r1.at q
        exact ix_list value slice pins s σ H _ _ v u Q I rx ry ⟨a, vs, i, w, rfl, rfl, .inl (.inl h1), hw, k G H _ (New.refl sg) rw'⟩ hs
    | _ => cases ho
  | tup ds =>
    cases e with
    | int i =>
      have ho : (atI ds i).map R.val = some r := ho
      cases q : atI ds i with
      | none => rw [q] at ho; cases ho
      | some z =>
        rw [q] at ho
        cases ho; cases he
        obtain ⟨a, vs, rfl, h1, r1⟩ := hd
        obtain ⟨w, hw, rw'⟩ := r1.at q
        have h1' := sqT_same sg h1
        rw [hK] at h1'
        exact ix_tup value slice pins s σ H _ _ v u Q I rx ry ⟨a, vs, i, w, rfl, rfl, h1', hw, k G H _ (New.refl sg) rw'⟩ hs
    | _ => cases ho
  | scr ns =>
    cases e with
    | int i =>
      have ho : (atI ns i).map (fun n => R.val (.int n)) = some r := ho
      cases q : atI ns i with
      | none => rw [q] at ho; cases ho
      | some z =>
        rw [q] at ho
        cases ho; cases he
        obtain ⟨a, rfl, h1⟩ := hd
        rw [hK] at h1
        have hz : atI (ns.map V.int) i = some (V.int z) := by
          unfold atI at q ⊢
          rw [List.length_map]
          cases e : ixN ns.length i with
          | none => rw [e] at q; cases q
          | some j =>
            rw [e] at q
            have q : ns[j]? = some z := q
            show (ns.map V.int)[j]? = _
            rw [List.getElem?_map, q]; rfl
        exact ix_list value slice pins s σ H _ _ v u Q I rx ry ⟨a, _, i, _, rfl, rfl, h1, hz, k G H _ (New.refl sg) (Rep.int _)⟩ hs
    | _ => cases ho
  | str z =>
    cases e with
    | int i =>
      have ho : (if z.length ≤ sizeLine then (atI z.cps.toList i).bind (fun c => vS ⟨#[c]⟩) else none) = some r := ho
      by_cases hl : z.length ≤ sizeLine
      · rw [if_pos hl] at ho
        cases q : atI z.cps.toList i with
        | none => rw [q] at ho; cases ho
        | some ch =>
          rw [q] at ho
          cases ho; cases he; cases hd
          exact ix_str value slice pins s σ H _ _ v u Q I rx ry ⟨z, i, ch, rfl, rfl, hl, q, k G H _ (New.refl sg) (Rep.str _)⟩ hs
      · rw [if_neg hl] at ho; cases ho
    | _ => cases ho
  | dct kvs =>
    have ho : (keyD e).bind (fun k => (kvs.find? fun kv => decide (kv.1 = k)).map fun p => R.val p.2) = some r := ho
    cases ek : keyD e with
    | none => rw [ek] at ho; cases ho
    | some kk =>
      rw [ek] at ho
      have ho : (kvs.find? fun kv => decide (kv.1 = kk)).map (fun p => R.val p.2) = some r := ho
      cases ef : kvs.find? (fun kv => decide (kv.1 = kk)) with
      | none => rw [ef] at ho; cases ho
      | some p =>
        rw [ef] at ho
        cases ho
        obtain ⟨a, kv, rfl, h1, m, rr⟩ := hd
        obtain ⟨w, hw, rw'⟩ := keys_get m rr ef
        have hx := keyD_rep he ek
        subst hx
        obtain rfl : v = Value.ref a := rx
        have g : DGet H a (kV kk) (some w) := by rw [← hw]; exact DGet.k h1
        exact tail_any (dict_typeIs I g) PySem.F.slot_dict_getitem.lookup (d_getItem hu I g ry fun w' s' I' rw2 => ⟨w, H, I', rw2, k G H _ (New.refl sg) rw'⟩) hs
  | _ => cases e <;> cases ho
theorem de_ix (hK : c.K = X.K) (hu : X.A.units + 1 < cLine) (ha : PE X a (tD c σ0 W f)) (hb : PE X b (tD c σ0 W g)) (hs : PlainIx b) : PE X (.Subscript a b pos) (tD c σ0 W (eBin opIx f g)) :=
  PE.imp (pe_ix (ix_D hK hu) ha hb hs) fun _ _ _ h => tOp_of h

/-! ### slices -/
def cutD (xs : List D) (lo hi : Option Int) : List D := (xs.drop (HT.sIx xs.length 0 lo)).take (HT.sIx xs.length xs.length hi - HT.sIx xs.length 0 lo)
def opSl : D → Option Int → Option Int → Option R
  | .lst ds, lo, hi => some (.nw (.lst (cutD ds lo hi)))
  | .tup ds, lo, hi => some (.val (.tup (cutD ds lo hi)))
  | .scr ns, lo, hi => some (.nw (.lst (cutD (ns.map .int) lo hi)))
  | .str z, lo, hi => if z.length ≤ sizeLine then vS (cutS z lo hi) else none
  | _, _, _ => none
abbrev relO : Rl (Option Int) (Option Int) := fun _ _ _ _ _ b b' => b = b'
theorem relO_mono : RlMono relO := fun _ _ _ _ _ _ _ _ _ r => r
abbrev tOi (c : Cn) (σ0 : St) (W : WX) (f : M (Option Int)) : TO := tX relO c σ0 W f
def eNoP : M (Option Int) := M.ret none
def partR (r : R) : M (Option Int) := fun ρ => match deref ρ r with
  | some (.int i) => .ok (some i) ρ
  | _ => .bad
def eP (f : M R) : M (Option Int) := f.bind partR
def slR (r : R) (lo hi : Option Int) : M R := fun ρ => match deref ρ r with
  | some d => M.of (opSl d lo hi) ρ
  | _ => .bad
def eSl (f : M R) (fl fh : M (Option Int)) : M R := f.bind fun r => fl.bind fun lo => fh.bind fun hi => slR r lo hi
theorem do_none : PO X none (tOi c σ0 W eNoP) := ⟨fun pins s σ H Q I q => po_none.run pins s σ H Q I (by
  obtain ⟨G, own, ρ, S, q⟩ := q
  exact q G own H none Tr.refl S rfl)⟩
theorem do_some (h : PE X e (tD c σ0 W f)) : PO X (some e) (tOi c σ0 W (eP f)) := ⟨fun pins s σ H Q I q => (po_some h).run pins s σ H Q I (by
  obtain ⟨G, own, ρ, S, q⟩ := q
  refine XP.bind S q fun r ρ1 G1 own1 H1 v t1 S1 R1 h1 => ?_
  unfold partR at h1
  cases e1 : deref ρ1 r with
  | none => rw [e1] at h1; exact h1.elim
  | some d =>
    rw [e1] at h1
    cases d with
    | int i =>
      have z := deref_rd S1 R1 e1
      cases z
      exact ⟨i, rfl, h1 G1 own1 H1 _ t1 S1 rfl⟩
    | _ => exact h1.elim)⟩
def rSlD (c : Cn) : V → Option Int → Option Int → Hp → VK → Prop := fun x lo hi H Q => ∃ G d r, Same G H ∧ RepR c G H d x ∧ opSl d lo hi = some r ∧ ∀ G' H' v', New G H G' H' → RO c G' H' H r v' → Q v' H'
theorem Reps.cut {ds : List D} {vs : List V} (r : Reps c G ds vs) (lo hi : Option Int) : Reps c G (cutD ds lo hi) (cutV vs lo hi) := by
  unfold cutD cutV
  rw [← r.length]
  exact (r.drop _).take _
theorem cut_whole {ds : List D} {lo hi : Option Int} (h : HT.sIx ds.length 0 lo = 0 ∧ HT.sIx ds.length ds.length hi = ds.length) : cutD ds lo hi = ds := by
  unfold cutD
  rw [h.1, h.2]
  simp
theorem sl_D (hK : c.K = X.K) : L2.SlR X (rSlD c) := by
  intro pins s σ H x v vl vu lo hi sl Q I rx hs pl pu ⟨G, d, r, sg, hd, ho, k⟩
  cases d with
  | lst ds =>
    cases ho
    obtain ⟨a, vs, rfl, h1, r1⟩ := hd
    refine sl_list pins s σ H _ v vl vu lo hi sl Q I rx hs pl pu ⟨a, vs, rfl, .inl (.inl h1), fun p hp => ?_⟩
    obtain ⟨n, o⟩ := RO.nwl (r1.cut lo hi) sg hp
    exact k G _ _ n o
  | tup ds =>
    cases ho
    obtain ⟨a, vs, rfl, h1, r1⟩ := hd
    have h1' := sqT_same sg h1
    rw [hK] at h1'
    refine sl_tupA pins s σ H _ v vl vu lo hi sl Q I rx hs pl pu ⟨a, vs, rfl, h1', fun hw => ?_, fun _ p hp => ?_⟩
    · refine k G H _ (New.refl sg) ?_
      rw [← r1.length] at hw
      show Rep c G (.tup (cutD ds lo hi)) _
      rw [cut_whole hw]
      exact Rep.tup h1 r1
    · obtain ⟨G', n, o⟩ := RO.nwt (r1.cut lo hi) sg hp
      exact k G' _ _ n o
  | scr ns =>
    cases ho
    obtain ⟨a, rfl, h1⟩ := hd
    rw [hK] at h1
    refine sl_list pins s σ H _ v vl vu lo hi sl Q I rx hs pl pu ⟨a, _, rfl, h1, fun p hp => ?_⟩
    obtain ⟨n, o⟩ := RO.nwl ((reps_ints (c := c) ns).cut lo hi) sg hp
    exact k G _ _ n o
  | str z =>
    have ho : (if z.length ≤ sizeLine then vS (cutS z lo hi) else none) = some r := ho
    by_cases hl : z.length ≤ sizeLine
    · rw [if_pos hl] at ho
      cases ho; cases hd
      exact sl_str pins s σ H _ v vl vu lo hi sl Q I rx hs pl pu ⟨z, rfl, hl, k G H _ (New.refl sg) (Rep.str _)⟩
    · rw [if_neg hl] at ho; cases ho
  | _ => cases ho
theorem de_sl {lo hi : Option Expr} {fl fh : M (Option Int)} (hK : c.K = X.K) (he : PE X e (tD c σ0 W f)) (hl : PO X lo (tOi c σ0 W fl)) (hh : PO X hi (tOi c σ0 W fh)) : PE X (.Subscript e (.Slice lo hi none p2) pos) (tD c σ0 W (eSl f fl fh)) :=
  PE.imp (pe_slice (sl_D hK) he hl hh) fun σ H Q q => by
    obtain ⟨G, own, ρ, S, q⟩ := q
    refine XP.bind S q fun r ρ1 G1 own1 H1 v t1 S1 R1 h1 => ?_
    refine XP.bind S1 (XP.from t1 h1 (relR_mono c)) fun lo ρ2 G2 own2 H2 l t2 S2 R2 h2 => ?_
    cases R2
    refine XP.bind S2 (XP.from t2 h2 (relR_mono c)) fun hi ρ3 G3 own3 H3 l t3 S3 R3 h3 => ?_
    cases R3
    have h3 := XP.from t3 h3 (relR_mono c)
    unfold slR at h3
    cases e1 : deref ρ3 r with
    | none => rw [e1] at h3; exact h3.elim
    | some d =>
      rw [e1] at h3
      have h3 : XP (relR c) c σ0 W σ ρ3 G3 own3 H3 Q (M.of (opSl d lo hi) ρ3) := h3
      cases e2 : opSl d lo hi with
      | none => rw [e2] at h3; exact h3.elim
      | some r' =>
        rw [e2] at h3
        exact ⟨G3, d, r', S3.same, deref_rd S3 ((R1.step t2).step t3) e1, e2, fun G' H' v' n o => XP.new S3 h3 n o⟩

/-! ### f-strings -/
def fmtD : D → Option R
  | .str y => if y.length ≤ sizeLine then vS y else none
  | .int i => if i.natAbs.log2 < 1920 then vS (toString i) else none
  | _ => none
def eFmt (f : M R) : M R := eUn fmtD f
theorem de_fmt (h : PE X e (tD c σ0 W f)) : PE X (.FormattedValue e (-1) none pos) (tD c σ0 W (eFmt f)) := PE.imp (pe_fmt h) fun σ H Q q => by
  obtain ⟨G, own, ρ, S, q⟩ := q
  refine XP.bind S q fun r ρ1 G1 own1 H1 v t1 S1 R1 h1 => ?_
  obtain ⟨G', d, r', sg, hd, ho, k⟩ := XP.op1 S1 (XP.from t1 h1 (relR_mono c)) R1
  cases d with
  | str y =>
    have ho : (if y.length ≤ sizeLine then vS y else none) = some r' := ho
    by_cases hl : y.length ≤ sizeLine
    · rw [if_pos hl] at ho
      cases ho; cases hd
      exact .inl ⟨y, rfl, hl, k G' H1 _ (New.refl sg) (Rep.str _)⟩
    · rw [if_neg hl] at ho; cases ho
  | int i =>
    have ho : (if i.natAbs.log2 < 1920 then vS (toString i) else none) = some r' := ho
    by_cases hl : i.natAbs.log2 < 1920
    · rw [if_pos hl] at ho
      cases ho; cases hd
      exact .inr ⟨i, rfl, hl, k G' H1 _ (New.refl sg) (Rep.str _)⟩
    · rw [if_neg hl] at ho; cases ho
  | _ => cases ho
def joinR (k : Str → M R) (acc : Str) (r : R) : M R := match r with
  | .val (.str y) => if (acc ++ y).length ≤ sizeLine then k (acc ++ y) else fun _ => .bad
  | _ => fun _ => .bad
def eJs : List (M R) → Str → M R
  | [], acc => M.ret (.val (.str acc))
  | f :: fs, acc => f.bind (joinR (eJs fs) acc)
inductive PJD (X : Cx) (c : Cn) (σ0 : St) (W : WX) : List Expr → List (M R) → Prop
  | nil : PJD X c σ0 W [] []
  | cons {e : Expr} {f : M R} {es : List Expr} {fs : List (M R)} (h : PE X e (tD c σ0 W f)) (r : PJD X c σ0 W es fs) : PJD X c σ0 W (e :: es) (f :: fs)
theorem PJD.pj : ∀ {es : List Expr} {fs : List (M R)}, PJD X c σ0 W es fs → PJ X es (fs.map fun f => tD c σ0 W f)
  | _, _, .nil => .nil
  | _, _, .cons h r => .cons h r.pj
theorem tJs_of {Q : VK} : ∀ {fs : List (M R)} {acc : Str} {H : Hp}, tD c σ0 W (eJs fs acc) σ H Q → tJs (fs.map fun f => tD c σ0 W f) acc σ H fun out H1 => Q (.str out) H1
  | [], acc, H, ⟨G, own, ρ, S, q⟩ => XP.ret S q (Rep.str _)
  | f :: fs, acc, H, ⟨G, own, ρ, S, q⟩ => by
    refine XP.bind S q fun r ρ1 G1 own1 H1 v t1 S1 R1 h1 => ?_
    cases r with
    | val d =>
      cases d with
      | str y =>
        cases R1
        have h1 := XP.from t1 h1 (relR_mono c)
        unfold joinR at h1
        dsimp only at h1
        by_cases hl : (acc ++ y).length ≤ sizeLine
        · rw [if_pos hl] at h1
          exact ⟨y, rfl, hl, tJs_of ⟨G1, own1, ρ1, S1, h1⟩⟩
        · rw [if_neg hl] at h1; exact h1.elim
      | _ => exact h1.elim
    | _ => exact h1.elim
theorem de_joined {v1 v2 : Expr} {rest : List Expr} {fs : List (M R)} (h : PJD X c σ0 W (v1 :: v2 :: rest) fs) : PE X (.JoinedStr (v1 :: v2 :: rest) pos) (tD c σ0 W (eJs fs Str.empty)) :=
  PE.imp (pe_joined h.pj) fun _ _ _ q => tJs_of q
theorem de_joined1 (h : PE X e (tD c σ0 W f)) : PE X (.JoinedStr [e] pos) (tD c σ0 W f) := pe_joined1 h

/-! ### globals -/
theorem de_glob {u : Value} {v : V} {d : D} (hg : Gl X x) (hm : X.mg x = some u) (r : RelV v u) (hd : ∀ G, Rep c G d v) (hdb : (x == ("__debug__" : Str)) = false := by decide) : PE X (.Name x pos) (tD c σ0 W (eC d)) := de_c hd (pe_glob hg hm r hdb)
end
end DL

/-! DLo: dict comprehensions. -/
namespace DL
open PySem PySem.Spec PyProof.Rows L2

def keyR : R → Option Key
  | .val d => keyD d
  | _ => none
def dcompN (tgt : Tgt) (cond : M Bool) (fk fv : M R) (vs : List Nat) : List D → List (Key × D) → M (List (Key × D))
  | [], acc, ρ => .ok acc ρ
  | d :: ds, acc, ρ => match tgt d ρ with
    | none => .bad
    | some ρ1 => match cond ρ1 with
      | .ok true ρ2 => match fk ρ2 with
        | .ok rk ρ3 => match keyR rk with
          | some k => match fv ρ3 with
            | .ok r ρ4 => match escD r with
              | some x => if acc.length < sizeLine then dcompN tgt cond fk fv vs ds (putD acc k x) (wipeR ρ4 vs) else .bad
              | none => .bad
            | _ => .bad
          | none => .bad
        | _ => .bad
      | .ok false ρ2 => dcompN tgt cond fk fv vs ds acc (wipeR ρ2 vs)
      | _ => .bad
def dcompR (tgt : Tgt) (cond : M Bool) (fk fv : M R) (vs : List Nat) (it : Iter) : M R := fun ρ =>
  if (it.src.all (fun p => isLn ρ p.1) && vs.all fun v => !isLn ρ v) = true then (match it.items ρ with
    | none => .bad
    | some ds => match dcompN tgt cond fk fv vs ds [] (wipeR ρ vs) with
      | .ok acc ρ' => .ok (.nw (.dct acc)) (undoR it.src ρ')
      | _ => .bad) else .bad
def eDComp (f : M Iter) (tgt : Tgt) (cond : M Bool) (fk fv : M R) (vs : List Nat) : M R := f.bind (dcompR tgt cond fk fv vs)

section
variable {X : Cx} {c : Cn} {σ0 : St} {W : WX} {σ σ' : St} {ρ ρ' : Ro} {G G' H H' : Hp} {own own' : Own} {vs : List Nat}
theorem tDc_of {f : M Iter} {ts : List Nat} {tgt : Tgt} {cond : M Bool} {fk fv : M R} {Q : VK} (hts : ∀ i ∈ ts, i ∈ vs)
    (h : tD c σ0 W (eDComp f tgt cond fk fv vs) σ H Q) (hu : Und f) : tDc (tI c σ0 W f) (tG c σ0 ts tgt) (tT c σ0 (fun _ _ _ _ => False) cond) (tD c σ0 (fun _ _ _ _ => False) fk) (tD c σ0 (fun _ _ _ _ => False) fv) vs σ H Q := by
  obtain ⟨G, own, ρ, S, q⟩ := h
  refine ⟨G, own, ρ, S, ?_⟩
  unfold eDComp M.bind at q
  cases e : f ρ with
  | bad => rw [e] at q; exact q
  | ex x ρ1 =>
    rw [e] at q
    exact q
  | ok it ρ1 =>
    rw [e] at q
    intro G1 own1 H1 J t1 S1 K Da hDa
    unfold dcompR at q
    dsimp only at q
    by_cases hl : (it.src.all (fun p => isLn ρ1 p.1) && vs.all fun v => !isLn ρ1 v) = true
    · rw [if_pos hl] at q
      obtain ⟨hl1, hl2⟩ := Bool.and_eq_true_iff.mp hl
      have hn : ∀ v ∈ vs, isLn ρ1 v = false := fun v hv => by
        have := List.all_eq_true.mp hl2 v hv
        simpa using this
      cases e2 : it.items ρ1 with
      | none => rw [e2] at q; exact q.elim
      | some ds =>
        rw [e2] at q
        dsimp only at q
        have gDa : G1 Da = none := by
          cases z : G1 Da with
          | none => rfl
          | some o => rw [S1.same Da o z] at hDa; cases hDa
        have oDa : ¬ ao own1 Da := fun ⟨i, z⟩ => by
          obtain ⟨o, w⟩ := S1.there i Da z
          rw [hDa] at w; cases w
        generalize hres : dcompN tgt cond fk fv vs ds [] (wipeR ρ1 vs) = res at q
        have Sw : SR c σ0 G1 own1 (wipeR ρ1 vs) (L2.wipe σ vs) H1 := S1.wipe
        refine ⟨fun i m H' => m = ds.length - i ∧ i ≤ ds.length ∧ ∃ G' own' ρ' acc accV, SR c σ0 G' own' (wipeR ρ' vs) (L2.wipe σ vs) H' ∧ ρ'.length = σ.length ∧ Tr (wipeR ρ1 vs) (L2.wipe σ vs) G1 own1 H1 (wipeR ρ' vs) (L2.wipe σ vs) G' own' H' ∧
          H' Da = some (.dK accV) ∧ (acc.map (·.1) = accV.map (·.1) ∧ Reps c G' (acc.map (·.2)) (accV.map (·.2))) ∧ G' Da = none ∧ ¬ ao own' Da ∧ dcompN tgt cond fk fv vs (ds.drop i) acc (wipeR ρ' vs) = res, ⟨ds.length, rfl, Nat.zero_le _, G1, own1, ρ1, [], [], Sw.updFree gDa oDa, S1.len, Tr.refl.updFree hDa, upd_same, ⟨rfl, .nil⟩, gDa, oDa, hres⟩, ?_⟩
        rintro i m H' ⟨rfl, hle, G', own', ρ', acc, accV, S', hlen, t', hD', ⟨ka, ra⟩, gD', oD', hr⟩
        have hsrc : ∀ p ∈ it.src, (wipeR ρ' vs)[p.1]? = ρ1[p.1]? ∧ (L2.wipe σ vs)[p.1]? = σ[p.1]? ∧ isLn (wipeR ρ' vs) p.1 = true := fun p hp => by
          obtain ⟨k, o, e⟩ := isLn_get (List.all_eq_true.mp hl1 p hp)
          have hj : p.1 ∉ vs := fun z => by
            have w := hn p.1 z
            unfold isLn at w
            rw [e] at w
            cases w
          have ew : (wipeR ρ1 vs)[p.1]? = some (.ln k o) := by rw [wipeR_get, if_neg hj]; exact e
          obtain ⟨e1, e2⟩ := t'.lent p.1 k o ew
          exact ⟨by rw [e1, e], by rw [wipe_get, if_neg hj], by unfold isLn; rw [e1]⟩
        have hitems : it.items (wipeR ρ' vs) = some ds := by
          rw [K.loc (wipeR ρ' vs) ρ1 fun p hp => (hsrc p hp).1]
          exact e2
        obtain ⟨kstop, kgo⟩ := K.go σ0 G' own' (wipeR ρ' vs) (L2.wipe σ vs) H' ds t'.ext S' (fun p hp => (hsrc p hp).2) hitems
        by_cases hlt : i < ds.length
        · have hd : ds[i]? = some ds[i] := List.getElem?_eq_getElem hlt
          obtain ⟨kg, ky⟩ := kgo i _ hd
          have hdrop : ds.drop i = ds[i] :: ds.drop (i + 1) := List.drop_eq_getElem_cons hlt
          rw [hdrop] at hr
          refine .inr ⟨kg, fun H'' => ∃ G'' own'' ρ'' acc accV, SR c σ0 G'' own'' (wipeR ρ'' vs) (L2.wipe σ vs) H'' ∧ ρ''.length = σ.length ∧ Tr (wipeR ρ1 vs) (L2.wipe σ vs) G1 own1 H1 (wipeR ρ'' vs) (L2.wipe σ vs) G'' own'' H'' ∧
            H'' Da = some (.dK accV) ∧ (acc.map (·.1) = accV.map (·.1) ∧ Reps c G'' (acc.map (·.2)) (accV.map (·.2))) ∧ G'' Da = none ∧ ¬ ao own'' Da ∧ dcompN tgt cond fk fv vs (ds.drop (i + 1)) acc (wipeR ρ'' vs) = res, fun H'' z => ⟨ds.length - (i + 1), by omega, rfl, hlt, z⟩, fun x H2 hy => ?_⟩
          obtain ⟨G2, n2, r2⟩ := ky x H2 hy
          have S2 := n2.sr S'
          have t2 := t'.trans (n2.tr (ρ := wipeR ρ' vs) (σ := L2.wipe σ vs) S'.there)
          unfold dcompN at hr
          cases e1 : tgt ds[i] (wipeR ρ' vs) with
          | none => rw [e1] at hr; rw [← hr] at q; exact q.elim
          | some ρa =>
            rw [e1] at hr
            refine ⟨G2, own', wipeR ρ' vs, ds[i], S2, r2, ρa, e1, fun σ3 own3 off t3 S3 => ?_⟩
            have hw3 : L2.wipe σ3 vs = L2.wipe σ vs := wipe_off off hts
            refine ⟨hw3, G2, own3, ρa, S3, ?_⟩
            have t23 := t2.trans t3
            dsimp only at hr
            have dkeep : ∀ {ρb : Ro} {σb : St} {Gb Hb : Hp} {ownb : Own}, Tr (wipeR ρ' vs) (L2.wipe σ vs) G' own' H' ρb σb Gb ownb Hb → Hb Da = some (.dK accV) ∧ Gb Da = none ∧ ¬ ao ownb Da := fun {ρb σb Gb Hb ownb} t => by
              refine ⟨t.keep Da _ hD' oD', ?_, fun z => ?_⟩
              · cases z : Gb Da with
                | none => rfl
                | some o =>
                  rcases t.gnew Da o z with w | w | w
                  · rw [gD'] at w; cases w
                  · rw [hD'] at w; cases w
                  · exact absurd w oD'
              · rcases t.onew Da z with w | w
                · exact oD' w
                · rw [hD'] at w; cases w
            have tin := (n2.tr (ρ := wipeR ρ' vs) (σ := L2.wipe σ vs) S'.there).trans t3
            cases e3 : cond ρa with
            | bad => rw [e3] at hr; rw [← hr] at q; exact q.elim
            | ex x ρb => rw [e3] at hr; rw [← hr] at q; exact q.elim
            | ok bb ρb =>
              rw [e3] at hr
              intro G4 own4 H4 b4 t4 S4 R4
              cases R4
              have t24 := t23.trans t4
              have tin4 := tin.trans t4
              cases bb with
              | false =>
                obtain ⟨d1, d2, d3⟩ := dkeep tin4
                refine ⟨G4, own4, ρb, acc, accV, ?_, by rw [S4.len, off.1, wipe_length], t24.wipeOut, d1, ⟨ka, ra.mono (tin4.ext)⟩, d2, d3, hr⟩
                have := S4.wipe (vs := vs)
                rw [hw3] at this
                exact this
              | true =>
                dsimp only at hr
                refine ⟨G4, own4, ρb, S4, ?_⟩
                cases e4k : fk ρb with
                | bad => rw [e4k] at hr; rw [← hr] at q; exact q.elim
                | ex x ρc => rw [e4k] at hr; rw [← hr] at q; exact q.elim
                | ok rk ρk =>
                  rw [e4k] at hr
                  dsimp only at hr
                  intro G4k own4k H4k yk t4k S4k R4k
                  cases e5k : keyR rk with
                  | none => rw [e5k] at hr; rw [← hr] at q; exact q.elim
                  | some key =>
                    rw [e5k] at hr
                    dsimp only at hr
                    have hyk : yk = kV key := by
                      cases rk with
                      | val d =>
                        exact keyD_rep (R4k.rd S4k.same) e5k
                      | _ => cases e5k
                    subst hyk
                    refine ⟨G4k, own4k, ρk, S4k, ?_⟩
                    have t24k := t24.trans t4k
                    have tin4k := tin4.trans t4k
                    cases e4 : fv ρk with
                    | bad => rw [e4] at hr; rw [← hr] at q; exact q.elim
                    | ex x ρc => rw [e4] at hr; rw [← hr] at q; exact q.elim
                    | ok r ρc =>
                      rw [e4] at hr
                      dsimp only at hr
                      intro G5 own5 H5 y t5 S5 R5
                      have t25 := t24k.trans t5
                      have tin5 := tin4k.trans t5
                      obtain ⟨d1, d2, d3⟩ := dkeep tin5
                      cases e5 : escD r with
                      | none => rw [e5] at hr; rw [← hr] at q; exact q.elim
                      | some dx =>
                        rw [e5] at hr
                        dsimp only at hr
                        by_cases hsz : acc.length < sizeLine
                        · rw [if_pos hsz] at hr
                          have hlk : acc.length = accV.length := by
                            have := congrArg List.length ka
                            rw [List.length_map, List.length_map] at this
                            exact this
                          refine ⟨accV, key, rfl, d1, by rw [← hlk]; exact hsz, ?_⟩
                          obtain ⟨d4, d5, d6⟩ := dkeep tin4k
                          have fin : ∀ G6, Same G5 G6 → Tr (wipeR ρ1 vs) (L2.wipe σ vs) G1 own1 H1 ρc σ3 G6 own5 H5 → SR c σ0 G6 own5 ρc σ3 H5 → G6 Da = none → Rep c G6 dx y →
                              ∃ G'' own'' ρ'' acc2 accV2, SR c σ0 G'' own'' (wipeR ρ'' vs) (L2.wipe σ vs) (upd H5 Da (.dK (putK accV key y))) ∧ ρ''.length = σ.length ∧ Tr (wipeR ρ1 vs) (L2.wipe σ vs) G1 own1 H1 (wipeR ρ'' vs) (L2.wipe σ vs) G'' own'' (upd H5 Da (.dK (putK accV key y))) ∧
                                (upd H5 Da (.dK (putK accV key y))) Da = some (.dK accV2) ∧ (acc2.map (·.1) = accV2.map (·.1) ∧ Reps c G'' (acc2.map (·.2)) (accV2.map (·.2))) ∧ G'' Da = none ∧ ¬ ao own'' Da ∧ dcompN tgt cond fk fv vs (ds.drop (i + 1)) acc2 (wipeR ρ'' vs) = res := fun G6 s6 t6 S6 g6 r6 => by
                            have Sw6 := S6.wipe (vs := vs)
                            rw [hw3] at Sw6
                            exact ⟨G6, own5, ρc, putD acc key dx, putK accV key y, Sw6.updFree g6 d3, by rw [S6.len, off.1, wipe_length], t6.wipeOut.updFree hDa, upd_same, put_keys ka ((ra.mono tin5.ext).mono s6) r6, g6, d3, hr⟩
                          cases r with
                          | sl j => cases e5
                          | val d =>
                            cases e5
                            exact fin G5 (Same.refl _) t25 S5 d2 R5
                          | nw o =>
                            cases e5
                            obtain ⟨P, ow, k⟩ := R5
                            have nP : ¬ P Da := fun p => by
                              rcases (k Da p).2.2.2 with w | w
                              · rw [d4] at w; cases w
                              · exact d6 w
                            refine fin (frzG G5 H5 P) (frz_same fun b p => (k b p).1) (frz_tr t25 fun b p => ⟨(k b p).1, t24k.back (k b p).2.2.2⟩) (S5.frz fun b p => ⟨(k b p).1, (k b p).2.1⟩) (by rw [frz_ne nP]; exact d2) (ow.frz fun b p => (k b p).1)
                        · rw [if_neg hsz] at hr
                          rw [← hr] at q
                          exact q.elim
        · have ed : ds.drop i = [] := List.drop_eq_nil_of_le (by omega)
          rw [ed] at hr
          have hr : Res.ok acc (wipeR ρ' vs) = res := hr
          rw [← hr] at q
          have ei : i = ds.length := by omega
          rw [ei]
          refine .inl ⟨kstop, ?_⟩
          have Su := S'.unwipe hlen
          have tu : Tr ρ σ G own H (wipeR ρ' vs) σ G' own' H' := t1.trans ⟨t'.ext, t'.keep, t'.gnew, t'.onew, fun j k o h => by
            obtain ⟨h1, h2⟩ := (Tr.wipeIn (σ := σ) (G := G1) (own := own1) (H := H1) hn).lent j k o h
            obtain ⟨h3, _⟩ := t'.lent j k o h1
            exact ⟨h3, rfl⟩⟩
          obtain ⟨S2, t2⟩ := SR.undoR (G1 := G') it.src (hu ρ it ρ1 e) Su tu
          exact q G' own' H' (.ref Da) t2 S2 ⟨fun b => b = Da, ⟨Da, accV, rfl, rfl, hD', ka, ra⟩, fun b hb => by
            subst hb
            exact ⟨gD', oD', ⟨_, hD'⟩, t1.back (.inl hDa)⟩⟩
    · rw [if_neg hl] at q
      exact q.elim
/-- {k: v for target in iter if ..}, as a value -/
theorem de_dcomp {kx vx tg iter : Expr} {ifs : List Expr} {scope : Scope} {own : List (Str × Nat)} {pos : Pos} {f : M Iter} {ts : List Nat} {tgt : Tgt} {cond : M Bool} {fk fv : M R} (hc : X.calm = true) (hN : X.N.Nodup) (hi : PI X tg iter (tI c σ0 W f)) (ok : BlkOk X.N X.env.scope scope own) (hu : Und f) (hts : ∀ i ∈ ts, i ∈ own.map (·.2))
    (hg : ∀ (s : Shared) (H : Hp) (C : Addr) (cl : List (Str × Addr)) (fp : List Addr), PG (X.blk s H scope (compEnvC scope cl C X.env) fp) tg (tG c σ0 ts tgt)) (ht : ∀ (s : Shared) (H : Hp) (C : Addr) (cl : List (Str × Addr)) (fp : List Addr), PTs (X.blk s H scope (compEnvC scope cl C X.env) fp) ifs (tT c σ0 (fun _ _ _ _ => False) cond))
    (hk : ∀ (s : Shared) (H : Hp) (C : Addr) (cl : List (Str × Addr)) (fp : List Addr), PE (X.blk s H scope (compEnvC scope cl C X.env) fp) kx (tD c σ0 (fun _ _ _ _ => False) fk))
    (he : ∀ (s : Shared) (H : Hp) (C : Addr) (cl : List (Str × Addr)) (fp : List Addr), PE (X.blk s H scope (compEnvC scope cl C X.env) fp) vx (tD c σ0 (fun _ _ _ _ => False) fv)) (hs : ∀ x, foldedSetIterable iter X.env x = pure x := by intro _; rfl) :
    PE X (.DictComp kx vx [⟨tg, iter, ifs, 0⟩] scope pos) (tD c σ0 W (eDComp f tgt cond fk fv (own.map (·.2)))) :=
  PE.imp (pe_dc hc hN hi ok hg ht hk he hs) fun σ H Q q => tDc_of hts q hu
theorem ps_setDc {i : Nat} {y : Str} {py : Pos} {kx vx tg iter : Expr} {ifs : List Expr} {scope : Scope} {own : List (Str × Nat)} {pos spos : Pos} {wi : TI} {g : TG} {tt : TT} {tk tv : TE} (hc : X.calm = true) (hN : X.N.Nodup) (hy : X.N[i]? = some y) (hyl : X.env.scope.names.lookup y = some .local)
    (hsw : swapsWith (.DictComp kx vx [⟨tg, iter, ifs, 0⟩] scope pos) (some (.Name y py)) spos.line X.env = pure true) (hi : PI X tg iter wi) (ok : BlkOk X.N X.env.scope scope own)
    (hg : ∀ (s : Shared) (H : Hp) (C : Addr) (cl : List (Str × Addr)) (fp : List Addr), PG (X.blk s H scope (compEnvC scope cl C X.env) fp) tg g) (ht : ∀ (s : Shared) (H : Hp) (C : Addr) (cl : List (Str × Addr)) (fp : List Addr), PTs (X.blk s H scope (compEnvC scope cl C X.env) fp) ifs tt)
    (hk : ∀ (s : Shared) (H : Hp) (C : Addr) (cl : List (Str × Addr)) (fp : List Addr), PE (X.blk s H scope (compEnvC scope cl C X.env) fp) kx tk)
    (he : ∀ (s : Shared) (H : Hp) (C : Addr) (cl : List (Str × Addr)) (fp : List Addr), PE (X.blk s H scope (compEnvC scope cl C X.env) fp) vx tv) (hs : ∀ x, foldedSetIterable iter X.env x = pure x := by intro _; rfl) :
    PS X (.Assign [.Name y py] (.DictComp kx vx [⟨tg, iter, ifs, 0⟩] scope pos) spos) (tAsg (tDc wi g tt tk tv (own.map (·.2))) (gName i)) := by
  refine ⟨fun pins s σ H D I h => ?_⟩
  rw [exec_Assign_Name_used _ _ _ _ hsw]
  refine wpAny_bind (wpAny_standAt (wpAny_bind ?_))
  show wpAny _ X.A (do let _ ← comprehension (.DictComp kx vx [⟨tg, iter, ifs, 0⟩] scope pos) scope X.env (firstIterPos [⟨tg, iter, ifs, 0⟩] pos) newDict false (eval iter X.env) (some (assign (.Name y py) X.env))) _ _ s
  have h : tDc wi g tt tk tv (own.map (·.2)) σ H (fun x H1 => gName i x σ H1 D.nx) := h
  refine wpAny_bind (thn (dc_core (Qf := fun _ s' => SP X pins D .next s') hc hN I hi ok hg ht hk he hs h fun L C s' m H' I' q hn f => ?_) fun _ s' hq => wpAny_pure (wpAny_pure hq))
  show wpAny _ _ (assign (.Name y py) X.env (.ref L)) _ _ _
  refine wpAny_assign_Name (store_ok2 (v := V.ref L) I' hN hy (.inl hyl) rfl (fun s2 I2 ⟨a, sb, ha⟩ => ?_) (.inr hyl))
  obtain ⟨f0, f1, f2, f3, f4, f5⟩ := f
  have haC : C ≠ a := by
    rcases ha with z | z
    · rw [z]; exact f1
    · exact fun e => f4 y a z e.symm
  refine ⟨m, hn.sameBut sb haC, fun h3 sb3 => ?_⟩
  exact ⟨_, H', I2.turned (t' := s2.toks) (fun b o hb e => (sb3.2 b hb).trans e) f0 f1 f3 f4 f5, q⟩
theorem sw_trueD {kx vx : Expr} {gs : List Comprehension} {scope : Scope} {pos py : Pos} {y : Str} {l : Nat} {env : Env} (hk : env.scope.kind = .function) (hy : env.scope.names.lookup y = some .local) (hl : (py.line == pos.line) = true)
    (ha : (scope.names.any fun (n, k) => n == y && (k == .local || k == .cell)) = false) : swapsWith (.DictComp kx vx gs scope pos) (some (.Name y py)) l env = pure true := by
  have ky : env.kindOf y = some .local := hy
  have hb : env.blockKind = .function := by unfold Env.blockKind; rw [hk]; rfl
  unfold swapsWith
  simp only [hb, ky, ha, Expr.pos, hl]
  rfl
/-- name = {..} on one line -/
theorem ds_setDComp {i : Nat} {y : Str} {py : Pos} {kx vx tg iter : Expr} {ifs : List Expr} {scope : Scope} {own : List (Str × Nat)} {pos spos : Pos} {f : M Iter} {ts : List Nat} {tgt : Tgt} {cond : M Bool} {fk fv : M R} (hc : X.calm = true) (hN : X.N.Nodup) (hy : X.N[i]? = some y) (hyl : X.env.scope.names.lookup y = some .local)
    (hsw : swapsWith (.DictComp kx vx [⟨tg, iter, ifs, 0⟩] scope pos) (some (.Name y py)) spos.line X.env = pure true) (hi : PI X tg iter (tI c σ0 W f)) (ok : BlkOk X.N X.env.scope scope own) (hu : Und f) (hts : ∀ i ∈ ts, i ∈ own.map (·.2))
    (hg : ∀ (s : Shared) (H : Hp) (C : Addr) (cl : List (Str × Addr)) (fp : List Addr), PG (X.blk s H scope (compEnvC scope cl C X.env) fp) tg (tG c σ0 ts tgt)) (ht : ∀ (s : Shared) (H : Hp) (C : Addr) (cl : List (Str × Addr)) (fp : List Addr), PTs (X.blk s H scope (compEnvC scope cl C X.env) fp) ifs (tT c σ0 (fun _ _ _ _ => False) cond))
    (hk : ∀ (s : Shared) (H : Hp) (C : Addr) (cl : List (Str × Addr)) (fp : List Addr), PE (X.blk s H scope (compEnvC scope cl C X.env) fp) kx (tD c σ0 (fun _ _ _ _ => False) fk))
    (he : ∀ (s : Shared) (H : Hp) (C : Addr) (cl : List (Str × Addr)) (fp : List Addr), PE (X.blk s H scope (compEnvC scope cl C X.env) fp) vx (tD c σ0 (fun _ _ _ _ => False) fv)) (hs : ∀ x, foldedSetIterable iter X.env x = pure x := by intro _; rfl) :
    PS X (.Assign [.Name y py] (.DictComp kx vx [⟨tg, iter, ifs, 0⟩] scope pos) spos) (tS c σ0 W (sAsg i (eDComp f tgt cond fk fv (own.map (·.2))))) :=
  ds_asg (PS.imp (ps_setDc hc hN hy hyl hsw hi ok hg ht hk he hs) fun E σ H q => tDc_of hts q hu)
end
end DL

/-! DLp: defs as packages; the written part; the law's end. -/
namespace DL
open PySem PySem.Spec PyProof.Rows L2

/-- times: ints, a list, a text -/
def opMulA (d e : D) : Option R := match d with
  | .str _ => opRep d e
  | _ => opMul d e
theorem o_mulA {X : Cx} {c : Cn} : OpR X (binaryOp .Mult) (rD c opMulA) := by
  intro pins s σ H x y v u Q I rx ry ⟨G, d, e, r, sg, hd, he, ho, k⟩
  cases d with
  | str z => exact o_rep pins s σ H x y v u Q I rx ry ⟨G, .str z, e, r, sg, hd, he, ho, k⟩
  | non => exact o_mul pins s σ H x y v u Q I rx ry ⟨G, .non, e, r, sg, hd, he, ho, k⟩
  | bl z => exact o_mul pins s σ H x y v u Q I rx ry ⟨G, .bl z, e, r, sg, hd, he, ho, k⟩
  | int z => exact o_mul pins s σ H x y v u Q I rx ry ⟨G, .int z, e, r, sg, hd, he, ho, k⟩
  | tup z => exact o_mul pins s σ H x y v u Q I rx ry ⟨G, .tup z, e, r, sg, hd, he, ho, k⟩
  | lst z => exact o_mul pins s σ H x y v u Q I rx ry ⟨G, .lst z, e, r, sg, hd, he, ho, k⟩
  | dct z => exact o_mul pins s σ H x y v u Q I rx ry ⟨G, .dct z, e, r, sg, hd, he, ho, k⟩
  | ins n z => exact o_mul pins s σ H x y v u Q I rx ry ⟨G, .ins n z, e, r, sg, hd, he, ho, k⟩
  | scr z => exact o_mul pins s σ H x y v u Q I rx ry ⟨G, .scr z, e, r, sg, hd, he, ho, k⟩

theorem eNil_len : ∀ ρ rs ρ', eNil ρ = .ok rs ρ' → rs.length = 0 := fun ρ rs ρ' h => by cases h; rfl

/-- a def of the top: where it stands -/
structure DefK (K : PySem.W.Frag) (mg : Str → Option Value) (x qual : Str) (st : Stmt) (ps : List Str) (f : Addr) (fd : FuncData) : Prop where
  fn : Fun K x qual st f fd
  bi : ∀ us : List Value, us.length = ps.length → bindArgs fd ⟨us, []⟩ = pure (ps.zip us)
  mg : mg x = some (.ref f)
/-- a def that may be called by its name -/
structure CallD (P : Program) (w : World) (K : PySem.W.Frag) (mg : Str → Option Value) (base : Heap) (c : Cn) (k : Nat) (x : Str) (ps : List Str) (F : Ro → Res R) (f : Addr) (fd : FuncData) : Prop where
  ok : FnOk P w K mg base (L2.CX P w) k f fd ps (spD c ps.length F)
  mg : mg x = some (.ref f)
  kp : PySem.W.keepIn K (.ref f) = true
  bi : ∀ us : List Value, us.length = ps.length → bindArgs fd ⟨us, []⟩ = pure (ps.zip us)
section
variable {P : Program} {w : World} {K : PySem.W.Frag} {mg : Str → Option Value} {base : Heap} {c : Cn} {f : Addr} {fd : FuncData}
theorem callD {x qual : Str} {st : Stmt} {N ps : List Str} {k n : Nat} {s : S} (h : DefK K mg x qual st ps f fd) (Sc : FnScope N ps (defScope st)) (hn : N.length - ps.length = n)
    (hbody : ∀ (cdv : Value) (A : Around) (outer : List Env) (sh : Shared) (H : Hp) (E : XK) (σ0 : St) (W : WX), Room k (cxOf (L2.CX P w) P w K mg base N qual (defScope st) f cdv A outer sh H E).A →
      PassesOwn (model P w) (cxOf (L2.CX P w) P w K mg base N qual (defScope st) f cdv A outer sh H E).A (cxOf (L2.CX P w) P w K mg base N qual (defScope st) f cdv A outer sh H E).env (cxOf (L2.CX P w) P w K mg base N qual (defScope st) f cdv A outer sh H E).xe →
      Takes (cxOf (L2.CX P w) P w K mg base N qual (defScope st) f cdv A outer sh H E) W → PSs (cxOf (L2.CX P w) P w K mg base N qual (defScope st) f cdv A outer sh H E) (defBody st) (tS c σ0 W s)) :
    CallD P w K mg base c (k + 1) x ps (runF n s) f fd := ⟨fn_D h.fn Sc hn hbody, h.mg, h.fn.kp, h.bi⟩
theorem defK_mk {h : Heap} {x qual : Str} {st : Stmt} {ps : List Str} {oc : Value} {od an : Option Addr} {osl : Array (Option Value)} {kV doc pm cdv ct : Value} (X : K.In h) (G : h.Ns mainGlobals mg)
    (a : PySem.W.nsIn K mainGlobals x = some (some (.ref f))) (l : K.lookup f = some ⟨oc, od, .func (PySem.W.fnOf x qual (defArgs st) (defBody st) (defScope st) .none kV doc pm an cdv ct), osl⟩)
    (cc : PySem.W.codeIn K cdv qual = true) (k : PySem.W.keepIn K (.ref f) = true)
    (hb : ∀ (kV doc pm : Value) (an : Option Addr) (cdv ct : Value) (us : List Value), us.length = ps.length → bindArgs (PySem.W.fnOf x qual (defArgs st) (defBody st) (defScope st) .none kV doc pm an cdv ct) ⟨us, []⟩ = pure (ps.zip us)) : DefK K mg x qual st ps f (PySem.W.fnOf x qual (defArgs st) (defBody st) (defScope st) .none kV doc pm an cdv ct) :=
  ⟨fun_mk l cc k, hb kV doc pm an cdv ct, PySem.W.mg_of X G a⟩
end
section
variable {X : Cx} {c : Cn} {σ0 : St} {W : WX} {σ : St} {k : Nat} {ps : List Str} {x : Str} {p pos : Pos} {e : Expr} {es : List Expr} {fa : M (List R)} {F : Ro → Res R} {f : Addr} {fd : FuncData}
theorem de_callF (h : CallD X.prog X.w X.K X.mg X.base c k x ps F f fd) (hr : Room k X.A) (hg : Gl X x) (tk : Takes X W)
    (ha : PA X (e :: es) (tA c σ0 W fa)) (hl : (e :: es).length = ps.length) (hfl : ∀ ρ rs ρ', fa ρ = .ok rs ρ' → rs.length = ps.length) (hdb : (x == ("__debug__" : Str)) = false := by decide) (he : starEach (e :: es) X.env = (false, eval e X.env) :: starEach es X.env := by rfl) (hpl : (backTo pos (starEach es X.env)).any (·.1) = false := by rfl) :
    PE X (.Call (.Name x p) (e :: es) [] pos) (tD c σ0 W (eCall F fa)) := de_call h.ok hr hg h.mg h.kp (.all h.bi) tk ha hl hdb he hpl hfl
theorem de_callF0 (h : CallD X.prog X.w X.K X.mg X.base c k x ps F f fd) (hr : Room k X.A) (hg : Gl X x) (tk : Takes X W) (hl : 0 = ps.length) (hdb : (x == ("__debug__" : Str)) = false := by decide) : PE X (.Call (.Name x p) [] [] pos) (tD c σ0 W (eCall F eNil)) :=
  de_call0 h.ok hr hg h.mg h.kp (.all h.bi) tk hl hdb

/-! ### constants of the top -/
theorem de_gInt {i : Int} (hg : Gl X x) (hm : ∃ t, X.mg x = some (.int i t)) (hdb : (x == ("__debug__" : Str)) = false := by decide) : PE X (.Name x pos) (tD c σ0 W (eC (.int i))) := by
  obtain ⟨t, hm⟩ := hm
  exact de_glob hg hm (v := .int i) ⟨t, rfl⟩ (fun _ => .int i) hdb
theorem de_gStr {i : Str} (hg : Gl X x) (hm : ∃ t, X.mg x = some (.str i t)) (hdb : (x == ("__debug__" : Str)) = false := by decide) : PE X (.Name x pos) (tD c σ0 W (eC (.str i))) := by
  obtain ⟨t, hm⟩ := hm
  exact de_glob hg hm (v := .str i) ⟨t, rfl⟩ (fun _ => .str i) hdb
/-- flat data -/
def D.flatV : D → V
  | .non => .non
  | .bl b => .bl b
  | .int i => .int i
  | .str x => .str x
  | _ => .non
theorem rep_flat {G : Hp} {d : D} (h : flatD d = true) : Rep c G d d.flatV := by
  cases d with
  | non => exact .non
  | bl b => exact .bl b
  | int i => exact .int i
  | str x => exact .str x
  | _ => cases h
theorem reps_flat {G : Hp} : ∀ {ds : List D}, ds.all flatD = true → Reps c G ds (ds.map D.flatV)
  | [], _ => .nil
  | d :: ds, h => by
    rw [List.all_cons] at h
    obtain ⟨h1, h2⟩ := Bool.and_eq_true_iff.mp h
    exact .cons (rep_flat h1) (reps_flat h2)
/-- a tuple of flat data in the written part -/
def TupK (K : PySem.W.Frag) (mg : Str → Option Value) (x : Str) (ds : List D) : Prop := ∃ (a : Addr) (o : Obj) (its : Array Value) (n : Nat), mg x = some (.ref a) ∧ K.lookup a = some o ∧ o.cls = .type "tuple" ∧ o.data = .seq its n ∧ its.size ≤ sizeLine ∧ Vals (ds.map D.flatV) its.toList ∧ ds.all flatD = true
theorem de_gTup {ds : List D} (hK : c.K = X.K) (hg : Gl X x) (h : TupK X.K X.mg x ds) (hdb : (x == ("__debug__" : Str)) = false := by decide) : PE X (.Name x pos) (tD c σ0 W (eC (.tup ds))) := by
  obtain ⟨a, o, its, n, hm, hk, hc, hd, hz, hv, hf⟩ := h
  exact de_glob hg hm (v := .ref a) rfl (fun G => .tup (.inr ⟨o, its, n, by rw [hK]; exact hk, hc, hd, hz, hv⟩) (reps_flat hf)) hdb
def absE (d : D) (u : Value) : Bool := match d, u with
  | .non, .none => true
  | .bl a, .bool b => a == b
  | .int a, .int b _ => a == b
  | .str a, .str b _ => a == b
  | _, _ => false
def absEs : List D → List Value → Bool
  | [], [] => true
  | d :: ds, u :: us => absE d u && absEs ds us
  | _, _ => false
theorem absE_of {d : D} {u : Value} (h : absE d u = true) : RelV d.flatV u ∧ flatD d = true := by
  unfold absE at h
  split at h
  · exact ⟨rfl, rfl⟩
  · cases eq_of_beq h; exact ⟨rfl, rfl⟩
  · cases eq_of_beq h; exact ⟨⟨_, rfl⟩, rfl⟩
  · cases eq_of_beq h; exact ⟨⟨_, rfl⟩, rfl⟩
  · cases h
theorem absEs_of : ∀ {ds : List D} {us : List Value}, absEs ds us = true → Vals (ds.map D.flatV) us ∧ ds.all flatD = true
  | [], [], _ => ⟨.nil, rfl⟩
  | d :: ds, u :: us, h => by
    obtain ⟨h1, h2⟩ := Bool.and_eq_true_iff.mp (show (absE d u && absEs ds us) = true from h)
    obtain ⟨i1, i2⟩ := absEs_of h2
    obtain ⟨j1, j2⟩ := absE_of h1
    exact ⟨.cons j1 i1, by rw [List.all_cons, j2, i2]; rfl⟩
  | [], _ :: _, h => by cases h
  | _ :: _, [], h => by cases h
theorem tupK_mk {K : PySem.W.Frag} {mg : Str → Option Value} {h : Heap} {a : Addr} {dd : Option Addr} {its : Array Value} {n : Nat} {sl : Array (Option Value)} {ds : List D} (Xk : K.In h) (G : h.Ns mainGlobals mg)
    (ha : PySem.W.nsIn K mainGlobals x = some (some (.ref a))) (l : K.lookup a = some ⟨.type "tuple", dd, .seq its n, sl⟩) (v : absEs ds its.toList = true) (hz : its.size ≤ sizeLine) : TupK K mg x ds := by
  obtain ⟨i1, i2⟩ := absEs_of v
  exact ⟨a, _, its, n, PySem.W.mg_of Xk G ha, l, rfl, rfl, hz, i1, i2⟩
end

/-! ### the law -/
def spLaw (K : PySem.W.Frag) : Sp := fun vs H Q _ => ∃ (a : Addr) (ns : List Int), vs = [.ref a] ∧ SqL K H a (ns.map V.int) ∧ ns.length ≤ 63 ∧ ∀ H', Q (.bl true) H'
theorem law_end {c : Cn} {F : Ro → Res R} (h : ∀ ns : List Int, ns.length ≤ 63 → ∃ a', F [.fz (.scr ns)] = .ok (.val (.bl true)) a') {vs : List V} {H : Hp} {Q : VK} {E : XK} (q : spLaw c.K vs H Q E) : spD c 1 F vs H Q E := by
  obtain ⟨a, ns, rfl, hS, hl, k⟩ := q
  obtain ⟨a', e⟩ := h ns hl
  refine ⟨H, fun _ _ => False, [.fz (.scr ns)], ⟨Same.refl _, fun _ _ z => z.elim, fun _ _ z => z.elim, fun _ _ _ z => z.elim, rfl, fun i s hs => ?_, fun i s hs z => ?_⟩, rfl, rfl, ?_⟩
  · cases i with
    | zero =>
      cases hs
      exact ⟨_, rfl, .scr hS⟩
    | succ i => simp at hs
  · cases i with
    | zero => cases hs; cases z
    | succ i => simp at hs
  · rw [e]
    intro G' own' H' v _ _ r
    cases r
    exact k H'
theorem law_fn {P : Program} {w : World} {K : PySem.W.Frag} {mg : Str → Option Value} {c : Cn} {k : Nat} {x : Str} {p : Str} {F : Ro → Res R} (hK : c.K = K) (hF : ∀ ns : List Int, ns.length ≤ 63 → ∃ a', F [.fz (.scr ns)] = .ok (.val (.bl true)) a')
    {fa : Addr} (hm : mg x = some (.ref fa)) {st : Stmt} {f : Addr} {fd : FuncData} (D : DefK K mg x x st [p] f fd) (h : ∀ base : Heap, K.In base → base.Ns mainGlobals mg → CallD P w K mg base c k x [p] F f fd) :
    ∃ fd : FuncData, (∀ (s : Shared) (v : Value), BindsTo s fd ⟨[v], []⟩ [(p, v)]) ∧ ∀ base : Heap, K.In base → base.Ns mainGlobals mg → FnOk P w K mg base (L2.CX P w) k fa fd [p] (spLaw K) := by
  have e := D.mg
  rw [hm] at e
  cases e
  exact ⟨fd, fun s v => .of_eq (D.bi [v] rfl), fun base X G => (h base X G).ok.imp fun vs H Q E q => law_end hF (by rw [hK]; exact q)⟩

/-! ### op= -/
def ipAdd : D → D → Option R
  | .int i, .int j => vI (i + j)
  | .str x, .str y => if x.length + y.length ≤ sizeLine then vS (x ++ y) else none
  | _, _ => none
def ipSub : D → D → Option R
  | .int i, .int j => vI (i - j)
  | _, _ => none
section
variable {X : Cx} {c : Cn}
theorem io_add : OpR X (inplaceOp .Add) (rD c ipAdd) := by
  intro pins s σ H x y v u Q I rx ry ⟨G, d, e, r, sg, hd, he, ho, k⟩
  cases d with
  | int i =>
    cases e with
    | int j =>
      cases ho; cases hd; cases he
      exact iop_add pins s σ H _ _ v u Q I rx ry ⟨i, j, rfl, rfl, k G H _ (New.refl sg) (Rep.int _)⟩
    | _ => cases ho
  | str a =>
    cases e with
    | str b =>
      have ho : (if a.length + b.length ≤ sizeLine then vS (a ++ b) else none) = some r := ho
      by_cases hl : a.length + b.length ≤ sizeLine
      · rw [if_pos hl] at ho
        cases ho; cases hd; cases he
        exact iop_add_str pins s σ H _ _ v u Q I rx ry ⟨a, b, rfl, rfl, hl, k G H _ (New.refl sg) (Rep.str _)⟩
      · rw [if_neg hl] at ho; cases ho
    | _ => cases ho
  | _ => cases ho
theorem io_sub : OpR X (inplaceOp .Sub) (rD c ipSub) := by
  intro pins s σ H x y v u Q I rx ry ⟨G, d, e, r, sg, hd, he, ho, k⟩
  cases d with
  | int i =>
    cases e with
    | int j =>
      cases ho; cases hd; cases he
      exact iop_sub pins s σ H _ _ v u Q I rx ry ⟨i, j, rfl, rfl, k G H _ (New.refl sg) (Rep.int _)⟩
    | _ => cases ho
  | _ => cases ho
end
/-! ### what the built-in names hold -/
theorem bo_len : bootBuiltins "len" = some (.builtin "len") := by decide +kernel
theorem bo_abs : bootBuiltins "abs" = some (.builtin "abs") := by decide +kernel
theorem bo_all : bootBuiltins "all" = some (.builtin "all") := by decide +kernel
theorem bo_any : bootBuiltins "any" = some (.builtin "any") := by decide +kernel
theorem bo_sum : bootBuiltins "sum" = some (.builtin "sum") := by decide +kernel
theorem bo_int : bootBuiltins "int" = some (.type "int") := by decide +kernel
theorem bo_str : bootBuiltins "str" = some (.type "str") := by decide +kernel
theorem bo_list : bootBuiltins "list" = some (.type "list") := by decide +kernel
theorem bo_tuple : bootBuiltins "tuple" = some (.type "tuple") := by decide +kernel
theorem bo_bool : bootBuiltins "bool" = some (.type "bool") := by decide +kernel
theorem bo_dict : bootBuiltins "dict" = some (.type "dict") := by decide +kernel
theorem u65 {A : Around} {k : Nat} (r : Room k A) : A.units + 65 < cLine := by have := r.un; omega
end DL

/-! DLq: the denotations, run (simp rules). -/
namespace DL
open PySem PySem.Spec

/-! ### runs in sequence -/
def Res.and {α β : Type} (x : Res α) (k : α → M β) : Res β := match x with
  | .ok a ρ => k a ρ
  | .ex x ρ => .ex x ρ
  | .bad => .bad
def Res.andS {α : Type} (x : Res α) (k : α → S) : Out := match x with
  | .ok a ρ => k a ρ
  | .ex x ρ => .ex x ρ
  | .bad => .bad
def Out.and (x : Out) (k : S) : Out := match x with
  | .nx ρ => k ρ
  | .ret r ρ => .ret r ρ
  | .brk ρ => .brk ρ
  | .cnt ρ => .cnt ρ
  | .ex x ρ => .ex x ρ
  | .bad => .bad
section
variable {α β : Type} {ρ : Ro} {f g : M R} {t u : M Bool} {s s' : S} {op op' : D → D → Option R}
@[simp] theorem and_ok {a : α} {k : α → M β} : (Res.ok a ρ).and k = k a ρ := rfl
@[simp] theorem and_ex {x : Exn} {k : α → M β} : (Res.ex x ρ).and k = .ex x ρ := rfl
@[simp] theorem andS_ok {a : α} {k : α → S} : (Res.ok a ρ).andS k = k a ρ := rfl
@[simp] theorem andS_ex {x : Exn} {k : α → S} : (Res.ex x ρ).andS k = .ex x ρ := rfl
@[simp] theorem oand_nx : (Out.nx ρ).and s = s ρ := rfl
@[simp] theorem oand_ret {r : R} : (Out.ret r ρ).and s = .ret r ρ := rfl
@[simp] theorem oand_brk : (Out.brk ρ).and s = .brk ρ := rfl
@[simp] theorem oand_cnt : (Out.cnt ρ).and s = .cnt ρ := rfl
@[simp] theorem oand_ex {x : Exn} : (Out.ex x ρ).and s = .ex x ρ := rfl
@[simp] theorem x_bind {f : M α} {k : α → M β} : M.bind f k ρ = (f ρ).and k := rfl
@[simp] theorem x_sbind {f : M α} {k : α → S} : sBind f k ρ = (f ρ).andS k := rfl
@[simp] theorem x_ret {a : α} : M.ret a ρ = .ok a ρ := rfl
@[simp] theorem x_ofs {a : α} : M.of (some a) ρ = .ok a ρ := rfl
@[simp] theorem x_seq : sSeq s s' ρ = (s ρ).and s' := by
  unfold sSeq Out.and
  cases s ρ <;> rfl
@[simp] theorem x_next : sNext ρ = .nx ρ := rfl
@[simp] theorem x_brk : sBrk ρ = .brk ρ := rfl
@[simp] theorem x_cnt : sCnt ρ = .cnt ρ := rfl
@[simp] theorem x_retN : sRetN ρ = .ret (.val .non) ρ := rfl
/-! ### values -/
def varK (i : Nat) (ρ : Ro) : Option Sl → Res R
  | some (.fz d) => .ok (.val d) ρ
  | some (.ow _ _) => .ok (.sl i) ρ
  | some (.ln _ _) => .ok (.sl i) ρ
  | _ => .bad
@[simp] theorem varK_fz {i : Nat} {d : D} : varK i ρ (some (.fz d)) = .ok (.val d) ρ := rfl
@[simp] theorem varK_ow {i : Nat} {k : Bool} {o : OV} : varK i ρ (some (.ow k o)) = .ok (.sl i) ρ := rfl
@[simp] theorem varK_ln {i : Nat} {k : Bool} {o : OV} : varK i ρ (some (.ln k o)) = .ok (.sl i) ρ := rfl
@[simp] theorem x_var {i : Nat} : eVar i ρ = varK i ρ (ρ[i]?) := by unfold eVar varK; rfl
@[simp] theorem x_c {d : D} : eC d ρ = .ok (.val d) ρ := rfl
@[simp] theorem dr_val {d : D} : deref ρ (.val d) = some d := rfl
@[simp] theorem dr_nw {o : OV} : deref ρ (.nw o) = some o.toD := rfl
@[simp] theorem dr_sl {i : Nat} : deref ρ (.sl i) = (ρ[i]?).bind Sl.cont := rfl
@[simp] theorem ct_ow {k : Bool} {o : OV} : (Sl.ow k o).cont = some o.toD := rfl
@[simp] theorem ct_ln {k : Bool} {o : OV} : (Sl.ln k o).cont = some o.toD := rfl
@[simp] theorem ct_fz {d : D} : (Sl.fz d).cont = some d := rfl
@[simp] theorem toD_lst {ds : List D} : (OV.lst ds).toD = .lst ds := rfl
@[simp] theorem toD_dct {ds : List (L2.Key × D)} : (OV.dct ds).toD = .dct ds := rfl
@[simp] theorem toD_ins {n : Str} {ds : List (Str × D)} : (OV.ins n ds).toD = .ins n ds := rfl
def op2K (op : D → D → Option R) (x y : Option D) (ρ : Ro) : Res R := match x, y with
  | some d, some e => M.of (op d e) ρ
  | _, _ => .bad
@[simp] theorem op2K_s {d e : D} : op2K op (some d) (some e) ρ = M.of (op d e) ρ := rfl
@[simp] theorem x_opE {a b : R} : opE op a b ρ = op2K op (deref ρ a) (deref ρ b) ρ := rfl
def op1K (op : D → Option R) (x : Option D) (ρ : Ro) : Res R := match x with
  | some d => M.of (op d) ρ
  | _ => .bad
@[simp] theorem op1K_s {op : D → Option R} {d : D} : op1K op (some d) ρ = M.of (op d) ρ := rfl
@[simp] theorem x_opE1 {op : D → Option R} {a : R} : opE1 op a ρ = op1K op (deref ρ a) ρ := rfl
def consK : Option D → Option (List D) → Option (List D)
  | some d, some ds => some (d :: ds)
  | _, _ => none
@[simp] theorem consK_s {d : D} {ds : List D} : consK (some d) (some ds) = some (d :: ds) := rfl
@[simp] theorem drs_nil : derefs ρ [] = some [] := rfl
@[simp] theorem drs_cons {r : R} {rs : List R} : derefs ρ (r :: rs) = consK (deref ρ r) (derefs ρ rs) := rfl
def opnK (op : List D → Option R) (x : Option (List D)) (ρ : Ro) : Res R := match x with
  | some ds => M.of (op ds) ρ
  | none => .bad
@[simp] theorem opnK_s {op : List D → Option R} {ds : List D} : opnK op (some ds) ρ = M.of (op ds) ρ := rfl
@[simp] theorem x_opEn {op : List D → Option R} {rs : List R} : opEn op rs ρ = opnK op (derefs ρ rs) ρ := rfl
@[simp] theorem x_bin : eBin op f g ρ = M.bind f (fun a => M.bind g fun b => opE op a b) ρ := rfl
@[simp] theorem x_un {op : D → Option R} : eUn op f ρ = M.bind f (fun a => opE1 op a) ρ := rfl
@[simp] theorem x_callB {op : List D → Option R} {fa : M (List R)} : eCallB op fa ρ = M.bind fa (fun as => opEn op as) ρ := rfl
def truK (x : Option D) (ρ : Ro) : Res Bool := match x.bind truthD with
  | some b => .ok b ρ
  | none => .bad
@[simp] theorem truK_bl {b : Bool} : truK (some (.bl b)) ρ = .ok b ρ := rfl
@[simp] theorem truK_int {i : Int} : truK (some (.int i)) ρ = .ok (i != 0) ρ := rfl
@[simp] theorem truK_lst {ds : List D} : truK (some (.lst ds)) ρ = .ok (!ds.isEmpty) ρ := rfl
@[simp] theorem x_truthR {r : R} : truthR r ρ = truK (deref ρ r) ρ := rfl
@[simp] theorem x_test : eTest f ρ = M.bind f truthR ρ := rfl
@[simp] theorem x_eB : eB t ρ = M.bind t (fun b => M.ret (.val (.bl b))) ρ := rfl
def Res.ifM {α : Type} (x : Res Bool) (f g : M α) : Res α := match x with
  | .ok true ρ => f ρ
  | .ok false ρ => g ρ
  | .ex x ρ => .ex x ρ
  | .bad => .bad
@[simp] theorem ifM_t {f g : M α} : (Res.ok true ρ).ifM f g = f ρ := rfl
@[simp] theorem ifM_f {f g : M α} : (Res.ok false ρ).ifM f g = g ρ := rfl
theorem ifM_b {b : Bool} {f g : M α} : (Res.ok b ρ).ifM f g = if b = true then f ρ else g ρ := by cases b <;> rfl
@[simp] theorem x_if {f g : M α} : eIf t f g ρ = (t ρ).ifM f g := by
  unfold eIf M.bind Res.ifM
  cases e : t ρ with
  | ok b ρ' => cases b <;> rfl
  | ex x ρ' => rfl
  | bad => rfl
@[simp] theorem x_and : eAnd t u ρ = (t ρ).ifM u (M.ret false) := x_if
@[simp] theorem x_or : eOr t u ρ = (t ρ).ifM (M.ret true) u := x_if
@[simp] theorem x_not : eNot t ρ = M.bind t (fun b => M.ret (!b)) ρ := rfl
@[simp] theorem x_boolR {b : Bool} : boolR (.val (.bl b)) ρ = .ok b ρ := rfl
@[simp] theorem x_bool : eBool f ρ = M.bind f boolR ρ := rfl
@[simp] theorem x_nil : eNil ρ = .ok [] ρ := rfl
@[simp] theorem x_cons {h : M (List R)} : eCons f h ρ = M.bind f (fun r => h.bind fun rs => M.ret (fzR r :: rs)) ρ := rfl
@[simp] theorem fzR_nw {o : OV} : fzR (.nw o) = .val o.toD := rfl
@[simp] theorem fzR_val {d : D} : fzR (.val d) = .val d := rfl
@[simp] theorem fzR_sl {i : Nat} : fzR (.sl i) = .sl i := rfl
@[simp] theorem x_chain {fa fb fc : M R} : eChain op op' fa fb fc ρ = M.bind fa (fun a => fb.bind fun b => (opE op a b).bind (chainK op' b fc)) ρ := rfl
theorem x_chainK {b : R} {fc : M R} {k : Bool} : chainK op' b fc (.val (.bl k)) ρ = if k = true then M.bind fc (fun c => opE op' b c) ρ else .ok (.val (.bl false)) ρ := by cases k <;> rfl
@[simp] theorem x_chainT {b : R} {fc : M R} : chainK op' b fc (.val (.bl true)) ρ = M.bind fc (fun c => opE op' b c) ρ := rfl
@[simp] theorem x_chainF {b : R} {fc : M R} : chainK op' b fc (.val (.bl false)) ρ = .ok (.val (.bl false)) ρ := rfl
@[simp] theorem x_ms {op : Str → List D → Option R} {fa : M (List R)} : eMS op f fa ρ = M.bind f (msK op fa) ρ := rfl
@[simp] theorem x_msK {op : Str → List D → Option R} {fa : M (List R)} {z : Str} : msK op fa (.val (.str z)) ρ = M.bind fa (opEn (op z)) ρ := rfl
@[simp] theorem x_mS0 {g : Str → D} {z : Str} : mS0 g z [] = some (.val (g z)) := rfl
/-! ### operations -/
@[simp] theorem r_vI {i : Int} : vI i = some (.val (.int i)) := rfl
@[simp] theorem r_vB {i : Bool} : vB i = some (.val (.bl i)) := rfl
@[simp] theorem r_vS {i : Str} : vS i = some (.val (.str i)) := rfl
@[simp] theorem r_addI {i j : Int} : opAdd (.int i) (.int j) = some (.val (.int (i + j))) := rfl
@[simp] theorem r_subI {i j : Int} : opSub (.int i) (.int j) = some (.val (.int (i - j))) := rfl
@[simp] theorem r_ltI {i j : Int} : opLt (.int i) (.int j) = some (.val (.bl (decide (i < j)))) := rfl
@[simp] theorem r_leI {i j : Int} : opLe (.int i) (.int j) = some (.val (.bl (decide (i ≤ j)))) := rfl
@[simp] theorem r_gtI {i j : Int} : opGt (.int i) (.int j) = some (.val (.bl (decide (j < i)))) := rfl
@[simp] theorem r_geI {i j : Int} : opGe (.int i) (.int j) = some (.val (.bl (decide (j ≤ i)))) := rfl
@[simp] theorem r_isB {i j : Bool} : opIs (.bl i) (.bl j) = some (.val (.bl (decide (i = j)))) := rfl
theorem r_mulI {i j : Int} (h : mulOk i j = true) : opMulA (.int i) (.int j) = some (.val (.int (i * j))) := by
  show (if mulOk i j = true then vI (i * j) else none) = _
  rw [if_pos h]; rfl
theorem r_modI {i j : Int} (h : 0 < j) : opMod (.int i) (.int j) = some (.val (.int (i % j))) := by
  show (if 0 < j then vI (i % j) else none) = _
  rw [if_pos h]; rfl
theorem r_fdivI {i j : Int} (h : 0 < j) (h2 : j.natAbs.log2 < 9000) : opFdiv (.int i) (.int j) = some (.val (.int (i / j))) := by
  show (if (decide (0 < j) && decide (j.natAbs.log2 < 9000)) = true then vI (i / j) else none) = _
  rw [if_pos (by simp [h, h2])]; rfl
theorem r_addS {x y : Str} (h : x.length + y.length ≤ sizeLine) : opAdd (.str x) (.str y) = some (.val (.str (x ++ y))) := by
  show (if x.length + y.length ≤ sizeLine then vS (x ++ y) else none) = _
  rw [if_pos h]; rfl
theorem r_addL {x y : List D} (h : x.length + y.length ≤ sizeLine) : opAdd (.lst x) (.lst y) = some (.nw (.lst (x ++ y))) := by
  show (if x.length + y.length ≤ sizeLine then some (R.nw (.lst (x ++ y))) else none) = _
  rw [if_pos h]
@[simp] theorem r_eqI {i j : Int} : opEq (.int i) (.int j) = some (.val (.bl (i == j))) := rfl
@[simp] theorem r_neI {i j : Int} : opNe (.int i) (.int j) = some (.val (.bl (!(i == j)))) := rfl
theorem pyOk_str {x : Str} (h : PyData.strOk x = true) : pyOk (.str x) = true := by
  show (true && (PyData.strOk x && true)) = true
  rw [h]; rfl
theorem r_eqS {i j : Str} (h : PyData.strOk i = true) (h' : PyData.strOk j = true) : opEq (.str i) (.str j) = some (.val (.bl (i == j))) := by
  unfold opEq
  rw [pyOk_str h, pyOk_str h']; rfl
theorem r_neS {i j : Str} (h : PyData.strOk i = true) (h' : PyData.strOk j = true) : opNe (.str i) (.str j) = some (.val (.bl (!(i == j)))) := by
  unfold opNe
  rw [pyOk_str h, pyOk_str h']; rfl
theorem r_len_str {x : Str} (h : x.length ≤ sizeLine) : cLen [.str x] = some (.val (.int (x.length : Int))) := by
  show (if x.length ≤ sizeLine then some x.length else none).bind (fun n => vI (n : Int)) = _
  rw [if_pos h]; rfl
@[simp] theorem r_len_lst {x : List D} : cLen [.lst x] = some (.val (.int (x.length : Int))) := rfl
@[simp] theorem r_len_tup {x : List D} : cLen [.tup x] = some (.val (.int (x.length : Int))) := rfl
@[simp] theorem r_int {i : Int} : cInt [.int i] = some (.val (.int i)) := rfl
@[simp] theorem r_intB {b : Bool} : cInt [.bl b] = some (.val (.int (if b then 1 else 0))) := rfl
@[simp] theorem r_abs {i : Int} : cAbs [.int i] = some (.val (.int (if i < 0 then -i else i))) := rfl
@[simp] theorem r_list_l {x : List D} : cList [.lst x] = some (.nw (.lst x)) := rfl
@[simp] theorem r_list_t {x : List D} : cList [.tup x] = some (.nw (.lst x)) := rfl
@[simp] theorem r_tuple_l {x : List D} : cTuple [.lst x] = some (.val (.tup x)) := rfl
@[simp] theorem r_tuple_t {x : List D} : cTuple [.tup x] = some (.val (.tup x)) := rfl
/-! ### displays -/
@[simp] theorem vr_nil : valsR [] = some [] := rfl
@[simp] theorem vr_cons {d : D} {rs : List R} : valsR (.val d :: rs) = (valsR rs).map (d :: ·) := rfl
def lstK (x : Option (List D)) (ρ : Ro) : Res R := match x with
  | some ds => if ds.length ≤ sizeLine then .ok (.nw (.lst ds)) ρ else .bad
  | none => .bad
def tupK (x : Option (List D)) (ρ : Ro) : Res R := match x with
  | some ds => if ds.length ≤ sizeLine then .ok (.val (.tup ds)) ρ else .bad
  | none => .bad
theorem lstK_s {ds : List D} (h : ds.length ≤ sizeLine) : lstK (some ds) ρ = .ok (.nw (.lst ds)) ρ := if_pos h
theorem tupK_s {ds : List D} (h : ds.length ≤ sizeLine) : tupK (some ds) ρ = .ok (.val (.tup ds)) ρ := if_pos h
@[simp] theorem x_lstR {rs : List R} : lstR rs ρ = lstK (valsR rs) ρ := rfl
@[simp] theorem x_tupR {rs : List R} : tupR rs ρ = tupK (valsR rs) ρ := rfl
@[simp] theorem x_lst {fa : M (List R)} : eLst fa ρ = M.bind fa lstR ρ := rfl
@[simp] theorem x_tup {fa : M (List R)} : eTup fa ρ = M.bind fa tupR ρ := rfl
/-! ### statements -/
def Res.ifS (x : Res Bool) (s s' : S) : Out := match x with
  | .ok true ρ => s ρ
  | .ok false ρ => s' ρ
  | .ex x ρ => .ex x ρ
  | .bad => .bad
@[simp] theorem ifS_t : (Res.ok true ρ).ifS s s' = s ρ := rfl
@[simp] theorem ifS_f : (Res.ok false ρ).ifS s s' = s' ρ := rfl
theorem ifS_b {b : Bool} : (Res.ok b ρ).ifS s s' = if b = true then s ρ else s' ρ := by cases b <;> rfl
@[simp] theorem x_sif : sIf t s s' ρ = (t ρ).ifS s s' := by
  unfold sIf sBind Res.ifS
  cases e : t ρ with
  | ok b ρ' => cases b <;> rfl
  | ex x ρ' => rfl
  | bad => rfl
@[simp] theorem x_expr : sExpr f ρ = (f ρ).andS (fun _ => sNext) := rfl
@[simp] theorem x_asg {i : Nat} : sAsg i f ρ = (f ρ).andS (storeR i) := rfl
@[simp] theorem x_sret : sRet f ρ = (f ρ).andS retR := rfl
def okS : Option Sl → Bool
  | some .no => true
  | some (.fz _) => true
  | some (.ow k _) => !k
  | _ => false
@[simp] theorem okS_no : okS (some .no) = true := rfl
@[simp] theorem okS_fz {d : D} : okS (some (.fz d)) = true := rfl
@[simp] theorem okS_ow {k : Bool} {o : OV} : okS (some (.ow k o)) = !k := rfl
theorem okSet_eq {i : Nat} : okSet ρ i = okS (ρ[i]?) := by
  unfold okSet okS
  cases ρ[i]? with
  | none => rfl
  | some s => cases s <;> rfl
@[simp] theorem x_store_val {i : Nat} {d : D} : storeR i (.val d) ρ = if okS (ρ[i]?) = true then .nx (ρ.set i (.fz d)) else .bad := by
  unfold storeR
  rw [okSet_eq]
@[simp] theorem x_store_nw {i : Nat} {o : OV} : storeR i (.nw o) ρ = if okS (ρ[i]?) = true then .nx (ρ.set i (.ow false o)) else .bad := by
  unfold storeR
  rw [okSet_eq]
@[simp] theorem x_ret_val {d : D} : retR (.val d) ρ = .ret (.val d) ρ := rfl
@[simp] theorem x_ret_nw {o : OV} : retR (.nw o) ρ = .ret (.nw o) ρ := rfl
def retK (ρ : Ro) (j : Nat) : Option Sl → Out
  | some (.ow false o) => .ret (.nw o) (ρ.set j .no)
  | _ => .bad
@[simp] theorem retK_ow {j : Nat} {o : OV} : retK ρ j (some (.ow false o)) = .ret (.nw o) (ρ.set j .no) := rfl
@[simp] theorem x_ret_sl {j : Nat} : retR (.sl j) ρ = retK ρ j (ρ[j]?) := by
  unfold retR retK
  rfl
/-! ### a def, a call -/
def finK (a : Ro) : Out → Res R
  | .nx ρ => match keepIo a ρ with
    | some a' => .ok (.val .non) a'
    | none => .bad
  | .ret (.sl _) _ => .bad
  | .ret r ρ => match keepIo a ρ with
    | some a' => .ok r a'
    | none => .bad
  | .ex x ρ => match keepIo a ρ with
    | some a' => .ex x a'
    | none => .bad
  | _ => .bad
theorem x_run {n : Nat} {a : Ro} : runF n s a = finK a (s (a ++ List.replicate n .no)) := by
  unfold runF finK
  rfl
def Oo.res {α : Type} (x : Option Ro) (r : α) : Res α := match x with
  | some a => .ok r a
  | none => .bad
@[simp] theorem oo_s {a : Ro} {r : α} : Oo.res (some a) r = .ok r a := rfl
@[simp] theorem fin_val {a : Ro} {d : D} : finK a (.ret (.val d) ρ) = Oo.res (keepIo a ρ) (.val d) := rfl
@[simp] theorem fin_nw {a : Ro} {o : OV} : finK a (.ret (.nw o) ρ) = Oo.res (keepIo a ρ) (.nw o) := rfl
@[simp] theorem fin_nx {a : Ro} : finK a (.nx ρ) = Oo.res (keepIo a ρ) (.val .non) := rfl
@[simp] theorem kio_nil : keepIo [] ρ = some [] := by cases ρ <;> rfl
@[simp] theorem kio_fz {d : D} {a : Ro} {s : Sl} : keepIo (.fz d :: a) (s :: ρ) = (keepIo a ρ).map (.fz d :: ·) := rfl
@[simp] theorem kio_ow {o o' : OV} {a : Ro} : keepIo (.ow true o :: a) (.ow true o' :: ρ) = (keepIo a ρ).map (.ow true o' :: ·) := rfl
@[simp] theorem x_call {F : Ro → Res R} {fa : M (List R)} : eCall F fa ρ = M.bind fa (callR F) ρ := rfl
def callK (rs : List R) (ρ : Ro) (F : Ro → Res R) (x : Option Ro) (ap : Bool) : Res R := match x with
  | none => .bad
  | some a => if ap = true then (match F a with
    | .ok (.sl _) _ => .bad
    | .ok r a' => match backR rs a' 0 ρ with
      | some ρ' => .ok r ρ'
      | none => .bad
    | .ex x a' => match backR rs a' 0 ρ with
      | some ρ' => .ex x ρ'
      | none => .bad
    | .bad => .bad) else .bad
def Res.back (rs : List R) (ρ : Ro) : Res R → Res R
  | .ok (.sl _) _ => .bad
  | .ok r a' => match backR rs a' 0 ρ with
    | some ρ' => .ok r ρ'
    | none => .bad
  | .ex x a' => match backR rs a' 0 ρ with
    | some ρ' => .ex x ρ'
    | none => .bad
  | .bad => .bad
@[simp] theorem back_val {rs : List R} {d : D} {a' : Ro} : (Res.ok (.val d) a').back rs ρ = Oo.res (backR rs a' 0 ρ) (.val d) := rfl
@[simp] theorem back_nw {rs : List R} {o : OV} {a' : Ro} : (Res.ok (.nw o) a').back rs ρ = Oo.res (backR rs a' 0 ρ) (.nw o) := rfl
@[simp] theorem callK_s {rs : List R} {F : Ro → Res R} {a : Ro} : callK rs ρ F (some a) true = (F a).back rs ρ := by
  unfold callK Res.back
  rfl
@[simp] theorem x_callR {F : Ro → Res R} {rs : List R} : callR F rs ρ = callK rs ρ F (argSls ρ rs) (apartR ρ rs) := by
  unfold callR callK
  rfl
def slK : Option Sl → Option Sl
  | some (.fz d) => some (.fz d)
  | some (.ow _ o) => some (.ow true o)
  | _ => none
@[simp] theorem slK_fz {d : D} : slK (some (.fz d)) = some (.fz d) := rfl
@[simp] theorem slK_ow {k : Bool} {o : OV} : slK (some (.ow k o)) = some (.ow true o) := rfl
@[simp] theorem as_val {d : D} : argSl ρ (.val d) = some (.fz d) := rfl
@[simp] theorem as_sl {i : Nat} : argSl ρ (.sl i) = slK (ρ[i]?) := by
  unfold argSl slK
  rfl
def consS : Option Sl → Option Ro → Option Ro
  | some d, some ds => some (d :: ds)
  | _, _ => none
@[simp] theorem consS_s {d : Sl} {ds : Ro} : consS (some d) (some ds) = some (d :: ds) := rfl
@[simp] theorem ass_nil : argSls ρ [] = some [] := rfl
@[simp] theorem ass_cons {r : R} {rs : List R} : argSls ρ (r :: rs) = consS (argSl ρ r) (argSls ρ rs) := rfl
@[simp] theorem ap_nil : apartR ρ [] = true := rfl
@[simp] theorem ap_val {d : D} {rs : List R} : apartR ρ (.val d :: rs) = apartR ρ rs := rfl
def apK (i : Nat) (rs : List R) : Option Sl → Bool
  | some (.ow _ _) => !rs.any (R.is i)
  | _ => true
@[simp] theorem apK_ow {i : Nat} {rs : List R} {k : Bool} {o : OV} : apK i rs (some (.ow k o)) = !rs.any (R.is i) := rfl
@[simp] theorem apK_fz {i : Nat} {rs : List R} {d : D} : apK i rs (some (.fz d)) = true := rfl
@[simp] theorem ap_sl {i : Nat} {rs : List R} : apartR ρ (.sl i :: rs) = (apK i rs (ρ[i]?) && apartR ρ rs) := by
  show ((match ρ[i]? with
    | some (.ow _ _) => !rs.any (R.is i)
    | _ => true) && apartR ρ rs) = _
  unfold apK
  rfl
@[simp] theorem ris_val {i : Nat} {d : D} : R.is i (.val d) = false := rfl
@[simp] theorem ris_sl {i j : Nat} : R.is i (.sl j) = (j == i) := rfl
@[simp] theorem bk_nil {rs : List R} {a' : Ro} {i : Nat} : backR rs a' i [] = some [] := rfl
@[simp] theorem bk_no {rs : List R} {a' l : Ro} {i : Nat} : backR rs a' i (.no :: l) = (backR rs a' (i + 1) l).map (.no :: ·) := rfl
@[simp] theorem bk_fz {rs : List R} {a' l : Ro} {i : Nat} {d : D} : backR rs a' i (.fz d :: l) = (backR rs a' (i + 1) l).map (.fz d :: ·) := rfl
@[simp] theorem bk_ln {rs : List R} {a' l : Ro} {i : Nat} {k : Bool} {o : OV} : backR rs a' i (.ln k o :: l) = (backR rs a' (i + 1) l).map (.ln k o :: ·) := rfl
def bkK (k : Bool) (o : OV) (r : Option Ro) : Option Sl → Option Ro
  | none => r.map (Sl.ow k o :: ·)
  | some (.ow true o') => r.map (Sl.ow k o' :: ·)
  | _ => none
@[simp] theorem bkK_n {k : Bool} {o : OV} {r : Option Ro} : bkK k o r none = r.map (Sl.ow k o :: ·) := rfl
@[simp] theorem bkK_s {k : Bool} {o o' : OV} {r : Option Ro} : bkK k o r (some (Sl.ow true o')) = r.map (Sl.ow k o' :: ·) := rfl
@[simp] theorem bk_ow {rs : List R} {a' l : Ro} {i : Nat} {k : Bool} {o : OV} : backR rs a' i (.ow k o :: l) = bkK k o (backR rs a' (i + 1) l) (findA i rs a') := by
  show (match findA i rs a' with
    | none => (backR rs a' (i + 1) l).map (Sl.ow k o :: ·)
    | some (.ow true o') => (backR rs a' (i + 1) l).map (Sl.ow k o' :: ·)
    | _ => none) = _
  unfold bkK
  rfl
@[simp] theorem fa_nil {i : Nat} {a : Ro} : findA i [] a = none := rfl
@[simp] theorem fa_val {i : Nat} {d : D} {rs : List R} {s : Sl} {a : Ro} : findA i (.val d :: rs) (s :: a) = findA i rs a := rfl
@[simp] theorem fa_sl {i j : Nat} {rs : List R} {s : Sl} {a : Ro} : findA i (.sl j :: rs) (s :: a) = if j = i then some s else findA i rs a := rfl
/-! ### objects -/
def methK (j : Nat) (mop : OV → List D → Option (D × OV)) (ρ : Ro) (x : Option Sl) (ds : Option (List D)) : Res R := match x, ds with
  | some (.ow k o), some ds => match mop o ds with
    | some (d, o') => .ok (.val d) (ρ.set j (.ow k o'))
    | none => .bad
  | _, _ => .bad
def Oo.meth (j : Nat) (k : Bool) (ρ : Ro) (x : Option (D × OV)) : Res R := match x with
  | some (d, o') => .ok (.val d) (ρ.set j (.ow k o'))
  | none => .bad
@[simp] theorem oo_meth {j : Nat} {k : Bool} {d : D} {o : OV} : Oo.meth j k ρ (some (d, o)) = .ok (.val d) (ρ.set j (.ow k o)) := rfl
@[simp] theorem methK_s {j : Nat} {mop : OV → List D → Option (D × OV)} {k : Bool} {o : OV} {ds : List D} : methK j mop ρ (some (.ow k o)) (some ds) = Oo.meth j k ρ (mop o ds) := rfl
@[simp] theorem x_methR {j : Nat} {mop : OV → List D → Option (D × OV)} {rs : List R} : methR j mop rs ρ = methK j mop ρ (ρ[j]?) (valsR rs) := rfl
def owK (T : String) : Option Sl → Bool
  | some (.ow _ o) => o.ty == T
  | _ => false
@[simp] theorem owK_l {k : Bool} {ds : List D} : owK "list" (some (.ow k (.lst ds))) = true := rfl
@[simp] theorem owK_d {k : Bool} {ds : List (L2.Key × D)} : owK "dict" (some (.ow k (.dct ds))) = true := rfl
@[simp] theorem x_isOw {T : String} {j : Nat} : isOw T ρ j = owK T (ρ[j]?) := rfl
@[simp] theorem x_meth {T : String} {j : Nat} {mop : OV → List D → Option (D × OV)} {fa : M (List R)} : eMeth T j mop fa ρ = if owK T (ρ[j]?) = true then M.bind fa (methR j mop) ρ else .bad := rfl
theorem r_append {ds : List D} {d : D} (h : ds.length < sizeLine) : moAppend (.lst ds) [d] = some (.non, .lst (ds ++ [d])) := if_pos h
@[simp] theorem r_pop0 {d : D} {ds : List D} : moPopAt (.lst (d :: ds)) [.int 0] = some (d, .lst ds) := by
  show (if (decide (-(2 ^ 63) ≤ (0 : Int)) && decide ((0 : Int) < 2 ^ 63)) = true then (seqIndex? 0 (d :: ds).length).bind fun k => ((d :: ds)[k]?).map fun e => (e, OV.lst ((d :: ds).eraseIdx k)) else none) = _
  rw [if_pos (by decide)]
  have e : seqIndex? 0 (d :: ds).length = some 0 := by
    unfold seqIndex?
    simp
  rw [e]
  rfl
def ownK : Option Sl → Bool
  | some (.ow _ _) => true
  | _ => false
@[simp] theorem ownK_s {k : Bool} {o : OV} : ownK (some (.ow k o)) = true := rfl
def setKK (j : Nat) (ρ : Ro) (d : D) (x : Option Sl) (i : Option D) : Out := match x, i with
  | some (.ow k o), some di => match setO o di d with
    | some o' => .nx (ρ.set j (.ow k o'))
    | none => .bad
  | _, _ => .bad
def Oo.set (j : Nat) (k : Bool) (ρ : Ro) : Option OV → Out
  | some o' => .nx (ρ.set j (.ow k o'))
  | none => .bad
@[simp] theorem oo_set {j : Nat} {k : Bool} {o : OV} : Oo.set j k ρ (some o) = .nx (ρ.set j (.ow k o)) := rfl
@[simp] theorem setKK_s {j : Nat} {d di : D} {k : Bool} {o : OV} : setKK j ρ d (some (.ow k o)) (some di) = Oo.set j k ρ (setO o di d) := rfl
@[simp] theorem x_setR {j : Nat} {d : D} {ri : R} : setR j (.val d) ri ρ = setKK j ρ d (ρ[j]?) (deref ρ ri) := by
  unfold setR setKK
  cases ρ[j]? with
  | none => rfl
  | some s => cases s <;> cases deref ρ ri <;> rfl
@[simp] theorem x_setK {j : Nat} {fi : M R} {r : R} : setK j fi r ρ = if ownK (ρ[j]?) = true then (fi ρ).andS (setR j r) else .bad := rfl
@[simp] theorem x_frz_val {d : D} : frzR (.val d) ρ = .ok (.val d) ρ := rfl
@[simp] theorem x_frz_nw {o : OV} : frzR (.nw o) ρ = .ok (.val o.toD) ρ := rfl
@[simp] theorem x_fz : eFz f ρ = (f ρ).and frzR := rfl
@[simp] theorem x_sset {j : Nat} {fv fi : M R} : sSet j fv fi ρ = (eFz fv ρ).andS (setK j fi) := rfl
end
end DL
namespace DL
section
variable {ρ ρ1 ρ2 : Ro} {t : M Bool} {s : S} {o : Out}
theorem while_stop (h : t ρ = .ok false ρ1) : sWhile t s ρ = .nx ρ1 := sWhile_of 1 (by unfold whileN; rw [h]) (fun q => by cases q)
theorem while_go (h : t ρ = .ok true ρ1) (h2 : s ρ1 = .nx ρ2) (h3 : sWhile t s ρ2 = o) (ho : o ≠ .bad) : sWhile t s ρ = o := by
  unfold sWhile at h3
  by_cases ex : ∃ n, whileN t s n ρ2 ≠ .bad
  · rw [dif_pos ex] at h3
    refine sWhile_of (Classical.choose ex + 1) ?_ ho
    unfold whileN
    rw [h]
    dsimp only
    rw [h2]
    exact h3
  · rw [dif_neg ex] at h3
    exact absurd h3.symm ho
end
end DL

/-! DLr: loops and comprehensions, run. -/
namespace DL
open PySem PySem.Spec
section
variable {α β : Type} {ρ ρ' : Ro} {f : M R} {t : M Bool} {s : S} {tgt : Tgt} {body : S} {elt fk fv : M R} {cond : M Bool} {vs : List Nat}
def vK (ρ : Ro) : Option (List D) → Res Iter
  | some ds => .ok (itVals ds) ρ
  | none => .bad
@[simp] theorem vK_s {ds : List D} : vK ρ (some ds) = .ok (itVals ds) ρ := rfl
@[simp] theorem x_itR_val {d : D} : itR (.val d) ρ = vK ρ (itemsD d) := rfl
@[simp] theorem x_itR_nw {o : OV} : itR (.nw o) ρ = vK ρ (itemsD o.toD) := rfl
@[simp] theorem id_lst {ds : List D} : itemsD (.lst ds) = some ds := rfl
@[simp] theorem id_tup {ds : List D} : itemsD (.tup ds) = some ds := rfl
@[simp] theorem id_str {x : Str} : itemsD (.str x) = some (charsD x) := rfl
@[simp] theorem id_scr {ns : List Int} : itemsD (.scr ns) = some (ns.map D.int) := rfl
@[simp] theorem x_itE : itE f ρ = (f ρ).and itR := rfl
def nK (j : Nat) (ρ : Ro) : Option Sl → Res Iter
  | some (.fz d) => vK ρ (itemsD d)
  | some (.ow k (.lst ds)) => .ok (itLent j true) (ρ.set j (.ln k (.lst ds)))
  | some (.ln k (.lst ds)) => .ok (itLent j false) ρ
  | _ => .bad
@[simp] theorem nK_fz {j : Nat} {d : D} : nK j ρ (some (.fz d)) = vK ρ (itemsD d) := rfl
@[simp] theorem nK_ow {j : Nat} {k : Bool} {ds : List D} : nK j ρ (some (.ow k (.lst ds))) = .ok (itLent j true) (ρ.set j (.ln k (.lst ds))) := rfl
@[simp] theorem nK_ln {j : Nat} {k : Bool} {ds : List D} : nK j ρ (some (.ln k (.lst ds))) = .ok (itLent j false) ρ := rfl
@[simp] theorem x_itN {j : Nat} : itN j ρ = nK j ρ (ρ[j]?) := by
  unfold itN nK vK
  rfl
def Res.enum : Res Iter → Res Iter
  | .ok it ρ => .ok ⟨it.src, fun ρ => (it.items ρ).map enumD⟩ ρ
  | .ex x ρ => .ex x ρ
  | .bad => .bad
@[simp] theorem enum_v {ds : List D} : (Res.ok (itVals ds) ρ).enum = .ok (itVals (enumD ds)) ρ := rfl
@[simp] theorem x_itEnum {f : M Iter} : itEnum f ρ = (f ρ).enum := rfl
def rngO (ρ : Ro) : Option (List D) → Res Iter
  | some [.int j] => if fits62 j = true then .ok (itVals (rangeD 0 j.toNat)) ρ else .bad
  | some [.int i, .int j] => if (fits62 i && fits62 j) = true then .ok (itVals (rangeD i (j - i).toNat)) ρ else .bad
  | _ => .bad
def rngK (rs : List R) : M Iter := fun ρ => rngO ρ (derefs ρ rs)
@[simp] theorem x_rngK {rs : List R} : rngK rs ρ = rngO ρ (derefs ρ rs) := rfl
@[simp] theorem rngO_1 {j : Int} : rngO ρ (some [.int j]) = if fits62 j = true then .ok (itVals (rangeD 0 j.toNat)) ρ else .bad := rfl
@[simp] theorem rngO_2 {i j : Int} : rngO ρ (some [.int i, .int j]) = if (fits62 i && fits62 j) = true then .ok (itVals (rangeD i (j - i).toNat)) ρ else .bad := rfl
@[simp] theorem x_range {fa : M (List R)} : itRange fa ρ = (fa ρ).and rngK := by
  unfold itRange M.bind Res.and rngK rngO
  rfl
/-! ### for -/
@[simp] theorem x_for {f : M Iter} : sFor f tgt body ρ = (f ρ).andS (forR tgt body) := rfl
theorem map_u0 (o : Out) : o.map (undoR []) = o := by cases o <;> rfl
@[simp] theorem x_forV {ds : List D} : forR tgt body (itVals ds) ρ = loopF tgt body ds ρ := by
  show (loopF tgt body ds ρ).map (undoR []) = _
  rw [map_u0]
def lnK : Option Sl → Bool
  | some (.ln _ _) => true
  | _ => false
@[simp] theorem lnK_no : lnK (some .no) = false := rfl
@[simp] theorem lnK_fz {d : D} : lnK (some (.fz d)) = false := rfl
@[simp] theorem lnK_ow {k : Bool} {o : OV} : lnK (some (.ow k o)) = false := rfl
@[simp] theorem lnK_ln {k : Bool} {o : OV} : lnK (some (.ln k o)) = true := rfl
@[simp] theorem x_isLn {j : Nat} : isLn ρ j = lnK (ρ[j]?) := rfl
def lnI : Option Sl → Option (List D)
  | some (.ln _ (.lst ds)) => some ds
  | _ => none
@[simp] theorem lnI_s {k : Bool} {ds : List D} : lnI (some (.ln k (.lst ds))) = some ds := rfl
@[simp] theorem x_lnItems {j : Nat} : lnItems j ρ = lnI (ρ[j]?) := rfl
def forK (tgt : Tgt) (body : S) (src : List (Nat × Bool)) (ρ : Ro) : Option (List D) → Out
  | some ds => (loopF tgt body ds ρ).map (undoR src)
  | none => .bad
@[simp] theorem forK_s {ds : List D} {src : List (Nat × Bool)} : forK tgt body src ρ (some ds) = (loopF tgt body ds ρ).map (undoR src) := rfl
@[simp] theorem x_forL {j : Nat} {u : Bool} : forR tgt body (itLent j u) ρ = if lnK (ρ[j]?) = true then forK tgt body [(j, u)] ρ (lnI (ρ[j]?)) else .bad := by
  show (if ([(j, u)].all fun p => isLn ρ p.1) = true then _ else _) = _
  simp only [List.all_cons, List.all_nil, Bool.and_true, x_isLn]
  by_cases h : lnK (ρ[j]?) = true
  · rw [if_pos h, if_pos h]
    show (match lnItems j ρ with
      | none => Out.bad
      | some ds => (loopF tgt body ds ρ).map (undoR [(j, u)])) = _
    rw [x_lnItems]
    cases lnI (ρ[j]?) <;> rfl
  · rw [if_neg h, if_neg h]
@[simp] theorem omap_nx {g : Ro → Ro} : (Out.nx ρ).map g = .nx (g ρ) := rfl
@[simp] theorem omap_ret {g : Ro → Ro} {r : R} : (Out.ret r ρ).map g = .ret r (g ρ) := rfl
@[simp] theorem undo_nil : undoR [] ρ = ρ := rfl
def undoK (j : Nat) (ρ : Ro) : Option Sl → Ro
  | some (.ln k o) => ρ.set j (.ow k o)
  | _ => ρ
@[simp] theorem undoK_s {j : Nat} {k : Bool} {o : OV} : undoK j ρ (some (.ln k o)) = ρ.set j (.ow k o) := rfl
@[simp] theorem undo_t {j : Nat} : undoR [(j, true)] ρ = undoK j ρ (ρ[j]?) := by
  show (match ρ[j]? with
    | some (.ln k o) => undoR [] (ρ.set j (.ow k o))
    | _ => undoR [] ρ) = _
  unfold undoK
  cases ρ[j]? with
  | none => rfl
  | some s => cases s <;> rfl
@[simp] theorem undo_f {j : Nat} : undoR [(j, false)] ρ = ρ := rfl
def Out.loop (o : Out) (k : S) : Out := match o with
  | .nx ρ => k ρ
  | .cnt ρ => k ρ
  | .brk ρ => .nx ρ
  | .ret r ρ => .ret r ρ
  | .ex x ρ => .ex x ρ
  | .bad => .bad
@[simp] theorem lo_nx {k : S} : (Out.nx ρ).loop k = k ρ := rfl
@[simp] theorem lo_cnt {k : S} : (Out.cnt ρ).loop k = k ρ := rfl
@[simp] theorem lo_brk {k : S} : (Out.brk ρ).loop k = .nx ρ := rfl
@[simp] theorem lo_ret {k : S} {r : R} : (Out.ret r ρ).loop k = .ret r ρ := rfl
@[simp] theorem lo_ex {k : S} {x : Exn} : (Out.ex x ρ).loop k = .ex x ρ := rfl
def goK (body : S) (k : S) : Option Ro → Out
  | some ρ => (body ρ).loop k
  | none => .bad
@[simp] theorem goK_s {k : S} : goK body k (some ρ) = (body ρ).loop k := rfl
@[simp] theorem loop_nil : loopF tgt body [] ρ = .nx ρ := rfl
theorem loop_cons {d : D} {ds : List D} : loopF tgt body (d :: ds) ρ = goK body (loopF tgt body ds) (tgt d ρ) := by
  show (match tgt d ρ with
    | none => Out.bad
    | some ρ1 => match body ρ1 with
      | .nx ρ2 => loopF tgt body ds ρ2
      | .cnt ρ2 => loopF tgt body ds ρ2
      | .brk ρ2 => .nx ρ2
      | o => o) = _
  cases tgt d ρ with
  | none => rfl
  | some ρ1 =>
    show _ = (body ρ1).loop _
    dsimp only
    cases body ρ1 <;> rfl
@[simp] theorem x_tgName {i : Nat} {d : D} : tgName i d ρ = if okS (ρ[i]?) = true then some (ρ.set i (.fz d)) else none := by
  unfold tgName
  rw [okSet_eq]
@[simp] theorem x_tgTup {n : Nat} {u : List D → Ro → Option Ro} {ds : List D} : tgTup n u (.tup ds) ρ = if ds.length = n then u ds ρ else none := rfl
@[simp] theorem x_tgCons {t : Tgt} {u : List D → Ro → Option Ro} {d : D} {ds : List D} : tgCons t u (d :: ds) ρ = (t d ρ).bind (u ds) := rfl
@[simp] theorem x_tgNil : tgNil [] ρ = some ρ := rfl
/-- a loop whose turns go on: from state to state -/
theorem loop_inv {ds : List D} (Pv : List D → Ro → Prop) (hs : ∀ d ds ρ, Pv (d :: ds) ρ → ∃ ρ1, tgt d ρ = some ρ1 ∧ ∃ ρ2, (body ρ1 = .nx ρ2 ∨ body ρ1 = .cnt ρ2) ∧ Pv ds ρ2) : ∀ {ρ : Ro}, Pv ds ρ → ∃ ρ', loopF tgt body ds ρ = .nx ρ' ∧ Pv [] ρ' := by
  induction ds with
  | nil => exact fun {ρ} h => ⟨ρ, rfl, h⟩
  | cons d ds ih =>
    intro ρ h
    obtain ⟨ρ1, e1, ρ2, e2, h2⟩ := hs d ds ρ h
    obtain ⟨ρ', e3, h3⟩ := ih h2
    refine ⟨ρ', ?_, h3⟩
    rw [loop_cons, e1, goK_s]
    rcases e2 with e2 | e2
    · rw [e2, lo_nx]; exact e3
    · rw [e2, lo_cnt]; exact e3
/-! ### comprehensions -/
@[simp] theorem x_comp {f : M Iter} : eComp f tgt cond elt vs ρ = (f ρ).and (compR tgt cond elt vs) := rfl
@[simp] theorem x_yes : eYes ρ = .ok true ρ := rfl
@[simp] theorem wipe_nil : wipeR ρ [] = ρ := rfl
@[simp] theorem wipe_cons {v : Nat} : wipeR ρ (v :: vs) = (wipeR ρ vs).set v .no := rfl
def compK (src : List (Nat × Bool)) : Res (List D) → Res R
  | .ok acc ρ => .ok (.nw (.lst acc)) (undoR src ρ)
  | _ => .bad
@[simp] theorem compK_ok {src : List (Nat × Bool)} {acc : List D} : compK src (.ok acc ρ) = .ok (.nw (.lst acc)) (undoR src ρ) := rfl
@[simp] theorem x_compV {ds : List D} : compR tgt cond elt vs (itVals ds) ρ = if (vs.all fun v => !lnK (ρ[v]?)) = true then compK [] (compN tgt cond elt vs ds [] (wipeR ρ vs)) else .bad := by
  show (if (true && vs.all fun v => !isLn ρ v) = true then _ else _) = _
  rw [Bool.true_and]
  show (if (vs.all fun v => !lnK (ρ[v]?)) = true then _ else _) = _
  by_cases h : (vs.all fun v => !lnK (ρ[v]?)) = true
  · rw [if_pos h, if_pos h]
    show (match compN tgt cond elt vs ds [] (wipeR ρ vs) with
      | .ok acc ρ' => Res.ok (R.nw (.lst acc)) (undoR [] ρ')
      | _ => Res.bad) = _
    unfold compK
    rfl
  · rw [if_neg h, if_neg h]
@[simp] theorem x_compL {j : Nat} {u k : Bool} {ds : List D} (hj : ρ[j]? = some (.ln k (.lst ds))) : compR tgt cond elt vs (itLent j u) ρ = if (vs.all fun v => !lnK (ρ[v]?)) = true then compK [(j, u)] (compN tgt cond elt vs ds [] (wipeR ρ vs)) else .bad := by
  show (if ((isLn ρ j && true) && vs.all fun v => !isLn ρ v) = true then _ else _) = _
  have hl : isLn ρ j = true := by rw [x_isLn, hj]; rfl
  rw [hl]
  show (if (vs.all fun v => !lnK (ρ[v]?)) = true then _ else _) = _
  by_cases h : (vs.all fun v => !lnK (ρ[v]?)) = true
  · rw [if_pos h, if_pos h]
    show (match lnItems j ρ with
      | none => Res.bad
      | some ds => match compN tgt cond elt vs ds [] (wipeR ρ vs) with
        | .ok acc ρ' => Res.ok (R.nw (.lst acc)) (undoR [(j, u)] ρ')
        | _ => Res.bad) = _
    rw [x_lnItems, hj]
    show (match compN tgt cond elt vs ds [] (wipeR ρ vs) with
        | .ok acc ρ' => Res.ok (R.nw (.lst acc)) (undoR [(j, u)] ρ')
        | _ => Res.bad) = _
    unfold compK
    rfl
  · rw [if_neg h, if_neg h]
/-- one turn: taken -/
theorem comp_yes {d x : D} {ds acc : List D} {ρ1 ρ2 ρ3 : Ro} {r : R} (h1 : tgt d ρ = some ρ1) (h2 : cond ρ1 = .ok true ρ2) (h3 : elt ρ2 = .ok r ρ3) (h4 : escD r = some x) (h5 : acc.length < sizeLine) :
    compN tgt cond elt vs (d :: ds) acc ρ = compN tgt cond elt vs ds (acc ++ [x]) (wipeR ρ3 vs) := by
  rw [compN]
  simp only [h1, h2, h3, h4]
  rw [if_pos h5]
theorem comp_no {d : D} {ds acc : List D} {ρ1 ρ2 : Ro} (h1 : tgt d ρ = some ρ1) (h2 : cond ρ1 = .ok false ρ2) : compN tgt cond elt vs (d :: ds) acc ρ = compN tgt cond elt vs ds acc (wipeR ρ2 vs) := by
  rw [compN]
  simp only [h1, h2]
/-- the state goes along, an element for each item -/
theorem comp_inv (Pv : Ro → Prop) (Q : D → D → Prop) : ∀ (ds acc : List D) (ρ : Ro), (∀ d ∈ ds, ∀ ρ, Pv ρ → ∃ ρ1 ρ2 ρ3 r x, tgt d ρ = some ρ1 ∧ cond ρ1 = .ok true ρ2 ∧ elt ρ2 = .ok r ρ3 ∧ escD r = some x ∧ Q d x ∧ Pv (wipeR ρ3 vs)) → Pv ρ → acc.length + ds.length ≤ sizeLine →
    ∃ xs ρ', compN tgt cond elt vs ds acc ρ = .ok (acc ++ xs) ρ' ∧ xs.length = ds.length ∧ (∀ x ∈ xs, ∃ d ∈ ds, Q d x) ∧ Pv ρ'
  | [], acc, ρ, _, p, _ => ⟨[], ρ, by rw [List.append_nil]; rfl, rfl, fun x hx => absurd hx List.not_mem_nil, p⟩
  | d :: ds, acc, ρ, h, p, hl => by
    rw [List.length_cons] at hl
    obtain ⟨ρ1, ρ2, ρ3, r, x, h1, h2, h3, h4, hq, hp⟩ := h d List.mem_cons_self ρ p
    obtain ⟨xs, ρ', e, l, q, p'⟩ := comp_inv Pv Q ds (acc ++ [x]) (wipeR ρ3 vs) (fun d hd => h d (List.mem_cons_of_mem _ hd)) hp (by rw [List.length_append, List.length_singleton]; omega)
    refine ⟨x :: xs, ρ', ?_, by rw [List.length_cons, List.length_cons, l], fun y hy => ?_, p'⟩
    · rw [comp_yes h1 h2 h3 h4 (by omega), e, List.append_assoc]; rfl
    · rcases List.mem_cons.mp hy with e | e
      · subst e; exact ⟨d, List.mem_cons_self, hq⟩
      · obtain ⟨d', hd', q'⟩ := q y e
        exact ⟨d', List.mem_cons_of_mem _ hd', q'⟩
/-- no state: a map -/
theorem comp_map (g : D → D) : ∀ (ds acc : List D), (∀ d ∈ ds, ∃ ρ1 ρ2 ρ3 r, tgt d ρ = some ρ1 ∧ cond ρ1 = .ok true ρ2 ∧ elt ρ2 = .ok r ρ3 ∧ escD r = some (g d) ∧ wipeR ρ3 vs = ρ) → acc.length + ds.length ≤ sizeLine →
    compN tgt cond elt vs ds acc ρ = .ok (acc ++ ds.map g) ρ
  | [], acc, _, _ => by rw [List.map_nil, List.append_nil]; rfl
  | d :: ds, acc, h, hl => by
    rw [List.length_cons] at hl
    obtain ⟨ρ1, ρ2, ρ3, r, h1, h2, h3, h4, hp⟩ := h d List.mem_cons_self
    rw [comp_yes h1 h2 h3 h4 (by omega), hp, comp_map g ds (acc ++ [g d]) (fun d hd => h d (List.mem_cons_of_mem _ hd)) (by rw [List.length_append, List.length_singleton]; omega), List.append_assoc]
    rfl
/-- no state: a filter and a map -/
theorem comp_filter (q : D → Bool) (g : D → D) : ∀ (ds acc : List D), (∀ d ∈ ds, ∃ ρ1 ρ2, tgt d ρ = some ρ1 ∧ cond ρ1 = .ok (q d) ρ2 ∧ wipeR ρ2 vs = ρ ∧ (q d = true → ∃ ρ3 r, elt ρ2 = .ok r ρ3 ∧ escD r = some (g d) ∧ wipeR ρ3 vs = ρ)) → acc.length + ds.length ≤ sizeLine →
    compN tgt cond elt vs ds acc ρ = .ok (acc ++ (ds.filter q).map g) ρ
  | [], acc, _, _ => by rw [List.filter_nil, List.map_nil, List.append_nil]; rfl
  | d :: ds, acc, h, hl => by
    rw [List.length_cons] at hl
    obtain ⟨ρ1, ρ2, h1, h2, hw, h3⟩ := h d List.mem_cons_self
    cases e : q d with
    | false =>
      rw [e] at h2
      rw [comp_no h1 h2, hw, comp_filter q g ds acc (fun d hd => h d (List.mem_cons_of_mem _ hd)) (by omega), List.filter_cons, e]
      rfl
    | true =>
      rw [e] at h2
      obtain ⟨ρ3, r, k1, k2, k3⟩ := h3 e
      rw [comp_yes h1 h2 k1 k2 (by omega), k3, comp_filter q g ds (acc ++ [g d]) (fun d hd => h d (List.mem_cons_of_mem _ hd)) (by rw [List.length_append, List.length_singleton]; omega), List.append_assoc, List.filter_cons, e]
      rfl
@[simp] theorem esc_val {d : D} : escD (.val d) = some d := rfl
@[simp] theorem esc_nw {o : OV} : escD (.nw o) = some o.toD := rfl
@[simp] theorem x_dcomp {f : M Iter} : eDComp f tgt cond fk fv vs ρ = (f ρ).and (dcompR tgt cond fk fv vs) := rfl
def dcompK (src : List (Nat × Bool)) : Res (List (L2.Key × D)) → Res R
  | .ok acc ρ => .ok (.nw (.dct acc)) (undoR src ρ)
  | _ => .bad
@[simp] theorem dcompK_ok {src : List (Nat × Bool)} {acc : List (L2.Key × D)} : dcompK src (.ok acc ρ) = .ok (.nw (.dct acc)) (undoR src ρ) := rfl
@[simp] theorem x_dcompV {ds : List D} : dcompR tgt cond fk fv vs (itVals ds) ρ = if (vs.all fun v => !lnK (ρ[v]?)) = true then dcompK [] (dcompN tgt cond fk fv vs ds [] (wipeR ρ vs)) else .bad := by
  show (if (true && vs.all fun v => !isLn ρ v) = true then _ else _) = _
  rw [Bool.true_and]
  show (if (vs.all fun v => !lnK (ρ[v]?)) = true then _ else _) = _
  by_cases h : (vs.all fun v => !lnK (ρ[v]?)) = true
  · rw [if_pos h, if_pos h]
    show (match dcompN tgt cond fk fv vs ds [] (wipeR ρ vs) with
      | .ok acc ρ' => Res.ok (R.nw (.dct acc)) (undoR [] ρ')
      | _ => Res.bad) = _
    unfold dcompK
    rfl
  · rw [if_neg h, if_neg h]
@[simp] theorem x_dcompL {j : Nat} {u k : Bool} {ds : List D} (hj : ρ[j]? = some (.ln k (.lst ds))) : dcompR tgt cond fk fv vs (itLent j u) ρ = if (vs.all fun v => !lnK (ρ[v]?)) = true then dcompK [(j, u)] (dcompN tgt cond fk fv vs ds [] (wipeR ρ vs)) else .bad := by
  show (if ((isLn ρ j && true) && vs.all fun v => !isLn ρ v) = true then _ else _) = _
  have hl : isLn ρ j = true := by rw [x_isLn, hj]; rfl
  rw [hl]
  show (if (vs.all fun v => !lnK (ρ[v]?)) = true then _ else _) = _
  by_cases h : (vs.all fun v => !lnK (ρ[v]?)) = true
  · rw [if_pos h, if_pos h]
    show (match lnItems j ρ with
      | none => Res.bad
      | some ds => match dcompN tgt cond fk fv vs ds [] (wipeR ρ vs) with
        | .ok acc ρ' => Res.ok (R.nw (.dct acc)) (undoR [(j, u)] ρ')
        | _ => Res.bad) = _
    rw [x_lnItems, hj]
    show (match dcompN tgt cond fk fv vs ds [] (wipeR ρ vs) with
        | .ok acc ρ' => Res.ok (R.nw (.dct acc)) (undoR [(j, u)] ρ')
        | _ => Res.bad) = _
    unfold dcompK
    rfl
  · rw [if_neg h, if_neg h]
theorem length_putD (kvs : List (L2.Key × D)) (k : L2.Key) (v : D) : (putD kvs k v).length ≤ kvs.length + 1 := by
  unfold putD
  split
  · rw [List.length_map]; omega
  · rw [List.length_append, List.length_singleton]; omega
theorem dcomp_map (gk : D → L2.Key) (g : D → D) : ∀ (ds : List D) (acc : List (L2.Key × D)), (∀ d ∈ ds, ∃ ρ1 ρ2 rk ρ3 r ρ4, tgt d ρ = some ρ1 ∧ cond ρ1 = .ok true ρ2 ∧ fk ρ2 = .ok rk ρ3 ∧ keyR rk = some (gk d) ∧ fv ρ3 = .ok r ρ4 ∧ escD r = some (g d) ∧ wipeR ρ4 vs = ρ) → acc.length + ds.length ≤ sizeLine →
    dcompN tgt cond fk fv vs ds acc ρ = .ok (ds.foldl (fun acc d => putD acc (gk d) (g d)) acc) ρ
  | [], acc, _, _ => rfl
  | d :: ds, acc, h, hl => by
    rw [List.length_cons] at hl
    obtain ⟨ρ1, ρ2, rk, ρ3, r, ρ4, h1, h2, h3, h4, h5, h6, hp⟩ := h d List.mem_cons_self
    have e : dcompN tgt cond fk fv vs (d :: ds) acc ρ = dcompN tgt cond fk fv vs ds (putD acc (gk d) (g d)) (wipeR ρ4 vs) := by
      rw [dcompN]
      simp only [h1, h2, h3, h4, h5, h6]
      rw [if_pos (by omega)]
    have := length_putD acc (gk d) (g d)
    rw [e, hp, dcomp_map gk g ds _ (fun d hd => h d (List.mem_cons_of_mem _ hd)) (by omega)]
    rfl
theorem keyR_val {d : D} : keyR (.val d) = keyD d := rfl
/-- which keys stand in it -/
theorem putD_any {kvs : List (L2.Key × D)} {k j : L2.Key} {v : D} : ((putD kvs k v).any fun p => decide (p.1 = j)) = ((kvs.any fun p => decide (p.1 = j)) || decide (k = j)) := by
  unfold putD
  by_cases h : (kvs.any fun kv => decide (kv.1 = k)) = true
  · rw [if_pos h, List.any_map]
    have e : ((fun p : L2.Key × D => decide (p.1 = j)) ∘ fun kv : L2.Key × D => if kv.1 = k then (kv.1, v) else kv) = fun p => decide (p.1 = j) := by
      funext p
      show decide ((if p.1 = k then (p.1, v) else p).1 = j) = _
      by_cases q : p.1 = k
      · rw [if_pos q]
      · rw [if_neg q]
    rw [e]
    by_cases z : k = j
    · subst z
      rw [h]; rfl
    · rw [decide_eq_false z, Bool.or_false]
  · rw [if_neg h, List.any_append, List.any_cons, List.any_nil, Bool.or_false]
theorem fold_any {gk : D → L2.Key} {g : D → D} {j : L2.Key} : ∀ (ds : List D) (acc : List (L2.Key × D)), ((ds.foldl (fun acc d => putD acc (gk d) (g d)) acc).any fun p => decide (p.1 = j)) = ((acc.any fun p => decide (p.1 = j)) || ds.any fun d => decide (gk d = j))
  | [], acc => by simp
  | d :: ds, acc => by
    rw [List.foldl_cons, fold_any ds, putD_any, List.any_cons, Bool.or_assoc]
end
end DL
namespace DL
open PySem PySem.Spec
section
variable {ρ : Ro} {f : M R}
/-! ### slices, f-strings, isinstance, op= -/
@[simp] theorem x_nop : eNoP ρ = .ok none ρ := rfl
@[simp] theorem x_eP : eP f ρ = (f ρ).and partR := rfl
def partK (ρ : Ro) : Option D → Res (Option Int)
  | some (.int i) => .ok (some i) ρ
  | _ => .bad
@[simp] theorem partK_s {i : Int} : partK ρ (some (.int i)) = .ok (some i) ρ := rfl
@[simp] theorem x_partR {r : R} : partR r ρ = partK ρ (deref ρ r) := rfl
@[simp] theorem x_eSl {fl fh : M (Option Int)} : eSl f fl fh ρ = (f ρ).and (fun r => M.bind fl fun lo => M.bind fh fun hi => slR r lo hi) := rfl
@[simp] theorem x_slR {r : R} {lo hi : Option Int} : slR r lo hi ρ = op1K (fun d => opSl d lo hi) (deref ρ r) ρ := by
  unfold slR op1K
  rfl
@[simp] theorem r_sl_lst {ds : List D} {lo hi : Option Int} : opSl (.lst ds) lo hi = some (.nw (.lst (cutD ds lo hi))) := rfl
@[simp] theorem r_sl_tup {ds : List D} {lo hi : Option Int} : opSl (.tup ds) lo hi = some (.val (.tup (cutD ds lo hi))) := rfl
@[simp] theorem r_sl_scr {ns : List Int} {lo hi : Option Int} : opSl (.scr ns) lo hi = some (.nw (.lst (cutD (ns.map .int) lo hi))) := rfl
theorem r_sl_str {z : Str} {lo hi : Option Int} (h : z.length ≤ sizeLine) : opSl (.str z) lo hi = some (.val (.str (L2.cutS z lo hi))) := by
  show (if z.length ≤ sizeLine then vS (L2.cutS z lo hi) else none) = _
  rw [if_pos h]; rfl
@[simp] theorem x_fmt : eFmt f ρ = (f ρ).and (fun a => opE1 fmtD a) := rfl
theorem r_fmtS {y : Str} (h : y.length ≤ sizeLine) : fmtD (.str y) = some (.val (.str y)) := by
  show (if y.length ≤ sizeLine then vS y else none) = _
  rw [if_pos h]; rfl
theorem r_fmtI {i : Int} (h : i.natAbs.log2 < 1920) : fmtD (.int i) = some (.val (.str (toString i))) := by
  show (if i.natAbs.log2 < 1920 then vS (toString i) else none) = _
  rw [if_pos h]; rfl
theorem r_strI {i : Int} (h : i.natAbs.log2 < 1920) : cStr [.int i] = some (.val (.str (toString i))) := by
  show (if i.natAbs.log2 < 1920 then vS (toString i) else none) = _
  rw [if_pos h]; rfl
@[simp] theorem x_js_nil {acc : Str} : eJs [] acc ρ = .ok (.val (.str acc)) ρ := rfl
@[simp] theorem x_js_cons {fs : List (M R)} {acc : Str} : eJs (f :: fs) acc ρ = (f ρ).and (joinR (eJs fs) acc) := rfl
theorem x_joinR {k : Str → M R} {acc y : Str} (h : (acc ++ y).length ≤ sizeLine) : joinR k acc (.val (.str y)) ρ = k (acc ++ y) ρ := by
  show (if (acc ++ y).length ≤ sizeLine then k (acc ++ y) else fun _ => .bad) ρ = _
  rw [if_pos h]
@[simp] theorem x_isi {n : String} : eIsi n f ρ = (f ρ).and (isiR n) := rfl
def isiK (n : String) (ρ : Ro) (x : Option D) : Res R := match x.bind (isD n) with
  | some b => .ok (.val (.bl b)) ρ
  | none => .bad
@[simp] theorem x_isiR {n : String} {r : R} : isiR n r ρ = isiK n ρ (deref ρ r) := rfl
theorem isiK_s {n : String} {d : D} {b : Bool} (h : isD n d = some b) : isiK n ρ (some d) = .ok (.val (.bl b)) ρ := by
  show (match isD n d with
    | some b => Res.ok (R.val (.bl b)) ρ
    | none => Res.bad) = _
  rw [h]
def augK (i : Nat) (op : D → D → Option R) (f : M R) (ρ : Ro) : Option Sl → Out
  | some (.fz d) => (f ρ).andS (augR' op i d)
  | _ => .bad
@[simp] theorem augK_s {i : Nat} {op : D → D → Option R} {d : D} : augK i op f ρ (some (.fz d)) = (f ρ).andS (augR' op i d) := rfl
@[simp] theorem x_aug {i : Nat} {op : D → D → Option R} : sAug i op f ρ = augK i op f ρ (ρ[i]?) := by
  unfold sAug augK
  rfl
def augO (i : Nat) (ρ : Ro) : Option R → Out
  | some (.val e) => .nx (ρ.set i (.fz e))
  | _ => .bad
@[simp] theorem augO_s {i : Nat} {e : D} : augO i ρ (some (.val e)) = .nx (ρ.set i (.fz e)) := rfl
@[simp] theorem x_augR {i : Nat} {op : D → D → Option R} {d : D} {r : R} : augR' op i d r ρ = if okS (ρ[i]?) = true then augO i ρ ((deref ρ r).bind (op d)) else .bad := by
  unfold augR' augO
  rw [okSet_eq]
  all_goals
    cases (deref ρ r).bind (op d) with
    | none => rfl
    | some x => cases x <;> rfl
@[simp] theorem r_ipI {i j : Int} : ipAdd (.int i) (.int j) = some (.val (.int (i + j))) := rfl
end
end DL
namespace DL
theorem fin_seq {a ρ ρ' : Ro} {s t : S} {r : Res R} (h : s ρ = .nx ρ') (k : finK a (t ρ') = r) : finK a (sSeq s t ρ) = r := by rw [x_seq, h, oand_nx]; exact k
theorem seq_nx {ρ ρ' : Ro} {s t : S} {o : Out} (h : s ρ = .nx ρ') (k : t ρ' = o) : sSeq s t ρ = o := by rw [x_seq, h, oand_nx]; exact k
end DL

/-! DLs: classes: fields, making, methods, properties (calls that raise nothing); what is not reached. -/
namespace DL
open PySem PySem.Spec PyProof.Rows L2

/-- a statement that is not reached -/
def sBad : S := fun _ => .bad
def eBad {α : Type} : M α := fun _ => .bad
section
variable {X : Cx} {c : Cn} {σ0 : St} {W : WX}
theorem ds_dead {st : Stmt} : PS X st (tS c σ0 W sBad) := ⟨fun pins s σ H D I h => by
  obtain ⟨_, _, _, _, h⟩ := h
  exact h.elim⟩
theorem dss_dead {st : List Stmt} : PSs X st (tS c σ0 W sBad) := ⟨fun pins s σ H D I h => by
  obtain ⟨_, _, _, _, h⟩ := h
  exact h.elim⟩
theorem de_dead {e : Expr} : PE X e (tD c σ0 W eBad) := ⟨fun pins s σ H Q I h => by
  obtain ⟨_, _, _, _, h⟩ := h
  exact h.elim⟩
end

/-! ### fields -/
def opFld (n f : Str) : D → Option R
  | .ins m fs => if m = n then (fs.lookup f).map .val else none
  | _ => none
def putFD (f : Str) (d : D) : List (Str × D) → List (Str × D)
  | [] => [(f, d)]
  | (g, x) :: r => if g = f then (g, d) :: r else (g, x) :: putFD f d r
/-- a class and a field: what stands in the written part -/
structure FldK (K : PySem.W.Frag) (ca : Str → Option Addr) (n f : Str) : Prop where
  ok : ∃ C, ca n = some C ∧ Cls K C ∧ NoAttr K C f
section
variable {X : Cx} {c : Cn} {σ0 : St} {W : WX} {σ : St} {ρ : Ro} {G H : Hp} {own : Own} {a e : Expr} {es : List Expr} {pos pos' p : Pos} {f g : M R} {n fl : Str}
theorem flds_get : ∀ {ds : List (Str × D)} {fs : List (Str × V)} {d : D}, ds.map (·.1) = fs.map (·.1) → Reps c G (ds.map (·.2)) (fs.map (·.2)) → ds.lookup fl = some d → ∃ v, fs.lookup fl = some v ∧ Rep c G d v
  | [], _, _, _, _, e => by cases e
  | p :: ds, [], _, h, _, _ => by cases h
  | p :: ds, q :: fs, d, h, r, e => by
    rw [List.map_cons, List.map_cons] at h
    injection h with h1 h2
    rw [List.map_cons, List.map_cons] at r
    cases r with
    | cons r1 r2 =>
      obtain ⟨p1, p2⟩ := p
      obtain ⟨q1, q2⟩ := q
      have h1 : p1 = q1 := h1
      subst h1
      rw [List.lookup_cons] at e ⊢
      cases z : fl == p1 with
      | true =>
        rw [z] at e
        cases e
        exact ⟨q2, rfl, r1⟩
      | false =>
        rw [z] at e
        exact flds_get h2 r2 e
theorem putF_reps {d : D} {v : V} (rd : Rep c G d v) : ∀ {ds : List (Str × D)} {fs : List (Str × V)}, ds.map (·.1) = fs.map (·.1) → Reps c G (ds.map (·.2)) (fs.map (·.2)) →
    (putFD fl d ds).map (·.1) = (putF fl v fs).map (·.1) ∧ Reps c G ((putFD fl d ds).map (·.2)) ((putF fl v fs).map (·.2))
  | [], [], _, _ => ⟨rfl, .cons rd .nil⟩
  | [], _ :: _, h, _ => by cases h
  | _ :: _, [], h, _ => by cases h
  | (p1, p2) :: ds, (q1, q2) :: fs, h, r => by
    rw [List.map_cons, List.map_cons] at h
    injection h with h1 h2
    have h1 : p1 = q1 := h1
    subst h1
    rw [List.map_cons, List.map_cons] at r
    cases r with
    | cons r1 r2 =>
      obtain ⟨i1, i2⟩ := putF_reps rd h2 r2
      unfold putFD putF
      by_cases z : p1 = fl
      · rw [if_pos z, if_pos z]
        exact ⟨by rw [List.map_cons, List.map_cons, h2], .cons rd r2⟩
      · rw [if_neg z, if_neg z]
        exact ⟨by rw [List.map_cons, List.map_cons, i1], .cons r1 i2⟩
theorem de_fld (hF : FldK X.K c.ca n fl) (he : PE X e (tD c σ0 W f)) (hb : attributeBase e fl X.env (eval e X.env) = eval e X.env := by rfl) : PE X (.Attribute e fl pos) (tD c σ0 W (eUn (opFld n fl) f)) :=
  PE.imp (pe_fld he hb) fun σ H Q q => by
    obtain ⟨C, hC, hcl, hno⟩ := hF.ok
    obtain ⟨G, own, ρ, S, q⟩ := q
    refine XP.bind S q fun r ρ1 G1 own1 H1 v t1 S1 R1 h1 => ?_
    obtain ⟨G', d, r', sg, hd, ho, k⟩ := XP.op1 S1 (XP.from t1 h1 (relR_mono c)) R1
    cases d with
    | ins m fs =>
      have ho : (if m = n then (fs.lookup fl).map R.val else none) = some r' := ho
      by_cases hm : m = n
      · subst hm
        rw [if_pos rfl] at ho
        cases z : fs.lookup fl with
        | none => rw [z] at ho; cases ho
        | some d =>
          rw [z] at ho
          cases ho
          obtain ⟨a, C', dx, vs, rfl, hC', ha, hdx, hk, rr⟩ := hd
          rw [hC] at hC'
          cases hC'
          obtain ⟨w, hw, rw'⟩ := flds_get hk rr z
          exact ⟨a, C, dx, vs, w, rfl, ha, hcl, hno, hw, k G' H1 _ (New.refl sg) rw'⟩
      · rw [if_neg hm] at ho; cases ho
    | _ => cases ho

/-! ### stores into a field of a slot's own object -/
def fldR (j : Nat) (n fl : Str) (r : R) : S := fun ρ => match r, ρ[j]? with
  | .val d, some (.ow k (.ins m fs)) => if (m = n ∧ fs.length < 1000) then .nx (ρ.set j (.ow k (.ins m (putFD fl d fs)))) else .bad
  | _, _ => .bad
def sFldD (j : Nat) (n fl : Str) (fv : M R) : S := sBind (eFz fv) (fldR j n fl)
theorem ds_fld {j : Nat} {o value : Expr} {fv : M R} (hF : FldK X.K c.ca n fl) (ho : PE X o (tVar j)) (hv : PE X value (tD c σ0 W fv)) (hs : swapsWith value (some (.Attribute o fl pos')) pos.line X.env = pure false := by rfl) :
    PS X (.Assign [.Attribute o fl pos'] value pos) (tS c σ0 W (sFldD j n fl fv)) :=
  PS.imp (ps_fld ho (de_fz hv) hs) fun E σ H q => by
    obtain ⟨C, hC, hcl, hno⟩ := hF.ok
    obtain ⟨G, own, ρ, S, q⟩ := q
    refine SPo.bind S q fun r ρ1 G1 own1 H1 v t1 S1 R1 h1 => ?_
    have h2 := h1.from t1
    clear h1
    unfold fldR at h2
    cases r with
    | sl i => exact h2.elim
    | nw o => exact h2.elim
    | val d =>
      cases e : ρ1[j]? with
      | none => rw [e] at h2; exact h2.elim
      | some s =>
        rw [e] at h2
        cases s with
        | no => exact h2.elim
        | fz d => exact h2.elim
        | ln k o => exact h2.elim
        | ow k o =>
          cases o with
          | lst ds => exact h2.elim
          | dct ds => exact h2.elim
          | ins m fs =>
            dsimp only at h2
            by_cases hm : m = n ∧ fs.length < 1000
            · rw [if_pos hm] at h2
              obtain ⟨hm, hl⟩ := hm
              subst hm
              obtain ⟨w, hw, a, C', dx, vs, rfl, pa, pd, ne, hC', ha, hdx, hk, rr⟩ := S1.slot j _ e
              rw [hC] at hC'
              cases hC'
              have hlen : fs.length = vs.length := by
                have := congrArg List.length hk
                rw [List.length_map, List.length_map] at this
                exact this
              refine ⟨_, hw, a, C, dx, vs, rfl, ha, hcl, hno, by rw [← hlen]; exact hl, ?_⟩
              obtain ⟨p1, p2⟩ := putF_reps (fl := fl) (R1 : Rep c G1 d v) hk rr
              obtain ⟨S', t'⟩ := S1.chg (o' := .ins m (putFD fl d fs)) (H' := upd H1 a (.ins C dx (putF fl v vs))) e hw (fun b nb => upd_ne fun z => nb (by rw [z]; exact pa)) (fun b pb => by
                by_cases z : b = a
                · exact ⟨_, by rw [z]; exact upd_same⟩
                · rw [upd_ne z]; exact S1.there j b pb) ⟨a, C, dx, _, rfl, pa, pd, ne, hC, upd_same, by rw [upd_ne ne]; exact hdx, p1, p2⟩
              exact h2 σ G1 own1 _ t' S'
            · rw [if_neg hm] at h2; exact h2.elim

/-! ### a slot more, a slot less -/
theorem SR.grow {σ0 : St} {o : OV} {v : V} {P : Addr → Prop} (S : SR c σ0 G own ρ σ H) (ho : OwR c G H P o v) (hP : ∀ b, P b → G b = none ∧ ¬ ao own b ∧ ∃ o, H b = some o) :
    SR c σ0 G (fun i b => own i b ∨ (i = ρ.length ∧ P b)) (ρ ++ [.ow false o]) (σ ++ [some v]) H where
  same := S.same
  out := fun i b h => by
    rcases h with h | ⟨_, h⟩
    · exact S.out i b h
    · exact (hP b h).1
  there := fun i b h => by
    rcases h with h | ⟨_, h⟩
    · exact S.there i b h
    · exact (hP b h).2.2
  dis := fun i j b h h' => by
    rcases h with h | ⟨e, h⟩
    · rcases h' with h' | ⟨e', h'⟩
      · exact S.dis i j b h h'
      · exact absurd ⟨i, h⟩ (hP b h').2.1
    · rcases h' with h' | ⟨e', h'⟩
      · exact absurd ⟨j, h'⟩ (hP b h).2.1
      · rw [e, e']
  len := by rw [List.length_append, List.length_append, S.len]; rfl
  slot := fun i s h => by
    by_cases hi : i < ρ.length
    · rw [List.getElem?_append_left hi] at h
      rw [List.getElem?_append_left (by rw [← S.len]; exact hi)]
      exact (S.slot i s h).at (Same.refl _) (fun _ _ _ k => k) fun b p => .inl p
    · rw [List.getElem?_append_right (by omega)] at h
      have e : i = ρ.length := by
        have := lt_of_get h
        simp at this
        omega
      subst e
      rw [Nat.sub_self] at h
      cases h
      rw [S.len, List.getElem?_append_right (Nat.le_refl _), Nat.sub_self]
      exact ⟨v, rfl, ho.at (Same.refl _) (fun _ _ _ k => k) fun b p => .inr ⟨S.len.symm ▸ rfl, p⟩⟩
  io := fun i s h q => by
    by_cases hi : i < ρ.length
    · rw [List.getElem?_append_left hi] at h
      rw [List.getElem?_append_left (by rw [← S.len]; exact hi)]
      exact S.io i s h q
    · rw [List.getElem?_append_right (by omega)] at h
      have e : i = ρ.length := by
        have := lt_of_get h
        simp at this
        omega
      subst e
      rw [Nat.sub_self] at h
      cases h
      cases q
theorem SR.shrink {σ0 : St} {ρ' : Ro} {o : Option V} (S : SR c σ0 G own (ρ'.set σ.length .no) (σ ++ [o]) H) : SR c σ0 G own (ρ'.take σ.length) σ H where
  same := S.same
  out := S.out
  there := S.there
  dis := S.dis
  len := by
    have := S.len
    rw [List.length_set, List.length_append, List.length_singleton] at this
    rw [List.length_take]
    omega
  slot := fun i s h => by
    have hi : i < σ.length := by
      have := lt_of_get h
      rw [List.length_take] at this
      omega
    rw [List.getElem?_take, if_pos hi] at h
    have h2 : (ρ'.set σ.length .no)[i]? = some s := by rw [List.getElem?_set_ne (by omega)]; exact h
    have := S.slot i s h2
    rw [List.getElem?_append_left hi] at this
    exact this
  io := fun i s h q => by
    have hi : i < σ.length := by
      have := lt_of_get h
      rw [List.length_take] at this
      omega
    rw [List.getElem?_take, if_pos hi] at h
    have h2 : (ρ'.set σ.length .no)[i]? = some s := by rw [List.getElem?_set_ne (by omega)]; exact h
    have := S.io i s h2 q
    rw [List.getElem?_append_left hi] at this
    exact this
theorem RRs.grow {o : Option V} : ∀ {rs : List R} {vs : List V}, RRs c G σ rs vs → RRs c G (σ ++ [o]) rs vs
  | _, _, .nil => .nil
  | _, _, .val h r => .val h r.grow
  | _, _, .sl h r => .sl (by rw [List.getElem?_append_left (lt_of_get h)]; exact h) r.grow
end
/-! ### making -/
def makeR (n : Str) (F : Ro → Res R) (rs : List R) : M R := fun ρ => match callR F (.sl ρ.length :: rs) (ρ ++ [.ow false (.ins n [])]) with
  | .ok (.val .non) ρ' => (match ρ'[ρ.length]? with
    | some (.ow false o) => .ok (.nw o) (ρ'.take ρ.length)
    | _ => .bad)
  | _ => .bad
def eMake (n : Str) (F : Ro → Res R) (fa : M (List R)) : M R := fa.bind (makeR n F)
section
variable {X : Cx} {c : Cn} {σ0 : St} {W : WX} {σ : St} {ρ : Ro} {G H : Hp} {own : Own} {n : Str} {F : Ro → Res R} {rs : List R} {vs : List V} {Q : VK}
theorem make_of {C : Addr} {m : Nat} (S : SR c σ0 G own ρ σ H) (hr : RRs c G σ rs vs) (hn : rs.length + 1 = m) (hC : c.ca n = some C) (h : XP (relR c) c σ0 W σ ρ G own H Q (makeR n F rs ρ)) {x dx : Addr} (hx : H x = none) (hdx : H dx = none) (ne : dx ≠ x) :
    spD c m F (.ref x :: vs) (upd (upd H dx (.own x)) x (.ins C dx [])) (fun v H2 => v = .non ∧ Q (.ref x) H2) E0 := by
  have gnone : ∀ b, H b = none → G b = none := fun b hb => by
    cases e : G b with
    | none => rfl
    | some o => rw [S.same b o e] at hb; cases hb
  have hs : Same H (upd (upd H dx (.own x)) x (.ins C dx [])) := fun b o e => by
    rw [upd_ne (ne_of_none e hx), upd_ne (ne_of_none e hdx)]; exact e
  have hback : ∀ b, (upd (upd H dx (.own x)) x (.ins C dx [])) b = none → H b = none := fun b hb => by
    cases e : H b with
    | none => rfl
    | some o => rw [hs b o e] at hb; cases hb
  generalize hH : upd (upd H dx (.own x)) x (.ins C dx []) = H1 at *
  have hx1 : H1 x = some (.ins C dx []) := by rw [← hH]; exact upd_same
  have hd1 : H1 dx = some (.own x) := by rw [← hH, upd_ne ne]; exact upd_same
  have nw : New G H G H1 := ⟨hs, Same.refl _, fun b o e => hs b o (S.same b o e), fun b o e => .inl e⟩
  have S1 : SR c σ0 G own ρ σ H1 := nw.sr S
  have hP : ∀ b, (b = x ∨ b = dx) → H b = none ∧ G b = none ∧ ¬ ao own b ∧ ∃ o, H1 b = some o := fun b hb => by
    have hb0 : H b = none := by rcases hb with rfl | rfl <;> assumption
    refine ⟨hb0, gnone b hb0, fun ⟨i, z⟩ => ?_, ?_⟩
    · obtain ⟨o, q⟩ := S.there i b z
      rw [hb0] at q; cases q
    · rcases hb with rfl | rfl
      · exact ⟨_, hx1⟩
      · exact ⟨_, hd1⟩
  have S2 := S1.grow (P := fun b => b = x ∨ b = dx) (o := .ins n []) (v := .ref x) ⟨x, C, dx, [], rfl, .inl rfl, .inr rfl, ne, hC, hx1, hd1, rfl, .nil⟩ fun b hb => (hP b hb).2
  have hl : ρ.length = σ.length := S.len
  have rr : RRs c G (σ ++ [some (.ref x)]) (.sl ρ.length :: rs) (.ref x :: vs) := .sl (by rw [hl, List.getElem?_append_right (Nat.le_refl _), Nat.sub_self]; rfl) hr.grow
  have aoo : ∀ b, ao (fun i b => own i b ∨ (i = ρ.length ∧ (b = x ∨ b = dx))) b → H b = none ∨ ao own b := fun b ⟨i, z⟩ => by
    rcases z with z | ⟨_, z⟩
    · exact .inr ⟨i, z⟩
    · exact .inl (hP b z).1
  refine SpD.of_call (W := fun _ _ _ _ => False) S2 Tr.refl rr (by rw [List.length_cons]; exact hn) ?_
  unfold makeR at h
  cases e : callR F (.sl ρ.length :: rs) (ρ ++ [.ow false (.ins n [])]) with
  | bad => rw [e] at h; exact h
  | ex y ρ1 => rw [e] at h; exact h.elim
  | ok r ρ1 =>
    rw [e] at h
    cases r with
    | sl i => exact h.elim
    | nw o => exact h.elim
    | val d =>
      cases d with
      | non =>
        intro G' own' H' v t S' R'
        cases R'
        refine ⟨rfl, ?_⟩
        dsimp only at h
        cases e2 : ρ1[ρ.length]? with
        | none => rw [e2] at h; exact h.elim
        | some s =>
          rw [e2] at h
          cases s with
          | no => exact h.elim
          | fz d => exact h.elim
          | ln k o => exact h.elim
          | ow k o =>
            cases k with
            | true => exact h.elim
            | false =>
              obtain ⟨w, hw, S3, xo, k3⟩ := S'.take e2
              rw [hl, List.getElem?_append_right (Nat.le_refl _), Nat.sub_self] at hw
              cases hw
              rw [hl] at S3
              have S4 := S3.shrink
              have nb : ∀ b, H1 b = none ∨ ao (fun i b => own i b ∨ (i = ρ.length ∧ (b = x ∨ b = dx))) b → H b = none ∨ ao own b := fun b z => by
                rcases z with z | z
                · exact .inl (hback b z)
                · exact aoo b z
              rw [hl] at h
              have tt : Tr ρ σ G own H (ρ1.take σ.length) σ G' (minO own' σ.length) H' := by
                refine ⟨t.ext, ?_, ?_, ?_, ?_⟩
                · intro b o hb hn
                  refine t.keep b o (hs b o hb) fun z => ?_
                  rcases aoo b z with q | q
                  · rw [hb] at q; cases q
                  · exact hn q
                · intro b o hg
                  rcases t.gnew b o hg with q | q | q
                  · exact .inl q
                  · exact .inr (nb b (.inl q))
                  · exact .inr (nb b (.inr q))
                · rintro b ⟨i, _, z⟩
                  rcases t.onew b ⟨i, z⟩ with q | q
                  · exact (nb b (.inr q)).symm
                  · exact (nb b (.inl q)).symm
                · intro j k o hj
                  have hj' := lt_of_get hj
                  obtain ⟨h1, h2⟩ := t.lent j k o (by rw [List.getElem?_append_left hj']; exact hj)
                  refine ⟨?_, rfl⟩
                  rw [List.getElem?_take, if_pos (by omega)]
                  exact h1
              refine h G' (minO own' σ.length) H' (.ref x) tt S4 ⟨own' ρ.length, xo, fun b p => ⟨(k3 b p).1, by rw [← hl]; exact (k3 b p).2.1, (k3 b p).2.2, ?_⟩⟩
              · rcases t.onew b ⟨ρ.length, p⟩ with q | q
                · exact nb b (.inr q)
                · exact nb b (.inl q)
      | _ => exact h.elim
end
/-- a class that may be made by its name -/
structure MakeD (P : Program) (w : World) (K : PySem.W.Frag) (mg : Str → Option Value) (base : Heap) (c : Cn) (k : Nat) (x : Str) (ps : List Str) (F : Ro → Res R) (C g : Addr) (fd : FuncData) : Prop where
  mke : Mk K C g
  ok : FnOk P w K mg base (L2.CX P w) k g fd ps (spD c ps.length F)
  mg : mg x = some (.ref C)
  ca : c.ca x = some C
  bi : ∀ us : List Value, us.length = ps.length → bindArgs fd ⟨us, []⟩ = pure (ps.zip us)
/-- a method -/
structure MethD (P : Program) (w : World) (K : PySem.W.Frag) (mg : Str → Option Value) (base : Heap) (c : Cn) (k : Nat) (n m : Str) (ps : List Str) (F : Ro → Res R) (C g : Addr) (fd : FuncData) : Prop where
  cl : Cls K C
  me : Meth K C m g
  ok : FnOk P w K mg base (L2.CX P w) k g fd ps (spD c ps.length F)
  ca : c.ca n = some C
  bi : ∀ us : List Value, us.length = ps.length → bindArgs fd ⟨us, []⟩ = pure (ps.zip us)
structure PropD (P : Program) (w : World) (K : PySem.W.Frag) (mg : Str → Option Value) (base : Heap) (c : Cn) (k : Nat) (n m : Str) (ps : List Str) (F : Ro → Res R) (C q g : Addr) (fd : FuncData) : Prop where
  cl : Cls K C
  pr : PropOf K C m q g
  ok : FnOk P w K mg base (L2.CX P w) k g fd ps (spD c ps.length F)
  ca : c.ca n = some C
  bi : ∀ us : List Value, us.length = ps.length → bindArgs fd ⟨us, []⟩ = pure (ps.zip us)
def callN (F : Ro → Res R) (rs : List R) : M R := fun ρ => match callR F rs ρ with
  | .ok r ρ' => .ok r ρ'
  | _ => .bad
def insOk (n m : Str) : Option D → Bool
  | some (.ins n' fs) => decide (n' = n) && (fs.lookup m).isNone
  | _ => false
def insIs (n : Str) : Option D → Bool
  | some (.ins n' _) => decide (n' = n)
  | _ => false
def mtcK (n m : Str) (F : Ro → Res R) (fa : M (List R)) (r : R) : M R := fun ρ => if insOk n m (deref ρ r) = true then (fa.bind fun rs => callN F (fzR r :: rs)) ρ else .bad
def eMethC (n m : Str) (F : Ro → Res R) (fo : M R) (fa : M (List R)) : M R := fo.bind (mtcK n m F fa)
def prpK (n : Str) (F : Ro → Res R) (r : R) : M R := fun ρ => if insIs n (deref ρ r) = true then callN F [fzR r] ρ else .bad
def eProp (n : Str) (F : Ro → Res R) (fo : M R) : M R := fo.bind (prpK n F)
section
variable {X : Cx} {c : Cn} {σ0 : St} {W : WX} {σ : St} {ρ : Ro} {G H : Hp} {own : Own} {n m x : Str} {F : Ro → Res R} {rs : List R} {vs : List V} {Q : VK} {k : Nat} {C g q : Addr} {fd : FuncData} {ps : List Str} {e o : Expr} {es : List Expr} {p pos apos : Pos} {fo : M R} {fa : M (List R)}
theorem de_make (h : MakeD X.prog X.w X.K X.mg X.base c k x ps F C g fd) (hr : Room (k + 1) X.A) (hg : Gl X x) (ha : PA X (e :: es) (tA c σ0 W fa)) (hl : (e :: es).length + 1 = ps.length) (hfl : ∀ ρ rs ρ', fa ρ = .ok rs ρ' → rs.length + 1 = ps.length)
    (hdb : (x == ("__debug__" : Str)) = false := by decide) (he : starEach (e :: es) X.env = (false, eval e X.env) :: starEach es X.env := by rfl) (hpl : (backTo pos (starEach es X.env)).any (·.1) = false := by rfl) :
    PE X (.Call (.Name x p) (e :: es) [] pos) (tD c σ0 W (eMake x F fa)) :=
  PE.imp (pe_make h.mke h.ok hr hg h.mg (.all h.bi) .nil passL ha hdb he hpl) fun σ H Q q => by
    obtain ⟨G, own, ρ, S, q⟩ := q
    refine ⟨G, own, ρ, S, ?_⟩
    unfold eMake M.bind at q
    cases e1 : fa ρ with
    | bad => rw [e1] at q; exact q
    | ex y ρ1 => rw [e1] at q; exact q
    | ok rs ρ1 =>
      rw [e1] at q
      intro G1 own1 H1 vs t S1 R1 y dy hy hdy ne
      rw [List.append_nil]
      exact make_of S1 R1 (hfl _ _ _ e1) h.ca (XP.from t q (relR_mono c)) hy hdy ne
theorem callN_of {mm : Nat} {ρ0 : Ro} {G0 H0 : Hp} {own0 : Own} (S : SR c σ0 G own ρ σ H) (t0 : Tr ρ0 σ G0 own0 H0 ρ σ G own H) (hr : RRs c G σ rs vs) (hn : rs.length = mm) (h : XP (relR c) c σ0 W σ ρ0 G0 own0 H0 Q (callN F rs ρ)) : spD c mm F vs H Q E0 := by
  refine SpD.of_call (W := fun _ _ _ _ => False) S t0 hr hn ?_
  unfold callN at h
  cases e : callR F rs ρ with
  | bad => rw [e] at h; exact h
  | ex y ρ1 => rw [e] at h; exact h.elim
  | ok r ρ1 => rw [e] at h; exact h
theorem flds_none : ∀ {ds : List (Str × D)} {fs : List (Str × V)}, ds.map (·.1) = fs.map (·.1) → ds.lookup m = none → fs.lookup m = none
  | [], [], _, _ => rfl
  | [], _ :: _, h, _ => by cases h
  | _ :: _, [], h, _ => by cases h
  | (p1, p2) :: ds, (q1, q2) :: fs, h, e => by
    rw [List.map_cons, List.map_cons] at h
    injection h with h1 h2
    have h1 : p1 = q1 := h1
    subst h1
    rw [List.lookup_cons] at e ⊢
    cases z : m == p1 with
    | true => rw [z] at e; cases e
    | false =>
      rw [z] at e
      exact flds_none h2 e
theorem insOk_rd {d : Option D} (h : insOk n m d = true) : ∃ fs, d = some (.ins n fs) ∧ fs.lookup m = none := by
  unfold insOk at h
  split at h
  · rename_i n' fs
    obtain ⟨h1, h2⟩ := Bool.and_eq_true_iff.mp h
    have h1 := of_decide_eq_true h1
    subst h1
    exact ⟨fs, rfl, Option.isNone_iff_eq_none.mp h2⟩
  · cases h
theorem insIs_rd {d : Option D} (h : insIs n d = true) : ∃ fs, d = some (.ins n fs) := by
  unfold insIs at h
  split at h
  · rename_i n' fs
    have h1 := of_decide_eq_true h
    subst h1
    exact ⟨fs, rfl⟩
  · cases h
theorem de_methC {pl : Sem Bool} (h : MethD X.prog X.w X.K X.mg X.base c k n m ps F C g fd) (hr : Room k X.A) (ho : PE X o (tD c σ0 W fo)) (ha : PA X (e :: es) (tA c σ0 W fa)) (hfl : ∀ ρ rs ρ', fa ρ = .ok rs ρ' → rs.length + 1 = ps.length)
    (hst : starEach (e :: es) X.env = (false, eval e X.env) :: starEach es X.env := by rfl) (hpl : (backTo pos (starEach es X.env)).any (·.1) = false := by rfl)
    (ht : eval (.Call (.Attribute o m apos) (e :: es) [] pos) X.env = (do
      let ov ← eval o X.env
      standAt apos.atName
      let (f, first) ← holding [ov] (getMethod ov m pl)
      callWith pos f first (backTo pos (starEach (e :: es) X.env)) (backToKw pos (keywordEach [] X.env))) := by rfl) :
    PE X (.Call (.Attribute o m apos) (e :: es) [] pos) (tD c σ0 W (eMethC n m F fo fa)) :=
  PE.imp (pe_meth ho h.cl h.me h.ok hr (.all h.bi) .nil passL ha hst hpl ht) fun σ H Q q => by
    obtain ⟨G, own, ρ, S, q⟩ := q
    refine XP.bind S q fun r ρ1 G1 own1 H1 v t1 S1 R1 h1 => ?_
    unfold mtcK at h1
    by_cases hi : insOk n m (deref ρ1 r) = true
    · rw [if_pos hi] at h1
      obtain ⟨fs, ed, el⟩ := insOk_rd hi
      obtain ⟨a, C', dx, ws, rfl, hC, hH, hdx, hk, rr⟩ := deref_rd S1 R1 ed
      rw [h.ca] at hC
      cases hC
      refine ⟨a, dx, ws, rfl, hH, flds_none hk el, ?_⟩
      obtain ⟨G1', s1, t1', S1', R1'⟩ := fz_of S1 t1 (fun b n => n) R1
      refine ⟨G1', own1, ρ1, S1', ?_⟩
      have h1 := XP.from t1' h1 (relR_mono c)
      unfold M.bind at h1
      cases e1 : fa ρ1 with
      | bad => rw [e1] at h1; exact h1
      | ex y ρ2 => rw [e1] at h1; exact h1
      | ok rs ρ2 =>
        rw [e1] at h1
        intro G2 own2 H2 vs t2 S2 R2
        rw [List.append_nil]
        exact callN_of S2 t2 ((R1'.mono t2.ext).cons R2) (by rw [List.length_cons]; exact hfl _ _ _ e1) h1
    · rw [if_neg hi] at h1; exact h1.elim
theorem de_methC0 {pl : Sem Bool} (h : MethD X.prog X.w X.K X.mg X.base c k n m ps F C g fd) (hr : Room k X.A) (ho : PE X o (tD c σ0 W fo)) (hl : 1 = ps.length)
    (ht : eval (.Call (.Attribute o m apos) [] [] pos) X.env = (do
      let ov ← eval o X.env
      standAt apos.atName
      let (f, first) ← holding [ov] (getMethod ov m pl)
      callWith pos f first (backTo pos (starEach [] X.env)) (backToKw pos (keywordEach [] X.env))) := by rfl) :
    PE X (.Call (.Attribute o m apos) [] [] pos) (tD c σ0 W (eMethC n m F fo eNil)) :=
  PE.imp (pe_meth0 ho h.cl h.me h.ok hr (.all h.bi) .nil passL ht) fun σ H Q q => by
    obtain ⟨G, own, ρ, S, q⟩ := q
    refine XP.bind S q fun r ρ1 G1 own1 H1 v t1 S1 R1 h1 => ?_
    unfold mtcK at h1
    by_cases hi : insOk n m (deref ρ1 r) = true
    · rw [if_pos hi] at h1
      obtain ⟨fs, ed, el⟩ := insOk_rd hi
      obtain ⟨a, C', dx, ws, rfl, hC, hH, hdx, hk, rr⟩ := deref_rd S1 R1 ed
      rw [h.ca] at hC
      cases hC
      refine ⟨a, dx, ws, rfl, hH, flds_none hk el, ?_⟩
      obtain ⟨G1', s1, t1', S1', R1'⟩ := fz_of S1 t1 (fun b n => n) R1
      have h1 := XP.from t1' h1 (relR_mono c)
      have h2 : XP (relR c) c σ0 W σ ρ1 G1' own1 H1 Q (callN F [fzR r] ρ1) := h1
      exact callN_of S1' Tr.refl R1' hl h2
    · rw [if_neg hi] at h1; exact h1.elim
theorem de_prop (h : PropD X.prog X.w X.K X.mg X.base c k n m ps F C q g fd) (hr : Room (k + 1) X.A) (ho : PE X o (tD c σ0 W fo)) (hl : 1 = ps.length) (hb : attributeBase o m X.env (eval o X.env) = eval o X.env := by rfl) :
    PE X (.Attribute o m pos) (tD c σ0 W (eProp n F fo)) :=
  PE.imp (pe_prop ho h.cl h.pr h.ok hr (.all h.bi) .nil (passL (X := X.nox)) hb) fun σ H Q q => by
    obtain ⟨G, own, ρ, S, q⟩ := q
    refine XP.bind S q fun r ρ1 G1 own1 H1 v t1 S1 R1 h1 => ?_
    unfold prpK at h1
    by_cases hi : insIs n (deref ρ1 r) = true
    · rw [if_pos hi] at h1
      obtain ⟨fs, ed⟩ := insIs_rd hi
      obtain ⟨a, C', dx, ws, rfl, hC, hH, hdx, hk, rr⟩ := deref_rd S1 R1 ed
      rw [h.ca] at hC
      cases hC
      refine ⟨a, dx, ws, rfl, hH, ?_⟩
      obtain ⟨G1', s1, t1', S1', R1'⟩ := fz_of S1 t1 (fun b n => n) R1
      exact callN_of S1' Tr.refl R1' hl (XP.from t1' h1 (relR_mono c))
    · rw [if_neg hi] at h1; exact h1.elim
end
end DL

/-! DLt: promises of defs that run where no repr is under way (the guards of what runs around are known): defs, calls, making, methods, properties, with exceptions; repr of data. -/
namespace DL
open PySem PySem.Spec PyProof.Rows L2

/-- no guard is set around -/
abbrev NoG (A : Around) : Prop := A.guards = some []
theorem NoG.deeper {A : Around} (h : NoG A) (env : Env) : NoG (A.deeper env) := h
theorem NoG.in1 {A : Around} (h : NoG A) : NoG A.in1 := h
theorem NoG.make {A : Around} (h : NoG A) (C : Addr) (us : List Value) : NoG (A.under (.builtin "type.__call__" ⟨.ref C :: us, []⟩)) := by
  first | exact h | simp [NoG, Around.under, Code.guards, Code.isGuard, pushGuards, h]
/-- a def's promise, where no guard is set -/
structure FnG (P : Program) (w : World) (K : PySem.W.Frag) (mg : Str → Option Value) (base : Heap) (k : Nat) (f : Addr) (fd : FuncData) (ps : List Str) (sp : Sp) : Prop where
  len : ∀ vs H Q E, sp vs H Q E → vs.length = ps.length
  run : ∀ (A : Around) (outer : List Env) (s : Shared) (H : Hp) (args : Args) (us : List Value) (vs : List V) (Q : VK) (E : XK), Room k A → NoG A →
    Env0 P w K mg base A outer s H → BindsTo s fd args (ps.zip us) → Vals vs us → sp vs H Q E → codeAny (model P w) A (.call (.ref f) args) (CR (L2.CX P w) outer P w H s Q E) s

section
variable {P : Program} {w : World} {K : PySem.W.Frag} {mg : Str → Option Value} {base : Heap}
theorem fnG_of {k : Nat} {f : Addr} {x qual : Str} {st : Stmt} {fd : FuncData} {N ps : List Str} {sp : Sp} (F : Fun K x qual st f fd) (S : FnScope N ps (defScope st)) (hlen : ∀ vs H Q E, sp vs H Q E → vs.length = ps.length)
    (hbody : ∀ (cdv : Value) (A : Around) (outer : List Env) (s : Shared) (H : Hp) (vs : List V) (Q : VK) (E : XK), Room k (A.deeper (envOfC qual (defScope st) s.heap.objs.size f cdv)) → NoG A → sp vs H Q E →
      ∃ t, PSs (cxOf (L2.CX P w) P w K mg base N qual (defScope st) f cdv A outer s H E) (defBody st) t ∧ t { nx := fun _ H' => Q .non H', rt := Q } (L2.start N vs) H) : FnG P w K mg base (k + 1) f fd ps sp := by
  obtain ⟨oc, od, kV, doc, pm, an, cdv, ct, osl, rfl, lk, hcd⟩ := F.ex
  constructor
  · exact hlen
  intro A outer s H args us vs Q E room ng env bind rel want
  have old := fun b o e => (env.bs b o e).1
  have inK : K.In s.heap := env.mod.kin.keeps old
  have noLim : s.heap.NoLimit := env.mod.nolimit.keeps old
  have kinds : ∀ y ∈ ps.zip us, (defScope st).names.lookup y.1 = some .local ∨ ((defScope st).names.lookup y.1 = some .cell ∧ ((cellsFrom (s.heap.objs.size + 1) (defScope st).names []).lookup y.1).isSome = true) := by
    rintro ⟨n, v⟩ mem
    exact (S.par n (List.of_mem_zip mem).1).imp id fun q => ⟨q, PySem.W.cellsFrom_some _ _ _ (Or.inl q)⟩
  refine codeAny_call_function room.depth (inK _ _ lk) rfl S.co S.gen rfl (PySem.W.codeRec_of inK hcd) (bind _ _ _ _ (wpAny_newFunctionEnv_cells S.kind kinds fun e2 h2 s1 x => ?_))
  subst h2
  refine ⟨noLim.keeps x.toInCall.keep, codeAny_func ?_⟩
  obtain ⟨t, deriv, holds⟩ := hbody cdv A outer s H vs Q E (room.deeper _) ng want
  have start := inv_start (CX := L2.CX P w) (cd := cdv) (E := E) S room.hd env (hlen _ _ _ _ want) rel x
  have fin : ∀ (σ2 : St) (H2 : Hp) (v : V) (u : Value) (s2 : Shared), Inv (cxOf (L2.CX P w) P w K mg base N qual (defScope st) f cdv A outer s H E) [] σ2 H2 s2 → RelV v u → Q v H2 → CE outer P w H s Q u s2 := by
    intro σ2 H2 v u s2 J rv q
    exact ⟨v, H2, J.os, J.bare, J.base, J.hok, rv, q⟩
  refine wpAny_mono (deriv.run [] s1 _ H _ start holds) ?_ fun _ _ z => z
  intro fl s2 ends
  cases fl with
  | ret u => obtain ⟨v, σ2, H2, J, rv, q⟩ := ends; exact fin _ _ _ _ _ J rv q
  | next => obtain ⟨σ2, H2, J, q⟩ := ends; exact fin _ _ V.non Value.none _ J rfl q
  | brk => obtain ⟨_, _, _, q⟩ := ends; exact q.elim
  | cont => obtain ⟨_, _, _, q⟩ := ends; exact q.elim
/-- THE RULE for a def -/
theorem fnG_D {c : Cn} {x qual : Str} {st : Stmt} {f : Addr} {fd : FuncData} {N ps : List Str} {k n : Nat} {s : S} (F : Fun K x qual st f fd) (Sc : FnScope N ps (defScope st)) (hn : N.length - ps.length = n)
    (hbody : ∀ (cdv : Value) (A : Around) (outer : List Env) (sh : Shared) (H : Hp) (E : XK) (σ0 : St) (W : WX), Room k (cxOf (L2.CX P w) P w K mg base N qual (defScope st) f cdv A outer sh H E).A → NoG (cxOf (L2.CX P w) P w K mg base N qual (defScope st) f cdv A outer sh H E).A →
      PassesOwn (model P w) (cxOf (L2.CX P w) P w K mg base N qual (defScope st) f cdv A outer sh H E).A (cxOf (L2.CX P w) P w K mg base N qual (defScope st) f cdv A outer sh H E).env (cxOf (L2.CX P w) P w K mg base N qual (defScope st) f cdv A outer sh H E).xe →
      Takes (cxOf (L2.CX P w) P w K mg base N qual (defScope st) f cdv A outer sh H E) W → PSs (cxOf (L2.CX P w) P w K mg base N qual (defScope st) f cdv A outer sh H E) (defBody st) (tS c σ0 W s)) :
    FnG P w K mg base (k + 1) f fd ps (spD c ps.length (runF n s)) := by
  refine fnG_of F Sc (fun vs H Q E h => ?_) (fun cdv A outer sh H vs Q E hr ng h => ?_)
  · obtain ⟨_, _, _, _, l, _⟩ := h
    exact l
  · obtain ⟨G, own, a, S, l, ok, h⟩ := h
    have tk : Takes (cxOf (L2.CX P w) P w K mg base N qual (defScope st) f cdv A outer sh H E) (fun cls d _ H' => E cls d H') := takes_of rfl rfl rfl rfl
    refine ⟨tS c (L2.start N vs) (fun cls d _ H' => E cls d H') s, hbody cdv A outer sh H E _ _ hr ng (passes_of rfl) tk, G, own, a ++ List.replicate n .no, S.enter (by rw [l]; exact hn), ?_⟩
    exact body_end S ok h
end
/-! ### calls -/
/-- a def that may be called by its name -/
structure CallG (P : Program) (w : World) (K : PySem.W.Frag) (mg : Str → Option Value) (base : Heap) (c : Cn) (k : Nat) (x : Str) (ps : List Str) (F : Ro → Res R) (f : Addr) (fd : FuncData) : Prop where
  ok : FnG P w K mg base k f fd ps (spD c ps.length F)
  mg : mg x = some (.ref f)
  kp : PySem.W.keepIn K (.ref f) = true
  bi : ∀ us : List Value, us.length = ps.length → bindArgs fd ⟨us, []⟩ = pure (ps.zip us)
section
variable {X : Cx} {c : Cn} {σ0 : St} {W : WX} {k : Nat} {f g C : Addr} {fd : FuncData} {ps : List Str} {sp : Sp} {x n m : Str} {p pos apos : Pos} {e o : Expr} {es : List Expr} {fa : M (List R)} {fo : M R} {F : Ro → Res R} {σ : St} {ρ : Ro} {G H : Hp} {own : Own} {rs : List R} {vs : List V} {Q : VK}
theorem runG {pins : List (Addr × Obj)} {s : Shared} {us : List Value} {E : XK} (Fn : FnG X.prog X.w X.K X.mg X.base k f fd ps sp) (hr : Room k X.A) (ng : NoG X.A) (bi : ∀ us : List Value, us.length = ps.length → bindArgs fd ⟨us, []⟩ = pure (ps.zip us))
    (hx : PassesAt (L2.CX X.prog X.w) X σ E) (I : Inv X pins σ H s) (rel : Vals vs us) (want : sp vs H Q E) : wpAny (model X.prog X.w) X.A (call (.ref f) us) (EP X pins σ Q) X.xe s := by
  have hl : us.length = ps.length := by rw [← rel.length]; exact Fn.len _ _ _ _ want
  refine wpAny_call (codeAny_mono (Fn.run X.A X.stack s H ⟨us, []⟩ us vs Q E hr ng I.env0 (.of_eq (bi us hl)) rel want) ?_)
  intro r s2 got
  match r, got with
  | .error er, got => exact hx pins H s er s2 I got
  | .ok (.ret u), got => exact I.after got
  | .ok .next, got => exact got.elim
  | .ok .brk, got => exact got.elim
  | .ok .cont, got => exact got.elim
/-- a call's promise out of a denotation, exceptions and all -/
theorem callE_of {mm : Nat} {ρ0 : Ro} {G0 H0 : Hp} {own0 : Own} (S : SR c σ0 G own ρ σ H) (t0 : Tr ρ0 σ G0 own0 H0 ρ σ G own H) (hr : RRs c G σ rs vs) (hn : rs.length = mm) (h : XP (relR c) c σ0 W σ ρ0 G0 own0 H0 Q (callR F rs ρ)) : spD c mm F vs H Q (WE W σ) := SpD.of_call S t0 hr hn h
theorem dg_call (h : CallG X.prog X.w X.K X.mg X.base c k x ps F f fd) (hr : Room k X.A) (ng : NoG X.A) (hg : Gl X x) (tk : Takes X W)
    (ha : PA X (e :: es) (tA c σ0 W fa)) (hfl : ∀ ρ rs ρ', fa ρ = .ok rs ρ' → rs.length = ps.length) (hdb : (x == ("__debug__" : Str)) = false := by decide) (he : starEach (e :: es) X.env = (false, eval e X.env) :: starEach es X.env := by rfl) (hpl : (backTo pos (starEach es X.env)).any (·.1) = false := by rfl) :
    PE X (.Call (.Name x p) (e :: es) [] pos) (tD c σ0 W (eCall F fa)) := by
  constructor
  intro pins s σ H Q I q
  obtain ⟨G, own, ρ, S, q⟩ := q
  have q2 : tA c σ0 W fa σ H fun vs H1 => spD c ps.length F vs H1 Q (WE W σ) := by
    refine ⟨G, own, ρ, S, ?_⟩
    unfold eCall M.bind at q
    cases e1 : fa ρ with
    | bad => rw [e1] at q; exact q
    | ex y ρ1 => rw [e1] at q; exact q
    | ok rs ρ1 =>
      rw [e1] at q
      exact fun G1 own1 H1 vs t S1 R1 => callE_of S1 t R1 (hfl _ _ _ e1) q
  refine wpAny_Call_Name_kw (ld_glob I hg h.mg (PySem.W.callWith_K (h₀ := X.base) I.ok.mod.kin h.kp (thn (ha.run pos pins s σ H _ I q2) ?_) he hpl) hdb)
  rintro us s1 ⟨vs, H1, I1, r, q3⟩
  exact ⟨I1.kIn, runG h.ok hr ng h.bi (passAt tk σ) I1 r q3⟩
theorem dg_call0 (h : CallG X.prog X.w X.K X.mg X.base c k x ps F f fd) (hr : Room k X.A) (ng : NoG X.A) (hg : Gl X x) (tk : Takes X W) (hl : 0 = ps.length) (hdb : (x == ("__debug__" : Str)) = false := by decide) :
    PE X (.Call (.Name x p) [] [] pos) (tD c σ0 W (eCall F eNil)) := by
  constructor
  intro pins s σ H Q I q
  obtain ⟨G, own, ρ, S, q⟩ := q
  have q2 : spD c ps.length F [] H Q (WE W σ) := callE_of S Tr.refl .nil hl q
  exact wpAny_Call_Name_kw (ld_glob I hg h.mg (PySem.W.callWith_K0 I.kIn h.kp (runG (us := []) (vs := []) h.ok hr ng h.bi (passAt tk σ) I .nil q2)) hdb)

/-! ### methods -/
structure MethG (P : Program) (w : World) (K : PySem.W.Frag) (mg : Str → Option Value) (base : Heap) (c : Cn) (k : Nat) (n m : Str) (ps : List Str) (F : Ro → Res R) (C g : Addr) (fd : FuncData) : Prop where
  cl : Cls K C
  me : Meth K C m g
  ok : FnG P w K mg base k g fd ps (spD c ps.length F)
  ca : c.ca n = some C
  bi : ∀ us : List Value, us.length = ps.length → bindArgs fd ⟨us, []⟩ = pure (ps.zip us)
def mtgK (n m : Str) (F : Ro → Res R) (fa : M (List R)) (r : R) : M R := fun ρ => if insOk n m (deref ρ r) = true then (fa.bind fun rs => callR F (fzR r :: rs)) ρ else .bad
def eMethG (n m : Str) (F : Ro → Res R) (fo : M R) (fa : M (List R)) : M R := fo.bind (mtgK n m F fa)
theorem dg_meth {pl : Sem Bool} (h : MethG X.prog X.w X.K X.mg X.base c k n m ps F C g fd) (hr : Room k X.A) (ng : NoG X.A) (tk : Takes X W) (ho : PE X o (tD c σ0 W fo)) (ha : PA X (e :: es) (tA c σ0 W fa)) (hfl : ∀ ρ rs ρ', fa ρ = .ok rs ρ' → rs.length + 1 = ps.length)
    (hst : starEach (e :: es) X.env = (false, eval e X.env) :: starEach es X.env := by rfl) (hpl : (backTo pos (starEach es X.env)).any (·.1) = false := by rfl)
    (ht : eval (.Call (.Attribute o m apos) (e :: es) [] pos) X.env = (do
      let ov ← eval o X.env
      standAt apos.atName
      let (f, first) ← holding [ov] (getMethod ov m pl)
      callWith pos f first (backTo pos (starEach (e :: es) X.env)) (backToKw pos (keywordEach [] X.env))) := by rfl) :
    PE X (.Call (.Attribute o m apos) (e :: es) [] pos) (tD c σ0 W (eMethG n m F fo fa)) := by
  constructor
  intro pins s σ H Q I q
  obtain ⟨G, own, ρ, S, q⟩ := q
  have q2 : tD c σ0 W fo σ H fun x H1 => ∃ a dx fs, x = .ref a ∧ H1 a = some (.ins C dx fs) ∧ fs.lookup m = none ∧ tA c σ0 W fa σ H1 fun vs H2 => spD c ps.length F (x :: vs) H2 Q (WE W σ) := by
    refine XP.bind S q fun r ρ1 G1 own1 H1 v t1 S1 R1 h1 => ?_
    unfold mtgK at h1
    by_cases hi : insOk n m (deref ρ1 r) = true
    · rw [if_pos hi] at h1
      obtain ⟨fs, ed, el⟩ := insOk_rd hi
      obtain ⟨a, C', dx, ws, rfl, hC, hH, hdx, hk, rr⟩ := deref_rd S1 R1 ed
      rw [h.ca] at hC
      cases hC
      refine ⟨a, dx, ws, rfl, hH, flds_none hk el, ?_⟩
      obtain ⟨G1', s1, t1', S1', R1'⟩ := fz_of S1 t1 (fun b n => n) R1
      refine ⟨G1', own1, ρ1, S1', ?_⟩
      have h1 := XP.from t1' h1 (relR_mono c)
      unfold M.bind at h1
      cases e1 : fa ρ1 with
      | bad => rw [e1] at h1; exact h1
      | ex y ρ2 => rw [e1] at h1; exact h1
      | ok rs ρ2 =>
        rw [e1] at h1
        intro G2 own2 H2 vs t2 S2 R2
        exact callE_of S2 t2 ((R1'.mono t2.ext).cons R2) (by rw [List.length_cons]; exact hfl _ _ _ e1) h1
    · rw [if_neg hi] at h1; exact h1.elim
  refine PySem.W.methodCall_KW (pl := pl) (thn (ho.run pins s σ H _ I q2) ?_) ht
  rintro u s1 ⟨y, H1, I1, ry, a, dx, fs, rfl, ea, el, q3⟩
  cases (show u = Value.ref a from ry)
  refine getmeth_ok I1 ea h.cl h.me el (PySem.W.callWith_K (first := [.ref a]) (h₀ := X.base) I.ok.mod.kin h.me.kp (thn (ha.run pos pins s1 σ H1 _ I1 q3) ?_) hst hpl)
  rintro us s2 ⟨vs, H2, I2, r, q4⟩
  exact ⟨I2.kIn, runG (us := .ref a :: us) (vs := .ref a :: vs) h.ok hr ng h.bi (passAt tk σ) I2 (.cons rfl r) q4⟩
theorem dg_meth0 {pl : Sem Bool} (h : MethG X.prog X.w X.K X.mg X.base c k n m ps F C g fd) (hr : Room k X.A) (ng : NoG X.A) (tk : Takes X W) (ho : PE X o (tD c σ0 W fo)) (hl : 1 = ps.length)
    (ht : eval (.Call (.Attribute o m apos) [] [] pos) X.env = (do
      let ov ← eval o X.env
      standAt apos.atName
      let (f, first) ← holding [ov] (getMethod ov m pl)
      callWith pos f first (backTo pos (starEach [] X.env)) (backToKw pos (keywordEach [] X.env))) := by rfl) :
    PE X (.Call (.Attribute o m apos) [] [] pos) (tD c σ0 W (eMethG n m F fo eNil)) := by
  constructor
  intro pins s σ H Q I q
  obtain ⟨G, own, ρ, S, q⟩ := q
  have q2 : tD c σ0 W fo σ H fun x H1 => ∃ a dx fs, x = .ref a ∧ H1 a = some (.ins C dx fs) ∧ fs.lookup m = none ∧ spD c ps.length F [x] H1 Q (WE W σ) := by
    refine XP.bind S q fun r ρ1 G1 own1 H1 v t1 S1 R1 h1 => ?_
    unfold mtgK at h1
    by_cases hi : insOk n m (deref ρ1 r) = true
    · rw [if_pos hi] at h1
      obtain ⟨fs, ed, el⟩ := insOk_rd hi
      obtain ⟨a, C', dx, ws, rfl, hC, hH, hdx, hk, rr⟩ := deref_rd S1 R1 ed
      rw [h.ca] at hC
      cases hC
      refine ⟨a, dx, ws, rfl, hH, flds_none hk el, ?_⟩
      obtain ⟨G1', s1, t1', S1', R1'⟩ := fz_of S1 t1 (fun b n => n) R1
      have h1 := XP.from t1' h1 (relR_mono c)
      have h2 : XP (relR c) c σ0 W σ ρ1 G1' own1 H1 Q (callR F [fzR r] ρ1) := h1
      exact callE_of S1' Tr.refl R1' hl h2
    · rw [if_neg hi] at h1; exact h1.elim
  refine PySem.W.methodCall_KW (pl := pl) (thn (ho.run pins s σ H _ I q2) ?_) ht
  rintro u s1 ⟨y, H1, I1, ry, a, dx, fs, rfl, ea, el, q3⟩
  cases (show u = Value.ref a from ry)
  exact getmeth_ok I1 ea h.cl h.me el (PySem.W.callWith_K0 (first := [.ref a]) I1.kIn h.me.kp (runG (us := [.ref a]) (vs := [.ref a]) h.ok hr ng h.bi (passAt tk σ) I1 (.cons rfl .nil) q3))
end
end DL

/-! DLu: making with exceptions, properties, the law's head, where no guard is set. -/
namespace DL
open PySem PySem.Spec PyProof.Rows L2
section
variable {c : Cn} {σ0 : St} {W : WX} {σ : St} {ρ : Ro} {G H : Hp} {own : Own}
theorem SR.forget {j : Nat} (S : SR c σ0 G own ρ σ H) : SR c σ0 G own (ρ.set j .no) σ H where
  same := S.same
  out := S.out
  there := S.there
  dis := S.dis
  len := by rw [List.length_set]; exact S.len
  slot := fun i s h => by
    by_cases e : j = i
    · subst e
      have hj := lt_of_get h
      rw [List.length_set] at hj
      rw [List.getElem?_set_self hj] at h
      cases h
      trivial
    · rw [List.getElem?_set_ne e] at h
      exact S.slot i s h
  io := fun i s h q => by
    by_cases e : j = i
    · subst e
      have hj := lt_of_get h
      rw [List.length_set] at hj
      rw [List.getElem?_set_self hj] at h
      cases h
      cases q
    · rw [List.getElem?_set_ne e] at h
      exact S.io i s h q
end
def makeX (n : Str) (F : Ro → Res R) (rs : List R) : M R := fun ρ => match callR F (.sl ρ.length :: rs) (ρ ++ [.ow false (.ins n [])]) with
  | .ok (.val .non) ρ' => (match ρ'[ρ.length]? with
    | some (.ow false o) => .ok (.nw o) (ρ'.take ρ.length)
    | _ => .bad)
  | .ex x ρ' => .ex x (ρ'.take ρ.length)
  | _ => .bad
def eMakeX (n : Str) (F : Ro → Res R) (fa : M (List R)) : M R := fa.bind (makeX n F)
section
variable {X : Cx} {c : Cn} {σ0 : St} {W : WX} {σ : St} {ρ : Ro} {G H : Hp} {own : Own} {n : Str} {F : Ro → Res R} {rs : List R} {vs : List V} {Q : VK}
theorem makeX_of {C : Addr} {m : Nat} (S : SR c σ0 G own ρ σ H) (hr : RRs c G σ rs vs) (hn : rs.length + 1 = m) (hC : c.ca n = some C) (h : XP (relR c) c σ0 W σ ρ G own H Q (makeX n F rs ρ)) {x dx : Addr} (hx : H x = none) (hdx : H dx = none) (ne : dx ≠ x) :
    spD c m F (.ref x :: vs) (upd (upd H dx (.own x)) x (.ins C dx [])) (fun v H2 => v = .non ∧ Q (.ref x) H2) (WE W σ) := by
  have hs : Same H (upd (upd H dx (.own x)) x (.ins C dx [])) := fun b o e => by
    rw [upd_ne (ne_of_none e hx), upd_ne (ne_of_none e hdx)]; exact e
  have hback : ∀ b, (upd (upd H dx (.own x)) x (.ins C dx [])) b = none → H b = none := fun b hb => by
    cases e : H b with
    | none => rfl
    | some o => rw [hs b o e] at hb; cases hb
  generalize hH : upd (upd H dx (.own x)) x (.ins C dx []) = H1 at *
  have hx1 : H1 x = some (.ins C dx []) := by rw [← hH]; exact upd_same
  have hd1 : H1 dx = some (.own x) := by rw [← hH, upd_ne ne]; exact upd_same
  have nw : New G H G H1 := ⟨hs, Same.refl _, fun b o e => hs b o (S.same b o e), fun b o e => .inl e⟩
  have S1 : SR c σ0 G own ρ σ H1 := nw.sr S
  have hP : ∀ b, (b = x ∨ b = dx) → H b = none ∧ G b = none ∧ ¬ ao own b ∧ ∃ o, H1 b = some o := fun b hb => by
    have hb0 : H b = none := by rcases hb with rfl | rfl <;> assumption
    refine ⟨hb0, ?_, fun ⟨i, z⟩ => ?_, ?_⟩
    · cases e : G b with
      | none => rfl
      | some o => rw [S.same b o e] at hb0; cases hb0
    · obtain ⟨o, q⟩ := S.there i b z
      rw [hb0] at q; cases q
    · rcases hb with rfl | rfl
      · exact ⟨_, hx1⟩
      · exact ⟨_, hd1⟩
  have S2 := S1.grow (P := fun b => b = x ∨ b = dx) (o := .ins n []) (v := .ref x) ⟨x, C, dx, [], rfl, .inl rfl, .inr rfl, ne, hC, hx1, hd1, rfl, .nil⟩ fun b hb => (hP b hb).2
  have hl : ρ.length = σ.length := S.len
  have rr : RRs c G (σ ++ [some (.ref x)]) (.sl ρ.length :: rs) (.ref x :: vs) := .sl (by rw [hl, List.getElem?_append_right (Nat.le_refl _), Nat.sub_self]; rfl) hr.grow
  have nb : ∀ b, H1 b = none ∨ ao (fun i b => own i b ∨ (i = ρ.length ∧ (b = x ∨ b = dx))) b → H b = none ∨ ao own b := fun b z => by
    rcases z with z | ⟨i, z | ⟨_, z⟩⟩
    · exact .inl (hback b z)
    · exact .inr ⟨i, z⟩
    · exact .inl (hP b z).1
  have tt : ∀ (ρ1 : Ro) (G' H' : Hp) (own' own2 : Own), Tr (ρ ++ [.ow false (.ins n [])]) (σ ++ [some (.ref x)]) G (fun i b => own i b ∨ (i = ρ.length ∧ (b = x ∨ b = dx))) H1 ρ1 (σ ++ [some (.ref x)]) G' own' H' → (∀ b, ao own2 b → ao own' b) → Tr ρ σ G own H (ρ1.take σ.length) σ G' own2 H' := by
    intro ρ1 G' H' own' own2 t sub
    refine ⟨t.ext, ?_, ?_, ?_, ?_⟩
    · intro b o hb hn
      refine t.keep b o (hs b o hb) fun z => ?_
      rcases nb b (.inr z) with q | q
      · rw [hb] at q; cases q
      · exact hn q
    · intro b o hg
      rcases t.gnew b o hg with q | q | q
      · exact .inl q
      · exact .inr (nb b (.inl q))
      · exact .inr (nb b (.inr q))
    · intro b z
      rcases t.onew b (sub b z) with q | q
      · exact (nb b (.inr q)).symm
      · exact (nb b (.inl q)).symm
    · intro j k o hj
      have hj' := lt_of_get hj
      obtain ⟨h1, h2⟩ := t.lent j k o (by rw [List.getElem?_append_left hj']; exact hj)
      refine ⟨?_, rfl⟩
      rw [List.getElem?_take, if_pos (by omega)]
      exact h1
  refine SpD.of_call (W := fun cls d _ H' => W cls d σ H') S2 Tr.refl rr (by rw [List.length_cons]; exact hn) ?_
  unfold makeX at h
  cases e : callR F (.sl ρ.length :: rs) (ρ ++ [.ow false (.ins n [])]) with
  | bad => rw [e] at h; exact h
  | ex y ρ1 =>
    rw [e] at h
    intro G' own' H' cls d t S' R'
    rw [hl] at h
    exact h G' own' H' cls d (tt ρ1 G' H' own' own' t fun _ z => z) (S'.forget (j := σ.length)).shrink R'
  | ok r ρ1 =>
    rw [e] at h
    cases r with
    | sl i => exact h.elim
    | nw o => exact h.elim
    | val d =>
      cases d with
      | non =>
        intro G' own' H' v t S' R'
        cases R'
        refine ⟨rfl, ?_⟩
        dsimp only at h
        cases e2 : ρ1[ρ.length]? with
        | none => rw [e2] at h; exact h.elim
        | some s =>
          rw [e2] at h
          cases s with
          | no => exact h.elim
          | fz d => exact h.elim
          | ln k o => exact h.elim
          | ow k o =>
            cases k with
            | true => exact h.elim
            | false =>
              obtain ⟨w, hw, S3, xo, k3⟩ := S'.take e2
              rw [hl, List.getElem?_append_right (Nat.le_refl _), Nat.sub_self] at hw
              cases hw
              rw [hl] at S3
              have S4 := S3.shrink
              rw [hl] at h
              refine h G' (minO own' σ.length) H' (.ref x) (tt ρ1 G' H' own' _ t fun b ⟨i, _, z⟩ => ⟨i, z⟩) S4 ⟨own' ρ.length, xo, fun b p => ⟨(k3 b p).1, by rw [← hl]; exact (k3 b p).2.1, (k3 b p).2.2, ?_⟩⟩
              rcases t.onew b ⟨ρ.length, p⟩ with q | q
              · exact nb b (.inr q)
              · exact nb b (.inl q)
      | _ => exact h.elim
end
/-- a class that may be made by its name -/
structure MakeG (P : Program) (w : World) (K : PySem.W.Frag) (mg : Str → Option Value) (base : Heap) (c : Cn) (k : Nat) (x : Str) (ps : List Str) (F : Ro → Res R) (C g : Addr) (fd : FuncData) : Prop where
  mke : Mk K C g
  ok : FnG P w K mg base k g fd ps (spD c ps.length F)
  mg : mg x = some (.ref C)
  ca : c.ca x = some C
  bi : ∀ us : List Value, us.length = ps.length → bindArgs fd ⟨us, []⟩ = pure (ps.zip us)
structure PropG (P : Program) (w : World) (K : PySem.W.Frag) (mg : Str → Option Value) (base : Heap) (c : Cn) (k : Nat) (n m : Str) (ps : List Str) (F : Ro → Res R) (C q g : Addr) (fd : FuncData) : Prop where
  cl : Cls K C
  pr : PropOf K C m q g
  ok : FnG P w K mg base k g fd ps (spD c ps.length F)
  ca : c.ca n = some C
  bi : ∀ us : List Value, us.length = ps.length → bindArgs fd ⟨us, []⟩ = pure (ps.zip us)
section
variable {X : Cx} {c : Cn} {σ0 : St} {W : WX} {k : Nat} {g C q : Addr} {fd : FuncData} {ps : List Str} {x n m : Str} {p pos apos : Pos} {e o : Expr} {es : List Expr} {fa : M (List R)} {fo : M R} {F : Ro → Res R} {σ : St} {H : Hp} {vs : List V} {Q : VK} {sp : Sp}
theorem run_makeG {pins : List (Addr × Obj)} {s : Shared} {us : List Value} {E : XK} (M : Mk X.K C g) (Fn : FnG X.prog X.w X.K X.mg X.base k g fd ps sp) (hr : Room (k + 1) X.A) (ng : NoG X.A) (bi : ∀ us : List Value, us.length = ps.length → bindArgs fd ⟨us, []⟩ = pure (ps.zip us))
    (hx : PassesAt (L2.CX X.prog X.w) X σ E) (I : Inv X pins σ H s) (rel : Vals vs us)
    (want : ∀ x dx, H x = none → H dx = none → dx ≠ x → sp (.ref x :: vs) (upd (upd H dx (.own x)) x (.ins C dx [])) (fun v H2 => v = .non ∧ Q (.ref x) H2) E) : wpAny (model X.prog X.w) X.A (call (.ref C) us) (EP X pins σ Q) X.xe s := by
  have hq := want (s.heap.objs.size + 1) s.heap.objs.size (I.hok.fresh (Nat.le_add_right _ 1)) (I.hok.fresh (Nat.le_refl _)) (Nat.ne_of_lt (Nat.lt_succ_self _))
  have J := Inv.made (C := C) I
  have rel2 : Vals (V.ref (s.heap.objs.size + 1) :: vs) (Value.ref (s.heap.objs.size + 1) :: us) := .cons rfl rel
  have hl : (Value.ref (s.heap.objs.size + 1) :: us).length = ps.length := by rw [← rel2.length]; exact Fn.len _ _ _ _ hq
  refine wpAny_call (make_map (f := g) I.kIn M.makes M.init (beq_iff_eq.mp M.fn) (codeAny_mono (Fn.run _ X.stack _ _ ⟨Value.ref (s.heap.objs.size + 1) :: us, []⟩ _ _ _ E (hr.make C us []) (ng.make C us) (J.env0.make C us []) (.of_eq (bi _ hl)) rel2 hq) ?_))
  intro r s2 got
  match r, got with
  | .error er, got => exact hx pins _ _ er s2 J got
  | .ok (.ret u), got =>
    obtain ⟨v, H', I3, rv, ev, q3⟩ := J.after got
    subst ev
    exact ⟨rv, V.ref (s.heap.objs.size + 1), H', I3, rfl, q3⟩
  | .ok .next, got => exact got.elim
  | .ok .brk, got => exact got.elim
  | .ok .cont, got => exact got.elim
theorem dg_make (h : MakeG X.prog X.w X.K X.mg X.base c k x ps F C g fd) (hr : Room (k + 1) X.A) (ng : NoG X.A) (hg : Gl X x) (tk : Takes X W) (ha : PA X (e :: es) (tA c σ0 W fa)) (hfl : ∀ ρ rs ρ', fa ρ = .ok rs ρ' → rs.length + 1 = ps.length)
    (hdb : (x == ("__debug__" : Str)) = false := by decide) (he : starEach (e :: es) X.env = (false, eval e X.env) :: starEach es X.env := by rfl) (hpl : (backTo pos (starEach es X.env)).any (·.1) = false := by rfl) :
    PE X (.Call (.Name x p) (e :: es) [] pos) (tD c σ0 W (eMakeX x F fa)) := by
  constructor
  intro pins s σ H Q I q
  obtain ⟨G, own, ρ, S, q⟩ := q
  have q2 : tA c σ0 W fa σ H fun vs H1 => ∀ y dy, H1 y = none → H1 dy = none → dy ≠ y → spD c ps.length F (.ref y :: vs) (upd (upd H1 dy (.own y)) y (.ins C dy [])) (fun v H2 => v = .non ∧ Q (.ref y) H2) (WE W σ) := by
    refine ⟨G, own, ρ, S, ?_⟩
    unfold eMakeX M.bind at q
    cases e1 : fa ρ with
    | bad => rw [e1] at q; exact q
    | ex y ρ1 => rw [e1] at q; exact q
    | ok rs ρ1 =>
      rw [e1] at q
      intro G1 own1 H1 vs t S1 R1 y dy hy hdy ne
      exact makeX_of S1 R1 (hfl _ _ _ e1) h.ca (XP.from t q (relR_mono c)) hy hdy ne
  refine wpAny_Call_Name_kw (ld_glob I hg h.mg (PySem.W.callWith_K (h₀ := X.base) I.ok.mod.kin h.mke.kp (thn (ha.run pos pins s σ H _ I q2) ?_) he hpl) hdb)
  rintro us s1 ⟨vs, H1, I1, r, q3⟩
  exact ⟨I1.kIn, run_makeG h.mke h.ok hr ng h.bi (passAt tk σ) I1 r q3⟩
/-! ### properties (nothing is raised) -/
theorem run_propG {pins : List (Addr × Obj)} {s : Shared} {a dx : Addr} {fs : List (Str × V)} {b : Bool} {E' : Value → Shared → Prop} (h : PropG X.prog X.w X.K X.mg X.base c k n m ps F C q g fd) (hr : Room (k + 1) X.A) (ng : NoG X.A) (hl : 1 = ps.length) (I : Inv X pins σ H s) (ea : H a = some (.ins C dx fs))
    (want : spD c ps.length F [.ref a] H Q E0) : wpAny (model X.prog X.w) X.A (getAttr (.ref a) m b) (EP X pins σ Q) E' s := by
  obtain ⟨mA, O, _, _, _, _⟩ := ins_get I.hok ea
  obtain ⟨od, J, _⟩ := O.look
  obtain ⟨rest, hrec⟩ := h.pr.rec_
  have I1 := I.tok (s.toks + 1)
  have hc : (PySem.W.clsIn X.K C).isSome = true := by
    obtain ⟨cd, hc, _⟩ := PySem.W.any_some h.cl.hd
    rw [hc]; rfl
  have pl := PySem.W.plainGet_of (h.cl.get m)
  refine PySem.W.get_bind I.kIn J pl.1 (PySem.W.findObj_data hc h.pr.at_ h.pr.get h.pr.tak) pl.2 (wpAny_call (PySem.W.prop_get (s := { s with toks := s.toks + 1 }) I.kIn hrec (codeAny_mono (h.ok.run X.A.in1 X.stack { s with toks := s.toks + 1 } H ⟨[.ref a], []⟩ [.ref a] [.ref a] Q E0 hr.in1 ng.in1 I1.env0.in1 (.of_eq (h.bi [.ref a] hl)) (.cons rfl .nil) want) ?_)))
  intro r s2 got
  match r, got with
  | .error er, got => exact (show False from passL (X := X.nox) pins σ H { s with toks := s.toks + 1 } er s2 (I1.wish _) got).elim
  | .ok (.ret u), got =>
    obtain ⟨v, H', I3, rv, q3⟩ := I1.after got
    show wpAny _ _ (handedOut u) _ _ _
    rw [PySem.W.handedOut_of (handed_of rv)]
    exact wpAny_pure ⟨v, H', I3, rv, q3⟩
  | .ok .next, got => exact got.elim
  | .ok .brk, got => exact got.elim
  | .ok .cont, got => exact got.elim
theorem dg_prop (h : PropG X.prog X.w X.K X.mg X.base c k n m ps F C q g fd) (hr : Room (k + 1) X.A) (ng : NoG X.A) (ho : PE X o (tD c σ0 W fo)) (hl : 1 = ps.length) (hb : attributeBase o m X.env (eval o X.env) = eval o X.env := by rfl) :
    PE X (.Attribute o m pos) (tD c σ0 W (eProp n F fo)) := by
  constructor
  intro pins s σ H Q I q
  obtain ⟨G, own, ρ, S, q⟩ := q
  have q2 : tD c σ0 W fo σ H fun x H1 => ∃ a dx fs, x = .ref a ∧ H1 a = some (.ins C dx fs) ∧ spD c ps.length F [.ref a] H1 Q E0 := by
    refine XP.bind S q fun r ρ1 G1 own1 H1 v t1 S1 R1 h1 => ?_
    unfold prpK at h1
    by_cases hi : insIs n (deref ρ1 r) = true
    · rw [if_pos hi] at h1
      obtain ⟨fs, ed⟩ := insIs_rd hi
      obtain ⟨a, C', dx, ws, rfl, hC, hH, hdx, hk, rr⟩ := deref_rd S1 R1 ed
      rw [h.ca] at hC
      cases hC
      refine ⟨a, dx, ws, rfl, hH, ?_⟩
      obtain ⟨G1', s1, t1', S1', R1'⟩ := fz_of S1 t1 (fun b n => n) R1
      exact callN_of S1' Tr.refl R1' hl (XP.from t1' h1 (relR_mono c))
    · rw [if_neg hi] at h1; exact h1.elim
  refine attr_of hb (thn (ho.run pins s σ H _ I q2) ?_)
  rintro u s1 ⟨y, H1, I1, ry, a, dx, fs, rfl, ea, q3⟩
  cases (show u = Value.ref a from ry)
  exact run_propG h hr ng hl I1 ea q3
end
end DL

/-! DLv: repr, zip, sorted, dict.get, tuple targets. -/
namespace DL
open PySem PySem.Spec PyProof.Rows L2
mutual
theorem noDict_py : ∀ d : D, d.py.hasDict = false
  | .non => rfl
  | .bl _ => rfl
  | .int _ => rfl
  | .str _ => rfl
  | .tup ds => noDict_pys ds
  | .lst ds => noDict_pys ds
  | .dct _ => rfl
  | .ins _ _ => rfl
  | .scr _ => rfl
theorem noDict_pys : ∀ ds : List D, PyData.hasDictAll (D.pys ds) = false
  | [] => rfl
  | d :: ds => by
    show (d.py.hasDict || PyData.hasDictAll (D.pys ds)) = false
    rw [noDict_py d, noDict_pys ds]; rfl
end
def reprOf (d : D) : Option R := if d.data = true ∧ d.py.showable = true ∧ d.py.depth < 64 ∧ d.py.shown.length ≤ sizeLine then vS d.py.shown else none
def cRepr : List D → Option R
  | [.tup ds] => reprOf (.tup ds)
  | [.lst ds] => reprOf (.lst ds)
  | _ => none
section
variable {X : Cx} {c : Cn}
theorem repr_core {G : Hp} {pins : List (Addr × Obj)} {s : Shared} {σ : St} {H : Hp} {a : Addr} {d : D} {u : Value} {rr : R} {Q : VK} (hK : c.K = X.K) (ng : NoG X.A) (hu : X.A.units + 65 < cLine) (I : Inv X pins σ H s) (sg : Same G H) (h : RepR c G H d (.ref a)) (rv : RelV (.ref a) u) (ho : reprOf d = some rr)
    (k : ∀ (G' H' : Hp) (v : V), New G H G' H' → RO c G' H' H rr v → Q v H') : wpAny (model X.prog X.w) X.A (call (.builtin "repr") [u]) (EP X pins σ Q) X.xe s := by
  unfold reprOf at ho
  by_cases hc : d.data = true ∧ d.py.showable = true ∧ d.py.depth < 64 ∧ d.py.shown.length ≤ sizeLine
  · rw [if_pos hc] at ho
    cases ho
    obtain ⟨h1, h2, h3, h4⟩ := hc
    cases (show u = Value.ref a from rv)
    have dp := RepR.dp sg h h1
    rw [hK] at dp
    obtain ⟨as, r⟩ := Dp.reads I _ _ _ dp rfl
    refine repr_of_reads' r h2 (PyData.noDict_hsm (noDict_py d)) ng (by omega) (fun _ _ e => e) (fun h' t tk hk => ?_) h4
    exact ⟨V.str d.py.shown, H, I.kept hk, ⟨t, rfl⟩, k G H _ (New.refl sg) (Rep.str _)⟩
  · rw [if_neg hc] at ho; cases ho
theorem cb_repr (hK : c.K = X.K) (ng : NoG X.A) (hu : X.A.units + 65 < cLine) : CallR X (.builtin "repr") (rDn c cRepr) := by
  intro pins s σ H xs us Q I r ⟨G, ds, rr, sg, hr, ho, k⟩
  cases hr with
  | nil => cases ho
  | cons h t =>
    rename_i d v ds vs
    cases t with
    | cons _ _ => cases d <;> cases ho
    | nil =>
      cases d with
      | tup es =>
        have h' := h
        obtain ⟨a, ws, rfl, hs, q⟩ := h'
        cases r with
        | cons rv r => cases r; exact repr_core hK ng hu I sg h rv ho k
      | lst es =>
        have h' := h
        obtain ⟨a, ws, rfl, hs, q⟩ := h'
        cases r with
        | cons rv r => cases r; exact repr_core hK ng hu I sg h rv ho k
      | _ => cases ho
end
end DL

/-! DLw: sorting of texts as a function; sorted. -/
namespace DL
open PySem PySem.Spec PyProof.Rows L2
/-! ### the order of texts -/
def leS (a b : Str) : Bool := !ltCps b.cps.toList a.cps.toList
theorem leS_iff {a b : Str} : leS a b = true ↔ a.cps.toList ≤ b.cps.toList := by
  unfold leS
  rw [PyProof.Rows.ltCps_eq]
  simp
theorem leS_trans {a b c : Str} (h : leS a b = true) (k : leS b c = true) : leS a c = true := leS_iff.mpr (List.le_trans (leS_iff.mp h) (leS_iff.mp k))
theorem leS_total (a b : Str) : leS a b = true ∨ leS b a = true := (List.le_total a.cps.toList b.cps.toList).imp leS_iff.mpr leS_iff.mpr
theorem leS_anti {a b : Str} (h : leS a b = true) (k : leS b a = true) : a = b := by
  have e := List.le_antisymm (leS_iff.mp h) (leS_iff.mp k)
  obtain ⟨x⟩ := a
  obtain ⟨y⟩ := b
  congr 1
  exact Array.toList_inj.mp e
def insS (x : Str) : List Str → List Str
  | [] => [x]
  | y :: r => if leS x y = true then x :: y :: r else y :: insS x r
def sortS : List Str → List Str
  | [] => []
  | x :: r => insS x (sortS r)
theorem insS_perm (x : Str) : ∀ l : List Str, (insS x l).Perm (x :: l)
  | [] => .refl _
  | y :: r => by
    unfold insS
    by_cases h : leS x y = true
    · rw [if_pos h]
    · rw [if_neg h]
      exact ((insS_perm x r).cons y).trans (.swap x y r)
theorem sortS_perm : ∀ l : List Str, (sortS l).Perm l
  | [] => .refl _
  | x :: r => (insS_perm x (sortS r)).trans ((sortS_perm r).cons x)
theorem insS_pw (x : Str) : ∀ l : List Str, l.Pairwise (fun a b => leS a b = true) → (insS x l).Pairwise (fun a b => leS a b = true)
  | [], _ => by simp [insS]
  | y :: r, h => by
    unfold insS
    have h2 := List.pairwise_cons.mp h
    by_cases hl : leS x y = true
    · rw [if_pos hl]
      refine List.pairwise_cons.mpr ⟨fun z hz => ?_, h⟩
      rcases List.mem_cons.mp hz with rfl | hz
      · exact hl
      · exact leS_trans hl (h2.1 z hz)
    · rw [if_neg hl]
      refine List.pairwise_cons.mpr ⟨fun z hz => ?_, insS_pw x r h2.2⟩
      rcases List.mem_cons.mp ((insS_perm x r).mem_iff.mp hz) with rfl | hz
      · exact (leS_total z y).resolve_left hl
      · exact h2.1 z hz
theorem sortS_pw : ∀ l : List Str, (sortS l).Pairwise (fun a b => leS a b = true)
  | [] => .nil
  | x :: r => insS_pw x _ (sortS_pw r)
theorem pw_risingS : ∀ (p : Str) (l : List Str), risingS p l = true → (p :: l).Pairwise (fun a b => leS a b = true)
  | p, [], _ => by simp
  | p, x :: r, h => by
    obtain ⟨h1, h2⟩ := Bool.and_eq_true_iff.mp (show (!ltCps x.cps.toList p.cps.toList && risingS x r) = true from h)
    have ih := pw_risingS x r h2
    refine List.pairwise_cons.mpr ⟨fun z hz => ?_, ih⟩
    rcases List.mem_cons.mp hz with rfl | hz
    · exact h1
    · exact leS_trans (show leS p x = true from h1) ((List.pairwise_cons.mp ih).1 z hz)
theorem pw_sortedS : ∀ l : List Str, sortedS l = true → l.Pairwise (fun a b => leS a b = true)
  | [], _ => .nil
  | x :: r, h => pw_risingS x r h
theorem sortS_one {xs ys : List Str} (p : ys.Perm xs) (h : sortedS ys = true) : ys = sortS xs :=
  List.Perm.eq_of_pairwise (fun a b _ _ => leS_anti) (pw_sortedS ys h) (sortS_pw xs) (p.trans (sortS_perm xs).symm)
/-! ### sorted -/
def strsOf : List D → Option (List Str)
  | [] => some []
  | .str x :: ds => (strsOf ds).map (x :: ·)
  | _ => none
def keysOf : List (Key × D) → Option (List Str)
  | [] => some []
  | (.inr x, _) :: ds => (keysOf ds).map (x :: ·)
  | _ => none
def sortO (xs : List Str) : Option R := if xs.length < 64 then some (.nw (.lst ((sortS xs).map D.str))) else none
def cSorted : List D → Option R
  | [.lst ds] => (strsOf ds).bind sortO
  | [.dct kvs] => (keysOf kvs).bind sortO
  | _ => none
section
variable {X : Cx} {c : Cn} {G : Hp}
theorem reps_strsW : ∀ (xs : List Str), Reps c G (xs.map D.str) (xs.map V.str)
  | [] => .nil
  | x :: xs => .cons (.str x) (reps_strsW xs)
theorem strsOf_eq : ∀ {ds : List D} {xs : List Str} {vs : List V}, strsOf ds = some xs → Reps c G ds vs → vs = xs.map V.str
  | [], _, _, e, r => by cases e; cases r; rfl
  | d :: ds, xs, _, e, r => by
    cases r with
    | cons h r =>
      cases d with
      | str x =>
        have e : (strsOf ds).map (x :: ·) = some xs := e
        cases e2 : strsOf ds with
        | none => rw [e2] at e; cases e
        | some ys =>
          rw [e2] at e; cases e; cases h
          rw [strsOf_eq e2 r]; rfl
      | _ => cases e
theorem keysOf_eq : ∀ {ds : List (Key × D)} {xs : List Str}, keysOf ds = some xs → ds.map (·.1) = xs.map Sum.inr
  | [], _, e => by cases e; rfl
  | (.inl _, _) :: ds, _, e => by cases e
  | (.inr x, _) :: ds, xs, e => by
    have e : (keysOf ds).map (x :: ·) = some xs := e
    cases e2 : keysOf ds with
    | none => rw [e2] at e; cases e
    | some ys =>
      rw [e2] at e; cases e
      show Sum.inr x :: ds.map (·.1) = _
      rw [keysOf_eq e2]; rfl
theorem cb_sorted (hK : c.K = X.K) (hc : X.calm = true) : CallR X (.builtin "sorted") (rDn c cSorted) := by
  intro pins s σ H xs us Q I r ⟨G, ds, rr, sg, hr, ho, k⟩
  cases hr with
  | nil => cases ho
  | cons h t =>
    rename_i d v ds vs
    cases t with
    | cons _ _ => cases d <;> cases ho
    | nil =>
      cases d with
      | lst es =>
        have ho : (strsOf es).bind sortO = some rr := ho
        cases e : strsOf es with
        | none => rw [e] at ho; cases ho
        | some zs =>
          rw [e] at ho
          have ho : (if zs.length < 64 then some (R.nw (.lst ((sortS zs).map D.str))) else none) = some rr := ho
          by_cases hl : zs.length < 64
          · rw [if_pos hl] at ho
            cases ho
            obtain ⟨a, ws, rfl, hs, q⟩ := h
            cases strsOf_eq e q
            refine cr_sortedS pins s σ H _ us Q I r ⟨a, zs, rfl, .inl (.inl hs), hl, fun ys p hp hs hn => ?_⟩
            rw [sortS_one hp hs]
            obtain ⟨n, o⟩ := RO.nwl (reps_strsW (c := c) (G := G) (sortS zs)) sg hn
            exact k G _ _ n o
          · rw [if_neg hl] at ho; cases ho
      | dct es =>
        have ho : (keysOf es).bind sortO = some rr := ho
        cases e : keysOf es with
        | none => rw [e] at ho; cases ho
        | some zs =>
          rw [e] at ho
          have ho : (if zs.length < 64 then some (R.nw (.lst ((sortS zs).map D.str))) else none) = some rr := ho
          by_cases hl : zs.length < 64
          · rw [if_pos hl] at ho
            cases ho
            obtain ⟨a, ws, rfl, hs, hk, q⟩ := h
            refine call_sortedD hc pins s σ H _ us Q I r ⟨a, ws, zs, rfl, .inl hs, hk.symm.trans (keysOf_eq e), hl, fun ys p hp hs hn => ?_⟩
            rw [sortS_one hp hs]
            obtain ⟨n, o⟩ := RO.nwl (reps_strsW (c := c) (G := G) (sortS zs)) sg hn
            exact k G _ _ n o
          · rw [if_neg hl] at ho; cases ho
      | _ => cases ho
end
end DL

/-! DLx: zip of frozen lists and tuples. -/
namespace DL
open PySem PySem.Spec PyProof.Rows L2
def zipK (rs : List R) : M Iter := fun ρ => match rs with
  | [.val (.lst ds), .val (.lst es)] => .ok (itVals (zipD ds es)) ρ
  | [.val (.tup ds), .val (.tup es)] => .ok (itVals (zipD ds es)) ρ
  | _ => .bad
def itZipV (fa : M (List R)) : M Iter := fa.bind zipK
theorem zipD_get {ds es : List D} {i : Nat} {d : D} (h : (zipD ds es)[i]? = some d) : ∃ d1 d2, ds[i]? = some d1 ∧ es[i]? = some d2 ∧ d = .tup [d1, d2] := by
  unfold zipD at h
  rw [List.getElem?_map] at h
  cases e : (ds.zip es)[i]? with
  | none => rw [e] at h; cases h
  | some p =>
    rw [e] at h
    cases h
    obtain ⟨h1, h2⟩ := List.getElem?_zip_eq_some.mp e
    exact ⟨_, _, h1, h2, rfl⟩
theorem zipD_len {ds es : List D} : (zipD ds es).length = min ds.length es.length := by
  unfold zipD; simp
theorem und_zip {fa : M (List R)} : Und (itZipV fa) := fun ρ it ρ' h p hp => by
  have e : it.src = [] := by
    unfold itZipV M.bind at h
    cases e1 : fa ρ with
    | bad => rw [e1] at h; cases h
    | ex x ρ1 => rw [e1] at h; cases h
    | ok rs ρ1 =>
      rw [e1] at h
      dsimp only at h
      unfold zipK at h
      split at h
      · cases h; rfl
      · cases h; rfl
      · cases h
  rw [e] at hp
  cases hp
section
variable {X : Cx} {c : Cn} {σ0 : St} {W : WX} {σ : St} {ρ : Ro} {G H : Hp} {own : Own} {a b : Expr} {pos p : Pos} {fa : M (List R)}
theorem it_zipL {x y : Addr} {ds es : List D} {vs ws : List V} (hx : G x = some (.lst vs)) (r : Reps c G ds vs) (hy : G y = some (.lst ws)) (t : Reps c G es ws) : ItOk c (itVals (zipD ds es)) (Itz X.K x y) G σ := by
  refine ⟨fun _ _ _ => rfl, fun σ1 G' own' ρ' σ' H' ds1 s S' hl' e => ?_⟩
  cases e
  have q1 : SqL X.K H' x vs := .inl (.inl (S'.same _ _ (s _ _ hx)))
  have q2 : SqL X.K H' y ws := .inl (.inl (S'.same _ _ (s _ _ hy)))
  refine ⟨⟨vs, ws, q1, q2, by rw [zipD_len, r.length, t.length]; omega⟩, fun i d hd => ?_⟩
  obtain ⟨d1, d2, h1, h2, rfl⟩ := zipD_get hd
  obtain ⟨v1, e1, r1⟩ := (r.mono s).get h1
  obtain ⟨v2, e2, r2⟩ := (t.mono s).get h2
  refine ⟨⟨vs, ws, v1, v2, q1, q2, e1, e2⟩, fun z H2 hz => ?_⟩
  obtain ⟨T, z1, z2, rfl, hT, rfl, k1, k2⟩ := hz
  have := k1 vs q1
  rw [e1] at this
  cases this
  have := k2 ws q2
  rw [e2] at this
  cases this
  exact pair_new S' hT r1 r2
theorem it_zipT (hK : c.K = X.K) {x y : Addr} {ds es : List D} {vs ws : List V} (hx : SqT c.K G x vs) (r : Reps c G ds vs) (hy : SqT c.K G y ws) (t : Reps c G es ws) : ItOk c (itVals (zipD ds es)) (RZ.ItzT X.K x y) G σ := by
  refine ⟨fun _ _ _ => rfl, fun σ1 G' own' ρ' σ' H' ds1 s S' hl' e => ?_⟩
  cases e
  have q1 : SqT X.K H' x vs := by rw [← hK]; exact sqT_same S'.same (sqT_same s hx)
  have q2 : SqT X.K H' y ws := by rw [← hK]; exact sqT_same S'.same (sqT_same s hy)
  refine ⟨⟨vs, ws, q1, q2, by rw [zipD_len, r.length, t.length]; omega⟩, fun i d hd => ?_⟩
  obtain ⟨d1, d2, h1, h2, rfl⟩ := zipD_get hd
  obtain ⟨v1, e1, r1⟩ := (r.mono s).get h1
  obtain ⟨v2, e2, r2⟩ := (t.mono s).get h2
  refine ⟨⟨vs, ws, v1, v2, q1, q2, e1, e2⟩, fun z H2 hz => ?_⟩
  obtain ⟨T, z1, z2, rfl, hT, rfl, k1, k2⟩ := hz
  have := k1 vs q1
  rw [e1] at this
  cases this
  have := k2 ws q2
  rw [e2] at this
  cases this
  exact pair_new S' hT r1 r2
theorem di_zip (hK : c.K = X.K) {elts : List Expr} {kk : Nat} {tpos : Pos} (hg : Gl X "zip") (hm : X.mg "zip" = none) (ha : PA X [a, b] (tA c σ0 W fa))
    (hs : starEach [a, b] X.env = (false, eval a X.env) :: starEach [b] X.env := by rfl) (hpl : (backTo pos (starEach [b] X.env)).any (·.1) = false := by rfl) : PI X (.Tuple elts kk tpos) (.Call (.Name "zip" p) [a, b] [] pos) (tI c σ0 W (itZipV fa)) := by
  refine ⟨fun pins s σ H R I q => (RZ.pi_zipA hg hm ha hs hpl).run pins s σ H R I ?_⟩
  obtain ⟨G, own, ρ, S, q⟩ := q
  refine ⟨G, own, ρ, S, ?_⟩
  unfold itZipV M.bind at q
  cases e1 : fa ρ with
  | bad => rw [e1] at q; exact q
  | ex x ρ1 => rw [e1] at q; exact q
  | ok rs ρ1 =>
    rw [e1] at q
    intro G1 own1 H1 vs t1 S1 R1
    dsimp only at q
    unfold zipK at q
    split at q
    · cases R1 with
      | val h1 R1 =>
        cases R1 with
        | val h2 R1 =>
          cases R1
          cases h1 with
          | lst k1 r1 =>
            cases h2 with
            | lst k2 r2 => exact ⟨_, _, _, _, rfl, .inl ⟨.inl (.inl (S1.same _ _ k1)), .inl (.inl (S1.same _ _ k2)), q G1 own1 H1 _ t1 S1 (it_zipL k1 r1 k2 r2)⟩⟩
    · cases R1 with
      | val h1 R1 =>
        cases R1 with
        | val h2 R1 =>
          cases R1
          cases h1 with
          | tup k1 r1 =>
            cases h2 with
            | tup k2 r2 => exact ⟨_, _, _, _, rfl, .inr ⟨by rw [← hK]; exact sqT_same S1.same k1, by rw [← hK]; exact sqT_same S1.same k2, q G1 own1 H1 _ t1 S1 (it_zipT hK k1 r1 k2 r2)⟩⟩
    · exact q.elim
end
end DL

/-! DLy: dict.get with a default; targets that are tuples. -/
namespace DL
open PySem PySem.Spec PyProof.Rows L2
def isDctR (ρ : Ro) (r : R) : Bool := match deref ρ r with
  | some (.dct _) => true
  | _ => false
def findD (kvs : List (Key × D)) (k : Key) (x : D) : D := match kvs.find? fun kv => decide (kv.1 = k) with
  | some p => p.2
  | none => x
def getK (ro rk rx : R) : M R := fun ρ => match rx, deref ρ ro, (deref ρ rk).bind keyD with
  | .val x, some (.dct kvs), some k => .ok (.val (findD kvs k x)) ρ
  | _, _, _ => .bad
def eGet2 (fo fk fx : M R) : M R := fo.bind fun ro ρ => if isDctR ρ ro = true then (fk.bind fun rk => fx.bind fun rx => getK ro rk rx) ρ else .bad
section
variable {X : Cx} {c : Cn} {σ0 : St} {W : WX} {σ : St} {ρ : Ro} {G H : Hp} {own : Own} {o e f : Expr} {apos cpos : Pos} {fo fk fx : M R}
theorem isDctR_rd {r : R} (h : isDctR ρ r = true) : ∃ kvs, deref ρ r = some (.dct kvs) := by
  unfold isDctR at h
  split at h
  · exact ⟨_, by assumption⟩
  · cases h
theorem keys_miss {ds : List (Key × D)} {kvs : List (Key × V)} {k : Key} (h : ds.map (·.1) = kvs.map (·.1)) (e : ds.find? (fun kv => decide (kv.1 = k)) = none) : valV kvs k = none := by
  induction ds generalizing kvs with
  | nil =>
    cases kvs with
    | nil => rfl
    | cons _ _ => cases h
  | cons q ds ih =>
    cases kvs with
    | nil => cases h
    | cons w kvs =>
      rw [List.map_cons, List.map_cons] at h
      injection h with h1 h2
      rw [List.find?_cons] at e
      by_cases z : q.1 = k
      · rw [decide_eq_true z] at e; cases e
      · rw [decide_eq_false z] at e
        have hv := ih h2 e
        unfold valV at hv ⊢
        rw [List.find?_cons, decide_eq_false fun y => z (h1.trans y)]
        exact hv
theorem de_get2 (hu : X.A.units + 1 < cLine) (ho : PE X o (tD c σ0 W fo)) (he : PE X e (tD c σ0 W fk)) (hf : PE X f (tD c σ0 W fx)) (m : M2 X o "get" apos e f cpos) :
    PE X (.Call (.Attribute o "get" apos) [e, f] [] cpos) (tD c σ0 W (eGet2 fo fk fx)) :=
  PE.imp (pe_dget2 hu ho he hf m) fun σ H Q q => by
    obtain ⟨G, own, ρ, S, q⟩ := q
    refine XP.bind S q fun ro ρ1 G1 own1 H1 v t1 S1 R1 h1 => ?_
    by_cases hi : isDctR ρ1 ro = true
    · rw [if_pos hi] at h1
      obtain ⟨kvs, ed⟩ := isDctR_rd hi
      obtain ⟨a, ws, rfl, hH, hk, rr⟩ := deref_rd S1 R1 ed
      refine ⟨a, rfl, .inl ⟨ws, .inl hH⟩, ?_⟩
      refine XP.bind S1 (XP.from t1 h1 (relR_mono c)) fun rk ρ2 G2 own2 H2 y t2 S2 R2 h2 => ?_
      refine XP.bind S2 (XP.from t2 h2 (relR_mono c)) fun rx ρ3 G3 own3 H3 z t3 S3 R3 h3 => ?_
      replace h3 := XP.from t3 h3 (relR_mono c)
      unfold getK at h3
      split at h3
      · rename_i x kvs2 k e1 e2
        obtain ⟨dk, e3, e4⟩ := Option.bind_eq_some_iff.mp e2
        obtain ⟨a2, ws2, ea, hH2, hk2, rr2⟩ := deref_rd S3 ((R1.step t2).step t3) e1
        cases ea
        have hy := keyD_rep (deref_rd S3 (R2.step t3) e3) e4
        refine ⟨_, .inl ⟨ws2, k, .inl hH2, hy, rfl⟩, ?_⟩
        unfold findD at h3
        cases ef : kvs2.find? (fun kv => decide (kv.1 = k)) with
        | none =>
          rw [ef] at h3
          rw [keys_miss hk2 ef]
          exact XP.ret S3 h3 R3
        | some p =>
          rw [ef] at h3
          obtain ⟨w, hw, rw'⟩ := keys_get hk2 rr2 ef
          rw [hw]
          exact XP.ret S3 h3 rw'
      · exact h3.elim
    · rw [if_neg hi] at h1; exact h1.elim
def tgtR (tgt : Tgt) (r : R) : S := fun ρ => match r with
  | .val d => (match tgt d ρ with
    | some ρ' => .nx ρ'
    | none => .bad)
  | _ => .bad
def sTgt (tgt : Tgt) (f : M R) : S := sBind f (tgtR tgt)
theorem ds_tgt {tg : Expr} {ts : List Nat} {tgt : Tgt} {f1 : M R} {pos : Pos} (he : PE X e (tD c σ0 W f1)) (hg : PG X tg (tG c σ0 ts tgt)) (hs : swapsWithSole [tg] e pos.line X.env = pure false := by rfl) (hw : swappedStores [tg] e X.env = pure none := by rfl)
    (h1 : (assignEach [tg] X.env).map (·.2) = [assign tg X.env] := by rfl) : PS X (.Assign [tg] e pos) (tS c σ0 W (sTgt tgt f1)) :=
  PS.imp (ps_asg he hg hs hw h1) fun E σ H q => by
    obtain ⟨G, own, ρ, S, q⟩ := q
    refine SPo.bind S q fun r ρ1 G1 own1 H1 v t1 S1 R1 h1 => ?_
    cases r with
    | val d =>
      have h1 : SPo c σ0 W σ ρ G own H E (match tgt d ρ1 with
        | some ρ' => .nx ρ'
        | none => .bad) := h1
      cases e1 : tgt d ρ1 with
      | none => rw [e1] at h1; exact h1.elim
      | some ρ' =>
        rw [e1] at h1
        exact ⟨G1, own1, ρ1, d, S1, R1, ρ', e1, fun σ' own' off t2 S2 => h1 σ' G1 own' H1 (t1.trans t2) S2⟩
    | _ => exact h1.elim
end
end DL

/-! DLz: the law's head over promises with no guard around. -/
namespace DL
open PySem PySem.Spec PyProof.Rows L2
section
variable {P : Program} {w : World} {K : PySem.W.Frag} {mg mb : Str → Option Value} {k : Nat} {fa sa : Addr} {fd : FuncData} {pn : Str} {sp : Sp} {sh : Shared} {us : List Value} {zs : List Int}
/-- how the caller hears of it -/
abbrev EndG (sh : Shared) (r : Except Value Flow) (s' : Shared) : Prop := r = .ok (.ret (.bool true)) ∧ OldK sh.heap s'.heap ∧ s'.os = sh.os ∧ AllBare s'.gens
/-- from an abstract heap in which at most the script is told -/
theorem headG_at {H : Hp} (inK : K.In sh.heap) (gN : sh.heap.Ns mainGlobals mg) (bN : sh.heap.Ns builtinsNs mb) (boot : ∀ y : Str, y ≠ "__name__" → mb y = bootBuiltins y) (free : sh.heap.NoLimit) (noGen : sh.gens = #[])
    (obj : sh.heap.get? sa = some { cls := .type "list", data := .seq us.toArray }) (room : Room k callerA) (prom : ∀ B : Heap, K.In B → B.Ns mainGlobals mg → FnG P w K mg B k fa fd [pn] sp)
    (binds : ∀ (s : Shared) (u : Value), BindsTo s fd ⟨[u], []⟩ [(pn, u)]) (want : sp [.ref sa] H (fun v _ => v = .bl true) fun _ _ _ => False) (hO : Only H) (hok : HOk P w H sh.heap) (one : ∀ b, H b ≠ none → b = sa) (notK : H sa ≠ none → K.lookup sa = none) :
    codeAny (model P w) callerA (.call (.ref fa) ⟨[.ref sa], []⟩) (EndG sh) sh := by
  have back : ∀ {b : Addr} {ob : Obj}, sh.heap.get? b = some ob → H b = none → (hidT sh.heap H).get? b = some ob := fun e n => hidT_get e n
  have plainDict : ∀ {b : Addr} {ob : Obj} {ds : Array DictEntry} {n : Nat}, sh.heap.get? b = some ob → ob.data = .dict ds n → H b = none := by
    intro b ob ds n e dd
    by_cases z : H b = none
    · exact z
    · cases one b z
      cases obj.symm.trans e
      exact nomatch (show Data.seq us.toArray _ = Data.dict ds n from dd)
  have nsB : ∀ {b : Addr} {f : Str → Option Value}, sh.heap.Ns b f → (hidT sh.heap H).Ns b f := by
    rintro b f ⟨ob, ds, n, e, dd, rest⟩
    exact ⟨ob, ds, n, back e (plainDict e dd), dd, rest⟩
  have inB : K.In (hidT sh.heap H) := by
    intro b ob e
    refine back (inK b ob e) ?_
    by_cases z : H b = none
    · exact z
    · cases one b z
      rw [notK z] at e
      cases e
  obtain ⟨mc, c1, c2⟩ := free
  have modB : Mod K mg (hidT sh.heap H) := ⟨inB, nsB gN, ⟨mb, nsB bN, boot⟩, mc, nsB c1, c2⟩
  have env : Env0 P w K mg (hidT sh.heap H) callerA [] sh H := ⟨rfl, modB, fun _ _ z => of_hidT z, Nat.le_of_eq (hidT_size _ _), trivial, fun _ z => (List.not_mem_nil z).elim, hok, .of_eq noGen⟩
  refine codeAny_mono ((prom _ inB (nsB gN)).run callerA [] sh H ⟨[.ref sa], []⟩ [.ref sa] [.ref sa] _ _ room rfl env (binds sh _) (.cons rfl .nil) want) ?_
  rintro (er | fl) s' got
  · obtain ⟨_, _, _, _, _, _, _, _, _, _, _, _, z⟩ := got
    exact z.elim
  cases fl with
  | ret u =>
    obtain ⟨v, H', os, bare, un, hok', rv, yes⟩ := got
    cases (show v = .bl true from yes)
    cases (show u = Value.bool true from rv)
    refine ⟨rfl, OldK.of_keep fun b ob e => ?_, os, bare⟩
    rcases hO b with z | ⟨o2, xs, z⟩
    · exact un.keep b ob e z (fun hb => List.not_mem_nil hb) (fun hb => List.not_mem_nil hb)
    · have e1 := (hok b _ z).1
      cases e.symm.trans e1
      exact (hok' b _ (un.frzs b _ _ z)).1
  | next => exact got.elim
  | brk => exact got.elim
  | cont => exact got.elim
theorem headG (inK : K.In sh.heap) (gN : sh.heap.Ns mainGlobals mg) (bN : sh.heap.Ns builtinsNs mb) (boot : ∀ y : Str, y ≠ "__name__" → mb y = bootBuiltins y) (free : sh.heap.NoLimit) (noGen : sh.gens = #[])
    (obj : sh.heap.get? sa = some { cls := .type "list", data := .seq us.toArray }) (areInts : IntsAre us zs) (short : zs.length ≤ sizeLine) (room : Room k callerA)
    (prom : ∀ B : Heap, K.In B → B.Ns mainGlobals mg → FnG P w K mg B k fa fd [pn] sp) (binds : ∀ (s : Shared) (u : Value), BindsTo s fd ⟨[u], []⟩ [(pn, u)])
    (want : ∀ H : Hp, Only H → SqL K H sa (zs.map V.int) → sp [.ref sa] H (fun v _ => v = .bl true) fun _ _ _ => False) : codeAny (model P w) callerA (.call (.ref fa) ⟨[.ref sa], []⟩) (EndG sh) sh := by
  have rel : Vals (zs.map V.int) us := vals_ints areInts
  cases hk : K.lookup sa with
  | some ob =>
    cases obj.symm.trans (inK sa ob hk)
    refine headG_at (H := fun _ => none) inK gN bN boot free noGen obj room prom binds (want _ (fun _ => .inl rfl) (.inr ⟨_, us.toArray, _, hk, rfl, rfl, rfl, ?_, ?_⟩)) (fun _ => .inl rfl) (fun _ _ z => nomatch z) (fun _ z => (z rfl).elim) fun z => (z rfl).elim
    · rw [List.size_toArray, areInts.length]; exact short
    · rw [List.toList_toArray]; exact rel
  | none =>
    have at1 : upd (fun _ => none) sa (.frz { cls := .type "list", data := .seq us.toArray } (.lst (zs.map V.int))) sa = some (.frz { cls := .type "list", data := .seq us.toArray } (.lst (zs.map V.int))) := upd_same
    have off : ∀ b, b ≠ sa → upd (fun _ => none) sa (.frz { cls := .type "list", data := .seq us.toArray } (.lst (zs.map V.int))) b = none := fun b z => upd_ne z
    have only : Only (upd (fun _ => none) sa (.frz { cls := .type "list", data := .seq us.toArray } (.lst (zs.map V.int)))) := fun b => by
      by_cases z : b = sa
      · cases z; exact .inr ⟨_, _, at1⟩
      · exact .inl (off b z)
    refine headG_at inK gN bN boot free noGen obj room prom binds (want _ only (.inl (.inr ⟨_, at1⟩))) only (fun b o e => ?_) (fun b z => ?_) fun _ => hk
    · by_cases z : b = sa
      · cases z
        cases at1.symm.trans e
        exact ⟨obj, by rw [List.length_map]; exact short, us, _, rel, obj⟩
      · cases (off b z).symm.trans e
    · by_cases y : b = sa
      · exact y
      · exact (z (off b y)).elim
end
/-- the walk that a law's file ends in, from the law's promise with no guard around -/
theorem walkG {l : PySem.W.OpenLaw} {n k : Nat} {q : Program} {loose : List Str} {XP : (Str → Option Value) → Heap → Prop} {YP : World → Heap → Prop} {d : DefRec} {K : Params → PySem.W.Frag} {sp : World → Sp} {pn : Str}
    (most : l.most = some n) (small : n ≤ sizeLine) (noDef : d.params.defaults = []) (room : Room k callerA) (inY : ∀ (w : World) (h : Heap), YP w h → (K w.params).In h)
    (prom : ∀ (w : World) (mg : Str → Option Value) (fa : Addr) (h : Heap), (K w.params).In h → h.Ns mainGlobals mg → mg d.name = some (.ref fa) → ∃ fd : FuncData, (∀ (s : Shared) (u : Value), BindsTo s fd ⟨[u], []⟩ [(pn, u)]) ∧
        ∀ B : Heap, (K w.params).In B → B.Ns mainGlobals mg → FnG l.prog w (K w.params) mg B k fa fd [pn] (sp w))
    (want : ∀ (w : World) (H : Hp) (a : Addr) (zs : List Int), zs.length ≤ n → Only H → SqL (K w.params) H a (zs.map V.int) → sp w [.ref a] H (fun v _ => v = .bl true) fun _ _ _ => False) : PySem.W.WalkO q loose XP YP l.row.toRowW d [] (fun f vs => PySem.call f vs) := by
  refine Att.attach_call most noDef fun w s₀ sh mg mb fa o pm cd doc sa us zs G Y ho hd hcd hmg obj areInts len noGen => ?_
  have inK := inY w _ Y
  obtain ⟨fd, binds, pr⟩ := prom w mg fa _ inK G.T.g hmg
  exact headG inK G.T.g G.T.b G.T.builtins G.T.nolimit noGen obj areInts (Nat.le_trans len small) room pr binds fun H hO hS => want w H sa zs len hO hS
end DL

/-! DLza: min and max of two integers. -/
namespace DL
open PySem PySem.Spec PyProof.Rows L2
def cMin2 : List D → Option R
  | [.int i, .int j] => vI (if j < i then j else i)
  | _ => none
def cMax2 : List D → Option R
  | [.int i, .int j] => vI (if j > i then j else i)
  | _ => none
section
variable {X : Cx} {c : Cn}
theorem cb_min2 (hc : X.calm = true) : CallR X (.builtin "min") (rDn c cMin2) := by
  intro pins s σ H xs us Q I r ⟨G, ds, rr, sg, hr, ho, k⟩
  unfold cMin2 at ho
  split at ho
  · cases ho
    cases hr with
    | cons h1 hr =>
      cases hr with
      | cons h2 hr =>
        cases hr
        cases h1
        cases h2
        exact call_min2 hc pins s σ H _ us Q I r ⟨_, _, rfl, k G H _ (New.refl sg) (Rep.int _)⟩
  · cases ho
theorem cb_max2 (hc : X.calm = true) : CallR X (.builtin "max") (rDn c cMax2) := by
  intro pins s σ H xs us Q I r ⟨G, ds, rr, sg, hr, ho, k⟩
  unfold cMax2 at ho
  split at ho
  · cases ho
    cases hr with
    | cons h1 hr =>
      cases hr with
      | cons h2 hr =>
        cases hr
        cases h1
        cases h2
        exact call_max2 hc pins s σ H _ us Q I r ⟨_, _, rfl, k G H _ (New.refl sg) (Rep.int _)⟩
  · cases ho
end
end DL

/-! DLzb: how promises are put together. -/
namespace DL
open PySem PySem.Spec PyProof.Rows L2
/-- a statement of a class -/
def clsAt (s : Stmt) (j : Nat) : Stmt := match s with
  | .ClassDef _ _ _ body .. => body.getD j (.Pass ⟨0, 0, 0, 0⟩)
  | _ => .Pass ⟨0, 0, 0, 0⟩
theorem len1 {fa : M (List R)} {n : Nat} (l : ∀ ρ rs ρ', fa ρ = .ok rs ρ' → rs.length = n) : ∀ ρ rs ρ', fa ρ = .ok rs ρ' → rs.length + 1 = n + 1 := fun ρ rs ρ' h => congrArg (· + 1) (l ρ rs ρ' h)
/-- a def of a class: where it stands -/
structure MetK (K : PySem.W.Frag) (x qual : Str) (st : Stmt) (ps : List Str) (f : Addr) (fd : FuncData) : Prop where
  fn : Fun K x qual st f fd
  bi : ∀ us : List Value, us.length = ps.length → bindArgs fd ⟨us, []⟩ = pure (ps.zip us)
section
variable {P : Program} {w : World} {K : PySem.W.Frag} {mg : Str → Option Value} {base : Heap} {c : Cn} {k n : Nat} {x qual : Str} {st : Stmt} {f : Addr} {fd : FuncData} {N ps : List Str} {s : S}
abbrev BodyG (P : Program) (w : World) (K : PySem.W.Frag) (mg : Str → Option Value) (base : Heap) (c : Cn) (k : Nat) (qual : Str) (st : Stmt) (f : Addr) (N : List Str) (s : S) : Prop :=
  ∀ (cdv : Value) (A : Around) (outer : List Env) (sh : Shared) (H : Hp) (E : XK) (σ0 : St) (W : WX), Room k (cxOf (L2.CX P w) P w K mg base N qual (defScope st) f cdv A outer sh H E).A → NoG (cxOf (L2.CX P w) P w K mg base N qual (defScope st) f cdv A outer sh H E).A →
      PassesOwn (model P w) (cxOf (L2.CX P w) P w K mg base N qual (defScope st) f cdv A outer sh H E).A (cxOf (L2.CX P w) P w K mg base N qual (defScope st) f cdv A outer sh H E).env (cxOf (L2.CX P w) P w K mg base N qual (defScope st) f cdv A outer sh H E).xe →
      Takes (cxOf (L2.CX P w) P w K mg base N qual (defScope st) f cdv A outer sh H E) W → PSs (cxOf (L2.CX P w) P w K mg base N qual (defScope st) f cdv A outer sh H E) (defBody st) (tS c σ0 W s)
theorem callG (D : DefK K mg x qual st ps f fd) (Sc : FnScope N ps (defScope st)) (hn : N.length - ps.length = n) (hb : BodyG P w K mg base c k qual st f N s) : CallG P w K mg base c (k + 1) x ps (runF n s) f fd :=
  ⟨fnG_D D.fn Sc hn hb, D.mg, D.fn.kp, D.bi⟩
theorem makeG {C : Addr} {y : Str} (D : MetK K x qual st ps f fd) (M : Mk K C f) (hm : mg y = some (.ref C)) (hc : c.ca y = some C) (Sc : FnScope N ps (defScope st)) (hn : N.length - ps.length = n) (hb : BodyG P w K mg base c k qual st f N s) : MakeG P w K mg base c (k + 1) y ps (runF n s) C f fd :=
  ⟨M, fnG_D D.fn Sc hn hb, hm, hc, D.bi⟩
theorem methG {C : Addr} {y : Str} (D : MetK K x qual st ps f fd) (cl : Cls K C) (M : Meth K C x f) (hc : c.ca y = some C) (Sc : FnScope N ps (defScope st)) (hn : N.length - ps.length = n) (hb : BodyG P w K mg base c k qual st f N s) : MethG P w K mg base c (k + 1) y x ps (runF n s) C f fd :=
  ⟨cl, M, fnG_D D.fn Sc hn hb, hc, D.bi⟩
theorem propG {C q : Addr} {y : Str} (D : MetK K x qual st ps f fd) (cl : Cls K C) (M : PropOf K C x q f) (hc : c.ca y = some C) (Sc : FnScope N ps (defScope st)) (hn : N.length - ps.length = n) (hb : BodyG P w K mg base c k qual st f N s) : PropG P w K mg base c (k + 1) y x ps (runF n s) C q f fd :=
  ⟨cl, M, fnG_D D.fn Sc hn hb, hc, D.bi⟩
theorem FnG.imp {sp sp2 : Sp} (h : FnG P w K mg base k f fd ps sp) (i : ∀ vs H Q E, sp2 vs H Q E → sp vs H Q E) : FnG P w K mg base k f fd ps sp2 :=
  ⟨fun vs H Q E q => h.len vs H Q E (i vs H Q E q), fun A outer s H args us vs Q E hr ng env b rel q => h.run A outer s H args us vs Q E hr ng env b rel (i vs H Q E q)⟩
theorem law_fnG {p : Str} {F : Ro → Res R} {fa : Addr} (hK : c.K = K) (hF : ∀ ns : List Int, ns.length ≤ 63 → ∃ a', F [.fz (.scr ns)] = .ok (.val (.bl true)) a') (hm : mg x = some (.ref fa)) (D : DefK K mg x x st [p] f fd)
    (h : ∀ B : Heap, K.In B → B.Ns mainGlobals mg → CallG P w K mg B c k x [p] F f fd) : ∃ fd : FuncData, (∀ (s : Shared) (v : Value), BindsTo s fd ⟨[v], []⟩ [(p, v)]) ∧ ∀ B : Heap, K.In B → B.Ns mainGlobals mg → FnG P w K mg B k fa fd [p] (spLaw K) := by
  cases hm.symm.trans D.mg
  exact ⟨fd, fun s v => .of_eq (D.bi [v] rfl), fun B X G => (h B X G).ok.imp fun vs H Q E q => law_end hF (by rw [hK]; exact q)⟩
end
end DL

/-! DLzc: an empty dict. -/
namespace DL
open PySem PySem.Spec PyProof.Rows L2
def eDct0 : M R := M.ret (.nw (.dct []))
section
variable {X : Cx} {c : Cn} {σ0 : St} {W : WX} {pos : Pos}
theorem de_dct0 : PE X (.Dict [] [] pos) (tD c σ0 W eDct0) := PE.imp pe_dnewK fun σ H Q q p hp => by
  obtain ⟨G, own, ρ, S, q⟩ := q
  have gp : G p = none := by
    cases e : G p with
    | none => rfl
    | some o => rw [S.same p o e] at hp; cases hp
  have n : New G H G (upd H p (.dK [])) := ⟨fun b o e => by rw [upd_ne (ne_of_none e hp)]; exact e, Same.refl _, fun b o e => by rw [upd_ne (ne_of_none e gp)]; exact S.same b o e, fun b o e => .inl e⟩
  refine XP.new S q n ⟨fun b => b = p, ⟨p, [], rfl, rfl, upd_same, rfl, .nil⟩, fun b hb => ?_⟩
  subst hb
  exact ⟨gp, ⟨_, upd_same⟩, hp⟩
end
theorem bo_min : bootBuiltins "min" = some (.builtin "min") := by decide +kernel
theorem bo_max : bootBuiltins "max" = some (.builtin "max") := by decide +kernel
theorem bo_sorted : bootBuiltins "sorted" = some (.builtin "sorted") := by decide +kernel
theorem bo_repr : bootBuiltins "repr" = some (.builtin "repr") := by decide +kernel
end DL

/-! DLze: what is assigned is frozen at once. -/
namespace DL
open PySem PySem.Spec PyProof.Rows L2
section
variable {X : Cx} {c : Cn} {σ0 : St} {W : WX} {σ : St} {ρ : Ro} {G H : Hp} {own : Own}
theorem tD_fz {f : M R} {Q : VK} (q : tD c σ0 W (eFz f) σ H Q) : tD c σ0 W f σ H Q := by
  obtain ⟨G, own, ρ, S, q⟩ := q
  refine XP.bind S q fun r ρ1 G1 own1 H1 v t1 S1 R1 h1 => ?_
  cases r with
  | val d => exact h1 G1 own1 H1 v t1 S1 R1
  | nw o =>
    obtain ⟨P, x, k⟩ := R1
    exact h1 (frzG G1 H1 P) own1 H1 v (frz_tr t1 fun b p => ⟨(k b p).1, (k b p).2.2.2⟩) (S1.frz fun b p => ⟨(k b p).1, (k b p).2.1⟩) (x.frz fun b p => (k b p).1)
  | sl j =>
    unfold frzR at h1
    dsimp only at h1
    cases q : ρ1[j]? with
    | none => rw [q] at h1; exact h1.elim
    | some s =>
      rw [q] at h1
      cases s with
      | no => exact h1.elim
      | fz d => exact h1.elim
      | ln k o => exact h1.elim
      | ow k o =>
        cases k with
        | true => exact h1.elim
        | false =>
          obtain ⟨G', own', t2, S2, z, _⟩ := S1.freeze t1 q R1
          exact h1 G' own' H1 v t2 S2 z
theorem ds_setCompF {i : Nat} {y : Str} {py : Pos} {elt tg iter : Expr} {ifs : List Expr} {scope : Scope} {own : List (Str × Nat)} {pos spos : Pos} {f : M Iter} {ts : List Nat} {tgt : Tgt} {cond : M Bool} {fe : M R} (hc : X.calm = true) (hN : X.N.Nodup) (hy : X.N[i]? = some y) (hyl : X.env.scope.names.lookup y = some .local)
    (hsw : swapsWith (.ListComp elt [⟨tg, iter, ifs, 0⟩] scope pos) (some (.Name y py)) spos.line X.env = pure true) (hi : PI X tg iter (tI c σ0 W f)) (ok : BlkOk X.N X.env.scope scope own) (hu : Und f) (hts : ∀ i ∈ ts, i ∈ own.map (·.2))
    (hg : ∀ (s : Shared) (H : Hp) (C : Addr) (cl : List (Str × Addr)) (fp : List Addr), PG (X.blk s H scope (compEnvC scope cl C X.env) fp) tg (tG c σ0 ts tgt)) (ht : ∀ (s : Shared) (H : Hp) (C : Addr) (cl : List (Str × Addr)) (fp : List Addr), PTs (X.blk s H scope (compEnvC scope cl C X.env) fp) ifs (tT c σ0 (fun _ _ _ _ => False) cond))
    (he : ∀ (s : Shared) (H : Hp) (C : Addr) (cl : List (Str × Addr)) (fp : List Addr), PE (X.blk s H scope (compEnvC scope cl C X.env) fp) elt (tD c σ0 (fun _ _ _ _ => False) fe)) (hs : ∀ x, foldedSetIterable iter X.env x = pure x := by intro _; rfl) :
    PS X (.Assign [.Name y py] (.ListComp elt [⟨tg, iter, ifs, 0⟩] scope pos) spos) (tS c σ0 W (sAsg i (eFz (eComp f tgt cond fe (own.map (·.2)))))) :=
  ds_asg (PS.imp (ps_setLc hc hN hy hyl hsw hi ok hg ht he hs) fun E σ H q => tLc_of hts (tD_fz q) hu)
theorem ds_setDCompF {i : Nat} {y : Str} {py : Pos} {kx vx tg iter : Expr} {ifs : List Expr} {scope : Scope} {own : List (Str × Nat)} {pos spos : Pos} {f : M Iter} {ts : List Nat} {tgt : Tgt} {cond : M Bool} {fk fv : M R} (hc : X.calm = true) (hN : X.N.Nodup) (hy : X.N[i]? = some y) (hyl : X.env.scope.names.lookup y = some .local)
    (hsw : swapsWith (.DictComp kx vx [⟨tg, iter, ifs, 0⟩] scope pos) (some (.Name y py)) spos.line X.env = pure true) (hi : PI X tg iter (tI c σ0 W f)) (ok : BlkOk X.N X.env.scope scope own) (hu : Und f) (hts : ∀ i ∈ ts, i ∈ own.map (·.2))
    (hg : ∀ (s : Shared) (H : Hp) (C : Addr) (cl : List (Str × Addr)) (fp : List Addr), PG (X.blk s H scope (compEnvC scope cl C X.env) fp) tg (tG c σ0 ts tgt)) (ht : ∀ (s : Shared) (H : Hp) (C : Addr) (cl : List (Str × Addr)) (fp : List Addr), PTs (X.blk s H scope (compEnvC scope cl C X.env) fp) ifs (tT c σ0 (fun _ _ _ _ => False) cond))
    (hk : ∀ (s : Shared) (H : Hp) (C : Addr) (cl : List (Str × Addr)) (fp : List Addr), PE (X.blk s H scope (compEnvC scope cl C X.env) fp) kx (tD c σ0 (fun _ _ _ _ => False) fk))
    (he : ∀ (s : Shared) (H : Hp) (C : Addr) (cl : List (Str × Addr)) (fp : List Addr), PE (X.blk s H scope (compEnvC scope cl C X.env) fp) vx (tD c σ0 (fun _ _ _ _ => False) fv)) (hs : ∀ x, foldedSetIterable iter X.env x = pure x := by intro _; rfl) :
    PS X (.Assign [.Name y py] (.DictComp kx vx [⟨tg, iter, ifs, 0⟩] scope pos) spos) (tS c σ0 W (sAsg i (eFz (eDComp f tgt cond fk fv (own.map (·.2)))))) :=
  ds_asg (PS.imp (ps_setDc hc hN hy hyl hsw hi ok hg ht hk he hs) fun E σ H q => tDc_of hts (tD_fz q) hu)
end
end DL

/-! DLzd: the later constructs, run; statements about a def's end. -/
namespace DL
open PySem PySem.Spec
section
variable {α β : Type} {ρ ρ' : Ro} {f fo fk fx : M R} {fa : M (List R)} {t : M Bool} {s : S} {tgt : Tgt} {elt : M R} {cond : M Bool} {vs : List Nat}
@[simp] theorem x_bad : sBad ρ = .bad := rfl
/-! ### classes -/
def fldK (f : Str) : Option D → Option R
  | some d => some (.val d)
  | none => none
theorem r_fld {n g : Str} {fs : List (Str × D)} {d : D} (h : fs.lookup g = some d) : opFld n g (.ins n fs) = some (.val d) := by
  show (if n = n then (fs.lookup g).map R.val else none) = _
  rw [if_pos rfl, h]; rfl
@[simp] theorem x_sfld {j : Nat} {n fl : Str} : sFldD j n fl f ρ = (eFz f ρ).andS (fldR j n fl) := rfl
def fldRK (j : Nat) (n fl : Str) (d : D) (ρ : Ro) : Option Sl → Out
  | some (.ow k (.ins m fs)) => if (m = n ∧ fs.length < 1000) then .nx (ρ.set j (.ow k (.ins m (putFD fl d fs)))) else .bad
  | _ => .bad
@[simp] theorem x_fldR {j : Nat} {n fl : Str} {d : D} : fldR j n fl (.val d) ρ = fldRK j n fl d ρ (ρ[j]?) := by
  unfold fldR fldRK
  cases ρ[j]? with
  | none => rfl
  | some s => cases s with
    | ow k o => cases o <;> rfl
    | _ => rfl
@[simp] theorem fldRK_s {j : Nat} {n fl m : Str} {d : D} {k : Bool} {fs : List (Str × D)} : fldRK j n fl d ρ (some (.ow k (.ins m fs))) = if (m = n ∧ fs.length < 1000) then .nx (ρ.set j (.ow k (.ins m (putFD fl d fs)))) else .bad := rfl
def takeM (ρ ρ' : Ro) : Option Sl → Res R
  | some (.ow false o) => .ok (.nw o) (ρ'.take ρ.length)
  | _ => .bad
@[simp] theorem takeM_s {o : OV} : takeM ρ ρ' (some (.ow false o)) = .ok (.nw o) (ρ'.take ρ.length) := rfl
def makeK (ρ : Ro) : Res R → Res R
  | .ok (.val .non) ρ' => takeM ρ ρ' (ρ'[ρ.length]?)
  | .ex x ρ' => .ex x (ρ'.take ρ.length)
  | _ => .bad
@[simp] theorem makeK_ok : makeK ρ (.ok (.val .non) ρ') = takeM ρ ρ' (ρ'[ρ.length]?) := rfl
@[simp] theorem makeK_ex {x : Exn} : makeK ρ (.ex x ρ') = .ex x (ρ'.take ρ.length) := rfl
@[simp] theorem x_makeX {n : Str} {F : Ro → Res R} {rs : List R} : makeX n F rs ρ = makeK ρ (callR F (.sl ρ.length :: rs) (ρ ++ [.ow false (.ins n [])])) := by
  unfold makeX makeK takeM
  cases callR F (.sl ρ.length :: rs) (ρ ++ [.ow false (.ins n [])]) with
  | ok r ρ' => cases r with
    | val d => cases d <;> first | rfl | (split <;> simp_all)
    | _ => rfl
  | ex x ρ' => rfl
  | bad => rfl
@[simp] theorem x_eMakeX {n : Str} {F : Ro → Res R} : eMakeX n F fa ρ = (fa ρ).and (makeX n F) := rfl
@[simp] theorem insIs_s {n : Str} {fs : List (Str × D)} : insIs n (some (.ins n fs)) = true := decide_eq_true rfl
theorem insOk_s {n m : Str} {fs : List (Str × D)} (h : fs.lookup m = none) : insOk n m (some (.ins n fs)) = true := by
  show (decide (n = n) && (fs.lookup m).isNone) = true
  rw [h, decide_eq_true rfl]; rfl
def Res.oks : Res R → Res R
  | .ok r ρ => .ok r ρ
  | _ => .bad
@[simp] theorem oks_ok {r : R} : (Res.ok r ρ).oks = .ok r ρ := rfl
@[simp] theorem x_callN {F : Ro → Res R} {rs : List R} : callN F rs ρ = (callR F rs ρ).oks := by
  unfold callN Res.oks
  cases callR F rs ρ <;> rfl
@[simp] theorem x_prpK {n : Str} {F : Ro → Res R} {r : R} : prpK n F r ρ = if insIs n (deref ρ r) = true then callN F [fzR r] ρ else .bad := rfl
@[simp] theorem x_eProp {n : Str} {F : Ro → Res R} : eProp n F fo ρ = (fo ρ).and (prpK n F) := rfl
@[simp] theorem x_mtgK {n m : Str} {F : Ro → Res R} {r : R} : mtgK n m F fa r ρ = if insOk n m (deref ρ r) = true then (fa ρ).and (fun rs => callR F (fzR r :: rs)) else .bad := rfl
@[simp] theorem x_eMethG {n m : Str} {F : Ro → Res R} : eMethG n m F fo fa ρ = (fo ρ).and (mtgK n m F fa) := rfl
/-! ### zip, get, targets, dicts -/
@[simp] theorem x_zip : itZipV fa ρ = (fa ρ).and zipK := rfl
@[simp] theorem zipK_l {ds es : List D} : zipK [.val (.lst ds), .val (.lst es)] ρ = .ok (itVals (zipD ds es)) ρ := rfl
@[simp] theorem zipK_t {ds es : List D} : zipK [.val (.tup ds), .val (.tup es)] ρ = .ok (itVals (zipD ds es)) ρ := rfl
def getKK (x : D) (ρ : Ro) : Option D → Option L2.Key → Res R
  | some (.dct kvs), some k => .ok (.val (findD kvs k x)) ρ
  | _, _ => .bad
@[simp] theorem getKK_s {x : D} {kvs : List (L2.Key × D)} {k : L2.Key} : getKK x ρ (some (.dct kvs)) (some k) = .ok (.val (findD kvs k x)) ρ := rfl
@[simp] theorem x_getK {ro rk : R} {x : D} : getK ro rk (.val x) ρ = getKK x ρ (deref ρ ro) ((deref ρ rk).bind keyD) := by
  unfold getK getKK
  cases deref ρ ro with
  | none => rfl
  | some d => cases (deref ρ rk).bind keyD <;> cases d <;> rfl
def isDK : Option D → Bool
  | some (.dct _) => true
  | _ => false
@[simp] theorem isDK_s {kvs : List (L2.Key × D)} : isDK (some (.dct kvs)) = true := rfl
@[simp] theorem x_isD {r : R} : isDctR ρ r = isDK (deref ρ r) := rfl
@[simp] theorem x_get2 : eGet2 fo fk fx ρ = (fo ρ).and (fun ro ρ => if isDctR ρ ro = true then (fk ρ).and (fun rk => fx.bind fun rx => getK ro rk rx) else .bad) := rfl
@[simp] theorem kd_i {i : Int} : keyD (.int i) = some (.inl i) := rfl
@[simp] theorem kd_s {x : Str} : keyD (.str x) = some (.inr x) := rfl
def tgO : Option Ro → Out
  | some ρ' => .nx ρ'
  | none => .bad
@[simp] theorem tgO_s : tgO (some ρ) = .nx ρ := rfl
@[simp] theorem x_tgtR {d : D} : tgtR tgt (.val d) ρ = tgO (tgt d ρ) := by
  show (match tgt d ρ with
    | some ρ' => Out.nx ρ'
    | none => .bad) = _
  cases tgt d ρ <;> rfl
@[simp] theorem x_stgt : sTgt tgt f ρ = (f ρ).andS (tgtR tgt) := rfl
@[simp] theorem x_dct0 : eDct0 ρ = .ok (.nw (.dct [])) ρ := rfl
@[simp] theorem r_min {i j : Int} : cMin2 [.int i, .int j] = some (.val (.int (if j < i then j else i))) := rfl
@[simp] theorem r_max {i j : Int} : cMax2 [.int i, .int j] = some (.val (.int (if j > i then j else i))) := rfl
@[simp] theorem r_isN : opIs .non .non = some (.val (.bl true)) := rfl
@[simp] theorem r_isTN {ds : List D} : opIs (.tup ds) .non = some (.val (.bl false)) := rfl
@[simp] theorem r_neg {i : Int} : opNeg (.int i) = some (.val (.int (-i))) := rfl
/-- a comprehension over a lent list -/
def compLK (tgt : Tgt) (cond : M Bool) (elt : M R) (vs : List Nat) (src : List (Nat × Bool)) (ρ : Ro) : Option (List D) → Res R
  | some ds => compK src (compN tgt cond elt vs ds [] (wipeR ρ vs))
  | none => .bad
@[simp] theorem compLK_s {src : List (Nat × Bool)} {ds : List D} : compLK tgt cond elt vs src ρ (some ds) = compK src (compN tgt cond elt vs ds [] (wipeR ρ vs)) := rfl
@[simp] theorem x_compLn {j : Nat} {u : Bool} : compR tgt cond elt vs (itLent j u) ρ = if (lnK (ρ[j]?) && vs.all fun v => !lnK (ρ[v]?)) = true then compLK tgt cond elt vs [(j, u)] ρ (lnI (ρ[j]?)) else .bad := by
  cases h : ρ[j]? with
  | none =>
    show compR tgt cond elt vs (itLent j u) ρ = .bad
    unfold compR
    have : ((itLent j u).src.all (fun p => isLn ρ p.1) && vs.all fun v => !isLn ρ v) = false := by
      show ((isLn ρ j && true) && _) = false
      rw [x_isLn, h]; rfl
    rw [this]; rfl
  | some s =>
    cases s with
    | ln k o =>
      cases o with
      | lst ds =>
        rw [x_compL h]
        rfl
      | dct ds =>
        show compR tgt cond elt vs (itLent j u) ρ = if _ = true then Res.bad else .bad
        rw [ite_self]
        unfold compR
        have : (itLent j u).items ρ = none := by
          show lnItems j ρ = none
          rw [x_lnItems, h]; rfl
        rw [this]
        split <;> rfl
      | ins n ds =>
        show compR tgt cond elt vs (itLent j u) ρ = if _ = true then Res.bad else .bad
        rw [ite_self]
        unfold compR
        have : (itLent j u).items ρ = none := by
          show lnItems j ρ = none
          rw [x_lnItems, h]; rfl
        rw [this]
        split <;> rfl
    | _ =>
      show compR tgt cond elt vs (itLent j u) ρ = .bad
      unfold compR
      have : ((itLent j u).src.all (fun p => isLn ρ p.1) && vs.all fun v => !isLn ρ v) = false := by
        show ((isLn ρ j && true) && _) = false
        rw [x_isLn, h]; rfl
      rw [this]; rfl
end
def frzK (j : Nat) (ρ : Ro) : Option Sl → Res R
  | some (.ow false o) => .ok (.val o.toD) (ρ.set j (.fz o.toD))
  | _ => .bad
@[simp] theorem frzK_s {j : Nat} {o : OV} {ρ : Ro} : frzK j ρ (some (.ow false o)) = .ok (.val o.toD) (ρ.set j (.fz o.toD)) := rfl
@[simp] theorem x_frz_sl {j : Nat} {ρ : Ro} : frzR (.sl j) ρ = frzK j ρ (ρ[j]?) := by
  show (match ρ[j]? with
    | some (.ow false o) => Res.ok (R.val o.toD) (ρ.set j (.fz o.toD))
    | _ => .bad) = _
  unfold frzK
  rfl
/-! ### a slot of no account -/
def jk : Option D → Sl
  | none => .no
  | some d => .fz d
@[simp] theorem jk_ok {o : Option D} : okS (some (jk o)) = true := by cases o <;> rfl
@[simp] theorem jk_ln {o : Option D} : lnK (some (jk o)) = false := by cases o <;> rfl
@[simp] theorem jk_bk {rs : List R} {a' l : Ro} {i : Nat} {o : Option D} : backR rs a' i (jk o :: l) = (backR rs a' (i + 1) l).map (jk o :: ·) := by cases o <;> rfl
/-! ### a def's end -/
def Gives (P : R → Ro → Prop) (r : Res R) : Prop := ∃ v a, r = .ok v a ∧ P v a
def EndsR (a : Ro) (P : R → Ro → Prop) (o : Out) : Prop := Gives P (finK a o)
section
variable {a ρ ρ' : Ro} {s t : S} {P : R → Ro → Prop} {r : R} {n : Nat}
theorem er_run (h : EndsR a P (s (a ++ List.replicate n .no))) : Gives P (runF n s a) := by
  rw [x_run]; exact h
theorem er_seq (h : s ρ = .nx ρ') (k : EndsR a P (t ρ')) : EndsR a P (sSeq s t ρ) := by
  unfold EndsR; rw [x_seq, h, oand_nx]; exact k
theorem er_end {o : Out} {r : R} {b : Ro} (h : finK a o = .ok r b) (k : P r b) : EndsR a P o := ⟨r, b, h, k⟩
/-- the first part by a lemma of its own -/
theorem er_out {Q : Ro → Prop} (h : ∃ ρ', s ρ = .nx ρ' ∧ Q ρ') (k : ∀ ρ', Q ρ' → EndsR a P (t ρ')) : EndsR a P (sSeq s t ρ) := by
  obtain ⟨ρ', h, q⟩ := h
  exact er_seq h (k ρ' q)
/-- a loop whose turns go on -/
theorem er_for {f : M Iter} {tgt : Tgt} {body : S} {ds : List D} {ρ0 : Ro} (Pv : List D → Ro → Prop) (hf : f ρ = .ok (itVals ds) ρ0) (h0 : Pv ds ρ0)
    (hs : ∀ d ds ρ, Pv (d :: ds) ρ → ∃ ρ1, tgt d ρ = some ρ1 ∧ ∃ ρ2, (body ρ1 = .nx ρ2 ∨ body ρ1 = .cnt ρ2) ∧ Pv ds ρ2)
    (k : ∀ ρ', Pv [] ρ' → EndsR a P (t ρ')) : EndsR a P (sSeq (sFor f tgt body) t ρ) := by
  obtain ⟨ρ', e, p⟩ := loop_inv Pv hs h0
  refine er_seq (ρ' := ρ') ?_ (k ρ' p)
  rw [x_for, hf, andS_ok, x_forV, e]
theorem er_eq {o o' : Out} (h : o = o') (k : EndsR a P o') : EndsR a P o := h ▸ k
end
end DL

/-! P0: plain tools (from the k03 texts). -/
namespace DL
open PySem PySem.Spec
abbrev HS (k : Bool) (hs : List Int) : Sl := .ow k (.lst (hs.map .int))
theorem ix_0 {d : D} {ds : List D} : opIx (.lst (d :: ds)) (.int 0) = some (.val d) := by
  show (L2.atI (d :: ds) 0).map R.val = _
  rw [show L2.atI (d :: ds) 0 = some d from L2.atI_nat (xs := d :: ds) (j := 0) rfl]
  rfl
theorem set_0 {d e : D} {ds : List D} : setO (.lst (d :: ds)) (.int 0) e = some (.lst (e :: ds)) := by
  show (L2.ixN (d :: ds).length 0).map (fun j => OV.lst ((d :: ds).set j e)) = _
  have : L2.ixN (d :: ds).length 0 = some 0 := by
    unfold L2.ixN
    simp
  rw [this]
  rfl
theorem log_ok {m : Int} (h : m ≤ 1000) (h0 : 0 < m) : m.natAbs.log2 < 9000 := by
  have := Nat.log2_le_self m.natAbs
  omega
def Fr (s : Sl) : Prop := s = .no ∨ ∃ d, s = .fz d
theorem Fr.ok {s : Sl} (h : Fr s) : okS (some s) = true := by rcases h with rfl | ⟨d, rfl⟩ <;> rfl
theorem Fr.fz {d : D} : Fr (.fz d) := .inr ⟨d, rfl⟩
theorem Fr.no : Fr .no := .inl rfl
theorem r_pow {i j : Int} (h : (decide (0 ≤ j) && decide ((Builtin.Int.intBits i : Int) * j ≤ 2 ^ 27)) = true) : opPow (.int i) (.int j) = some (.val (.int (i ^ j.toNat))) := by
  show (if (decide (0 ≤ j) && decide ((Builtin.Int.intBits i : Int) * j ≤ 2 ^ 27)) = true then vI (i ^ j.toNat) else none) = _
  rw [if_pos h]; rfl
theorem mulL {i j : Int} (h1 : 0 ≤ i) (h2 : i < 2 ^ 64) : mulOk i j = true := by
  unfold mulOk
  simp only [Bool.or_eq_true, Bool.and_eq_true, decide_eq_true_eq]
  exact .inl ⟨by omega, h2⟩
theorem mulR {i j : Int} (h1 : 0 ≤ j) (h2 : j < 2 ^ 64) : mulOk i j = true := by
  unfold mulOk
  simp only [Bool.or_eq_true, Bool.and_eq_true, decide_eq_true_eq]
  exact .inr ⟨by omega, h2⟩
abbrev cs (x : Str) : List Nat := x.cps.toList
def Asc (n : Nat) (x : Str) : Prop := x.length ≤ n ∧ ∀ c ∈ cs x, c < 128
instance {n : Nat} {x : Str} : Decidable (Asc n x) := inferInstanceAs (Decidable (_ ∧ _))
theorem len_cs (x : Str) : x.length = (cs x).length := by simp [cs, Str.length]
theorem cs_append (x y : Str) : cs (x ++ y) = cs x ++ cs y := by
  show (x ++ y).cps.toList = _
  rw [Str.cps_append, Array.toList_append]
theorem cs_ext {x y : Str} (h : cs x = cs y) : x = y := Str.ext' (Array.toList_inj.mp h)
theorem Asc.append {m n : Nat} {x y : Str} (h : Asc m x) (k : Asc n y) : Asc (m + n) (x ++ y) := by
  refine ⟨by rw [Str.length_append]; exact Nat.add_le_add h.1 k.1, fun c hc => ?_⟩
  rw [cs_append] at hc
  rcases List.mem_append.mp hc with z | z
  · exact h.2 c z
  · exact k.2 c z
theorem Asc.mono {m n : Nat} {x : Str} (h : Asc m x) (l : m ≤ n) : Asc n x := ⟨Nat.le_trans h.1 l, h.2⟩
theorem Asc.one {c : Nat} (h : c < 128) : Asc 1 ⟨#[c]⟩ := ⟨by simp [Str.length], fun d hd => by
  have : d = c := by simpa [cs] using hd
  omega⟩
theorem Asc.ok {n : Nat} {x : Str} (h : Asc n x) : PyData.strOk x = true := by
  unfold PyData.strOk
  rw [← Array.all_toList, List.all_eq_true]
  intro c hc
  have := h.2 c hc
  exact decide_eq_true (by omega)
theorem Asc.sz {n : Nat} {x : Str} (h : Asc n x) (l : n ≤ 100000 := by decide) : x.length ≤ sizeLine := by
  have := sizeLine_eq
  have := h.1
  omega
def words : List Str := (["after", "all", "and", "arrow", "boot", "branch", "choose", "deep", "defers", "do", "end", "entry", "events", "exit", "false", "feed", "from", "hears", "if", "in", "inner", "is", "keep", "leaf", "none", "not", "on", "one", "or", "outer", "part", "queue", "recall", "shallow", "start", "tell", "tells", "to", "true", "use", "value", "whole", "words"] : List String).map Str.ofString
def inW (x : Str) : Bool := words.any (· == x)
theorem any_words (x : Str) : ((words.map D.str).any fun z => eqF z (.str x)) = inW x := by
  rw [List.any_map]; rfl
def az (c : Nat) : Bool := decide (c ∈ cs "abcdefghijklmnopqrstuvwxyz")
def dg (c : Nat) : Bool := decide (c ∈ cs "0123456789")
def hd0 (x : Str) : Nat := (cs x).headD 0
def isName (x : Str) : Bool := decide (1 ≤ x.length) && decide (x.length ≤ 12) && Txt.isascii x && Unicode.isAlpha (hd0 x) && Txt.isalnum x && Txt.islower x && !inW x
theorem ix_head {x : Str} (h : 1 ≤ x.length) (hz : x.length ≤ sizeLine) : opIx (.str x) (.int 0) = some (.val (.str ⟨#[hd0 x]⟩)) := by
  show (if x.length ≤ sizeLine then (L2.atI x.cps.toList 0).bind (fun c => vS ⟨#[c]⟩) else none) = _
  rw [if_pos hz]
  have e : L2.atI x.cps.toList 0 = some (hd0 x) := by
    unfold hd0
    rw [len_cs] at h
    cases q : cs x with
    | nil => rw [q] at h; simp at h
    | cons a l =>
      have q : x.cps.toList = a :: l := q
      rw [q]
      exact L2.atI_nat (xs := a :: l) (j := 0) rfl
  rw [e]; rfl
theorem isalpha1 (c : Nat) : Txt.isalpha ⟨#[c]⟩ = Unicode.isAlpha c := by
  unfold Txt.isalpha
  simp [Str.length]
def memS (c : Nat) (y : Str) : Bool := decide (c ∈ cs y)
theorem in_one (c : Nat) (y : Str) : opIn (.str ⟨#[c]⟩) (.str y) = some (.val (.bl (memS c y))) := by
  unfold opIn
  show (some (occB ⟨#[c]⟩ y)).bind vB = _
  have : occB ⟨#[c]⟩ y = memS c y := StrLaws.found_one y c
  rw [this]; rfl
theorem notin_one (c : Nat) (y : Str) : opNotIn (.str ⟨#[c]⟩) (.str y) = some (.val (.bl (!memS c y))) := by
  unfold opNotIn
  show (some (occB ⟨#[c]⟩ y)).bind (fun b => vB (!b)) = _
  have : occB ⟨#[c]⟩ y = memS c y := StrLaws.found_one y c
  rw [this]; rfl
theorem pyOk_strs {ws : List Str} (h : ∀ w ∈ ws, PyData.strOk w = true) : pyOk (.lst (ws.map .str)) = true := by
  have e1 : ∀ ws : List Str, D.datas (ws.map D.str) = true := fun ws => by
    induction ws with
    | nil => rfl
    | cons w ws ih => show (true && D.datas (ws.map D.str)) = true; rw [ih]; rfl
  have e2 : ∀ ws : List Str, (∀ w ∈ ws, PyData.strOk w = true) → PyData.canLayAll0 (D.pys (ws.map D.str)) = true := fun ws h => by
    induction ws with
    | nil => rfl
    | cons w ws ih =>
      show (PyData.strOk w && PyData.canLayAll0 (D.pys (ws.map D.str))) = true
      rw [h w List.mem_cons_self, ih fun v hv => h v (List.mem_cons_of_mem _ hv)]; rfl
  have e0 : ∀ ws : List Str, PyData.depthAll (D.pys (ws.map D.str)) = 0 := fun ws => by
    induction ws with
    | nil => rfl
    | cons w ws ih => show max 0 (PyData.depthAll (D.pys (ws.map D.str))) = 0; rw [ih]; rfl
  have e3 : ∀ ws : List Str, PyData.depth (.list (D.pys (ws.map D.str))) ≤ 64 := fun ws => by
    show PyData.depthAll (D.pys (ws.map D.str)) + 1 ≤ 64
    rw [e0]; decide
  unfold pyOk SeqAt.shaped
  have d1 : (D.lst (ws.map .str)).data = true := e1 ws
  have d2 : (D.lst (ws.map .str)).py.canLay0 = true := e2 ws h
  have d3 : (D.lst (ws.map .str)).py.depth ≤ 64 := e3 ws
  rw [d1, d2, decide_eq_true d3]; rfl
theorem words_ok : ∀ w ∈ words, PyData.strOk w = true := by decide +kernel
theorem in_words {x : Str} (h : PyData.strOk x = true) : opIn (.str x) (.lst (words.map .str)) = some (.val (.bl (inW x))) := by
  unfold opIn
  have : inB (.str x) (.lst (words.map .str)) = some (inW x) := by
    show (if (pyOk (.str x) && pyOk (.lst (words.map .str))) = true then some ((words.map D.str).any fun z => eqF z (.str x)) else none) = _
    rw [pyOk_str h, pyOk_strs words_ok, any_words]; rfl
  rw [this]; rfl
def chk : Nat → List Nat → Bool
  | _, [] => true
  | i, c :: l => (az c || (i != 0 && dg c)) && chk (i + 1) l
def lawName (x : Str) : Bool := decide (1 ≤ x.length) && decide (x.length ≤ 12) && !inW x && chk 0 (cs x)
theorem fact_a : ∀ c < 128, Unicode.isAlpha c = (decide (65 ≤ c ∧ c ≤ 90) || decide (97 ≤ c ∧ c ≤ 122)) := by decide +kernel
theorem fact_n : ∀ c < 128, Unicode.isAlnum c = (decide (65 ≤ c ∧ c ≤ 90) || decide (97 ≤ c ∧ c ≤ 122) || decide (48 ≤ c ∧ c ≤ 57)) := by decide +kernel
theorem fact_l : ∀ c < 128, Unicode.isLower c = decide (97 ≤ c ∧ c ≤ 122) := by decide +kernel
theorem fact_u : ∀ c < 128, (Unicode.isUpper c || Unicode.isTitle c) = decide (65 ≤ c ∧ c ≤ 90) := by decide +kernel
theorem fact_z : ∀ c < 128, az c = decide (97 ≤ c ∧ c ≤ 122) := by decide +kernel
theorem fact_d : ∀ c < 128, dg c = decide (48 ≤ c ∧ c ≤ 57) := by decide +kernel
theorem az_lt : ∀ c ∈ cs "abcdefghijklmnopqrstuvwxyz", c < 128 := by decide +kernel
theorem dg_lt : ∀ c ∈ cs "0123456789", c < 128 := by decide +kernel
theorem az_of {c : Nat} (h : az c = true) : c < 128 := az_lt c (of_decide_eq_true h)
theorem dgc_of {c : Nat} (h : dg c = true) : c < 128 := dg_lt c (of_decide_eq_true h)
theorem arr_all {p : Nat → Bool} {x : Str} : x.cps.all p = (cs x).all p := by rw [← Array.all_toList]
theorem arr_any {p : Nat → Bool} {x : Str} : x.cps.any p = (cs x).any p := by rw [← Array.any_toList]
theorem chk_all : ∀ (l : List Nat) (i : Nat), i ≠ 0 → chk i l = l.all fun c => az c || dg c
  | [], _, _ => rfl
  | c :: l, i, h => by
    show ((az c || (i != 0 && dg c)) && chk (i + 1) l) = ((az c || dg c) && l.all _)
    rw [chk_all l (i + 1) (by omega)]
    have : (i != 0) = true := by simpa using h
    rw [this, Bool.true_and]
theorem name_is {x : Str} : isName x = lawName x := by
  unfold isName lawName
  by_cases h1 : 1 ≤ x.length
  · by_cases h2 : x.length ≤ 12
    · rw [decide_eq_true h1, decide_eq_true h2]
      cases hw : inW x with
      | true => simp
      | false =>
        have key : (Txt.isascii x && Unicode.isAlpha (hd0 x) && Txt.isalnum x && Txt.islower x) = chk 0 (cs x) := by
          unfold Txt.isascii Txt.isalnum Txt.islower hd0
          rw [arr_all, arr_all, arr_any, arr_any]
          have hl : decide (x.length > 0) = true := decide_eq_true h1
          rw [hl, Bool.true_and]
          rw [len_cs] at h1
          cases q : cs x with
          | nil => rw [q] at h1; simp at h1
          | cons a l =>
            show _ = ((az a || (0 != 0 && dg a)) && chk 1 l)
            rw [chk_all l 1 (by decide)]
            have z0 : ((0 : Nat) != 0) = false := rfl
            rw [z0, Bool.false_and, Bool.or_false, List.headD_cons]
            rw [Bool.eq_iff_iff]
            simp only [Bool.and_eq_true, List.all_eq_true, List.any_eq_true, decide_eq_true_eq, Bool.not_eq_true', Bool.or_eq_true, Bool.not_eq_eq_eq_not, Bool.not_true]
            constructor
            · rintro ⟨⟨⟨hA, ha⟩, hn⟩, ⟨_, hu⟩⟩
              have nu : ∀ c ∈ a :: l, (Unicode.isUpper c || Unicode.isTitle c) = false := fun c hc => by
                cases e : (Unicode.isUpper c || Unicode.isTitle c) with
                | false => rfl
                | true =>
                  have : (List.any (a :: l) fun c => Unicode.isUpper c || Unicode.isTitle c) = true := List.any_eq_true.mpr ⟨c, hc, e⟩
                  rw [this] at hu; cases hu
              refine ⟨?_, fun c hc => ?_⟩
              · have a128 := hA a List.mem_cons_self
                have h := nu a List.mem_cons_self
                rw [fact_u a a128] at h
                rw [fact_a a a128, h, Bool.false_or] at ha
                rw [fact_z a a128]; exact ha
              · have c128 := hA c (List.mem_cons_of_mem _ hc)
                have h := nu c (List.mem_cons_of_mem _ hc)
                rw [fact_u c c128] at h
                have hn := hn c (List.mem_cons_of_mem _ hc)
                rw [fact_n c c128, h, Bool.false_or] at hn
                rw [fact_z c c128, fact_d c c128]
                simpa using hn
            · rintro ⟨ha, hl⟩
              have good : ∀ c ∈ a :: l, c < 128 ∧ Unicode.isAlnum c = true ∧ (Unicode.isUpper c || Unicode.isTitle c) = false := fun c hc => by
                have hc : az c = true ∨ dg c = true := by
                  rcases List.mem_cons.mp hc with e | e
                  · subst e; exact .inl ha
                  · simpa using hl c e
                rcases hc with e | e
                · have c128 := az_of e
                  rw [fact_z c c128] at e
                  have e' := of_decide_eq_true e
                  refine ⟨c128, ?_, ?_⟩
                  · rw [fact_n c c128, e]; simp
                  · rw [fact_u c c128]; exact decide_eq_false (by omega)
                · have c128 := dgc_of e
                  rw [fact_d c c128] at e
                  have e' := of_decide_eq_true e
                  refine ⟨c128, ?_, ?_⟩
                  · rw [fact_n c c128, e]; simp
                  · rw [fact_u c c128]; exact decide_eq_false (by omega)
              have a128 := az_of ha
              have hz := ha
              rw [fact_z a a128] at hz
              refine ⟨⟨⟨fun c hc => (good c hc).1, ?_⟩, fun c hc => (good c hc).2.1⟩, ⟨a, List.mem_cons_self, ?_⟩, ?_⟩
              · rw [fact_a a a128, hz]; simp
              · rw [fact_l a a128]; exact hz
              · rw [List.any_eq_false]
                intro c hc
                rw [(good c hc).2.2]; simp
        have e1 : (true && true && Txt.isascii x && Unicode.isAlpha (hd0 x) && Txt.isalnum x && Txt.islower x && !false) = (Txt.isascii x && Unicode.isAlpha (hd0 x) && Txt.isalnum x && Txt.islower x) := by simp
        rw [e1, key]
        simp
    · rw [decide_eq_false h2]; simp
  · rw [decide_eq_false h1]; simp
theorem split_mem {x y p : Str} (h : p ∈ Txt.split x y) : p.length ≤ x.length ∧ ∀ c ∈ cs p, c ∈ cs x := by
  unfold Txt.split at h
  split at h
  · rw [List.mem_singleton] at h; subst h; exact ⟨Nat.le_refl _, fun c h => h⟩
  · split at h
    · rw [List.mem_singleton] at h; subst h; exact ⟨Nat.le_refl _, fun c h => h⟩
    · unfold Builtin.Str.partsBetween at h
      obtain ⟨⟨i, j⟩, _, rfl⟩ := List.mem_map.mp h
      refine ⟨?_, fun c hc => ?_⟩
      · show (x.cps.extract i j).size ≤ x.cps.size
        rw [Array.size_extract]
        omega
      · have hc : c ∈ (x.cps.extract i j).toList := hc
        rw [Array.toList_extract] at hc
        exact List.mem_of_mem_drop (List.mem_of_mem_take hc)
theorem Asc.piece {n : Nat} {x y p : Str} (h : Asc n x) (hp : p ∈ Txt.split x y) : Asc n p := by
  obtain ⟨h1, h2⟩ := split_mem hp
  exact ⟨Nat.le_trans h1 h.1, fun c hc => h.2 c (h2 c hc)⟩
theorem r_split {x : Str} (hz : x.length + 2 ≤ sizeLine) : mSplit x [.str "."] = some (.nw (.lst ((Txt.split x ".").map .str))) := by
  have h1 : ((("." : Str).length != 0) && decide (x.length + 2 ≤ sizeLine)) = true := by
    rw [decide_eq_true hz]; decide +kernel
  show (if ((("." : Str).length != 0) && decide (x.length + 2 ≤ sizeLine)) = true then some (R.nw (.lst ((Txt.split x ".").map .str))) else none) = _
  rw [if_pos h1]
def onStr (f : Str → Bool) : D → D
  | .str p => .bl (f p)
  | d => d
theorem bools_on {f : Str → Bool} : ∀ ps : List Str, boolsD ((ps.map D.str).map (onStr f)) = some (ps.map f)
  | [] => rfl
  | p :: ps => by
    show (boolsD ((ps.map D.str).map (onStr f))).map (f p :: ·) = _
    rw [bools_on ps]; rfl
theorem all_on {f : Str → Bool} (ps : List Str) : cAll [.lst ((ps.map D.str).map (onStr f))] = some (.val (.bl (ps.all f))) := by
  show (boolsD ((ps.map D.str).map (onStr f))).bind (fun bs => vB (bs.all id)) = _
  rw [bools_on]
  show vB ((ps.map f).all id) = _
  rw [List.all_map]; rfl
def longN (f : Str → Bool) (x : Str) : Bool := decide ((Txt.split x ".").length ≤ 40) && (Txt.split x ".").all f
theorem split_len {n : Nat} {x : Str} (h : Asc n x) (hn : n ≤ 100000) : (Txt.split x ".").length ≤ sizeLine := by
  have hs := sizeLine_eq
  have h1 := h.1
  unfold Txt.split
  split
  · simp; omega
  · split
    · simp; omega
    · rw [length_partsBetween]
      have := StrLaws.occ_length_le x "." 0 x.length (x.length + 1)
      omega
theorem ix_chr {z : Str} {n : Nat} (h : Asc n z) (hn : n ≤ 100000) {i : Int} (h0 : 0 ≤ i) (h1 : i < z.length) : ∃ c, c < 128 ∧ opIx (.str z) (.int i) = some (.val (.str ⟨#[c]⟩)) := by
  obtain ⟨j, rfl⟩ := Int.eq_ofNat_of_zero_le h0
  have hj : j < (cs z).length := by rw [← len_cs]; omega
  have e : L2.atI z.cps.toList (j : Int) = some (cs z)[j] := L2.atI_nat (List.getElem?_eq_getElem hj)
  refine ⟨(cs z)[j], h.2 _ (List.getElem_mem hj), ?_⟩
  show (if z.length ≤ sizeLine then (L2.atI z.cps.toList (j : Int)).bind (fun c => vS ⟨#[c]⟩) else none) = _
  rw [if_pos (h.sz hn), e]; rfl
theorem ix_lst {ds : List D} {i : Int} (h0 : 0 ≤ i) (h1 : i < ds.length) : ∃ d ∈ ds, opIx (.lst ds) (.int i) = some (.val d) := by
  obtain ⟨j, rfl⟩ := Int.eq_ofNat_of_zero_le h0
  have hj : j < ds.length := by omega
  have e : L2.atI ds (j : Int) = some ds[j] := L2.atI_nat (List.getElem?_eq_getElem hj)
  refine ⟨ds[j], List.getElem_mem hj, ?_⟩
  show (L2.atI ds (j : Int)).map R.val = _
  rw [e]; rfl
theorem fits_of {i : Int} (h0 : 0 ≤ i) (h1 : i ≤ 100000) : fits62 i = true := by
  unfold fits62
  simp only [Bool.and_eq_true, decide_eq_true_eq]
  omega
theorem range_int {lo : Int} {n : Nat} {d : D} (h : d ∈ rangeD lo n) : ∃ k : Nat, k < n ∧ d = .int (lo + k) := by
  obtain ⟨i, hi, rfl⟩ := List.mem_map.mp h
  exact ⟨i, List.mem_range.mp hi, rfl⟩
theorem range_len {lo : Int} {n : Nat} : (rangeD lo n).length = n := by unfold rangeD; simp
theorem addA {m n : Nat} {x y : Str} (h : Asc m x) (k : Asc n y) (l : m + n ≤ 100000) : opAdd (.str x) (.str y) = some (.val (.str (x ++ y))) := by
  refine r_addS ?_
  have := sizeLine_eq
  have := h.1
  have := k.1
  omega
theorem glued_cs (sep : Str) : ∀ (ws : List Str) (acc : Array Nat) (P : Nat → Prop), (∀ c ∈ acc.toList, P c) → (∀ c ∈ cs sep, P c) → (∀ w ∈ ws, ∀ c ∈ cs w, P c) → ∀ c ∈ (ws.foldl (fun acc p => acc ++ sep.cps ++ p.cps) acc).toList, P c
  | [], _, _, h, _, _ => h
  | w :: ws, acc, P, h, hs, hw => by
    refine glued_cs sep ws _ P (fun c hc => ?_) hs fun v hv => hw v (List.mem_cons_of_mem _ hv)
    rw [Array.toList_append, Array.toList_append] at hc
    rcases List.mem_append.mp hc with z | z
    · rcases List.mem_append.mp z with z | z
      · exact h c z
      · exact hs c z
    · exact hw w List.mem_cons_self c z
theorem sum_le {n : Nat} : ∀ {ws : List Str}, (∀ w ∈ ws, Asc n w) → (ws.map (·.length)).sum ≤ ws.length * n
  | [], _ => Nat.zero_le _
  | w :: ws, h => by
    have h1 := (h w List.mem_cons_self).1
    have h2 := sum_le fun v hv => h v (List.mem_cons_of_mem _ hv)
    rw [List.map_cons, List.sum_cons, List.length_cons, Nat.succ_mul]
    omega
theorem join_asc {ws : List Str} {n m : Nat} (h : ∀ w ∈ ws, Asc n w) (hl : ws.length ≤ m) : Asc (m * (n + 1)) (Txt.join "." ws) := by
  have hd : ("." : Str).length = 1 := by decide +kernel
  refine ⟨?_, ?_⟩
  · show (Builtin.Str.glued "." ws).length ≤ _
    rw [size_glued, hd]
    have := sum_le h
    have h2 : ws.length * (n + 1) ≤ m * (n + 1) := Nat.mul_le_mul_right _ hl
    rw [Nat.mul_add] at h2
    omega
  · cases ws with
    | nil => intro c hc; exact absurd hc (by show ¬ c ∈ ([] : List Nat); simp)
    | cons w ws =>
      refine glued_cs "." ws w.cps (fun c => c < 128) (h w List.mem_cons_self).2 (by decide +kernel) fun v hv => (h v (List.mem_cons_of_mem _ hv)).2
theorem strs_map : ∀ ws : List Str, strsD (ws.map .str) = some ws
  | [] => rfl
  | w :: ws => by
    show (strsD (ws.map D.str)).map (w :: ·) = _
    rw [strs_map ws]; rfl
theorem r_join {ws : List Str} {n m : Nat} (h : ∀ w ∈ ws, Asc n w) (hl : ws.length ≤ m) (hb : m * (n + 1) ≤ 100000) : mJoin "." [.lst (ws.map .str)] = some (.val (.str (Txt.join "." ws))) := by
  have hj : joinOk "." ws = true := by
    unfold joinOk
    have hd : ("." : Str).length = 1 := by decide +kernel
    rw [hd]
    refine decide_eq_true ?_
    have := sum_le h
    have h2 : ws.length * (n + 1) ≤ m * (n + 1) := Nat.mul_le_mul_right _ hl
    rw [Nat.mul_add] at h2
    omega
  show (strsD (ws.map .str)).bind (fun ys => if joinOk "." ys = true then vS (Txt.join "." ys) else none) = _
  rw [strs_map]
  show (if joinOk "." ws = true then vS (Txt.join "." ws) else none) = _
  rw [if_pos hj]; rfl
theorem flat_rep {α : Type} (d : α) : ∀ k : Nat, (List.replicate k [d]).flatten = List.replicate k d
  | 0 => rfl
  | k + 1 => by rw [List.replicate_succ, List.flatten_cons, flat_rep d k, List.replicate_succ]; rfl
theorem r_mul1 {d : D} {k : Int} (h0 : 0 ≤ k) (h1 : k ≤ 100000) : opMulA (.lst [d]) (.int k) = some (.nw (.lst (List.replicate k.toNat d))) := by
  have hc : (decide (-(2 ^ 63) ≤ k) && decide (k < 2 ^ 63) && decide ([d].length * k.toNat ≤ sizeLine)) = true := by
    have := sizeLine_eq
    simp only [Bool.and_eq_true, decide_eq_true_eq, List.length_singleton]
    omega
  show (if (decide (-(2 ^ 63) ≤ k) && decide (k < 2 ^ 63) && decide ([d].length * k.toNat ≤ sizeLine)) = true then some (R.nw (.lst (List.replicate k.toNat [d]).flatten)) else none) = _
  rw [if_pos hc, flat_rep]
theorem join_rep {w : Str} {n : Nat} {k : Int} (h : Asc n w) (h0 : 0 ≤ k) (h1 : k.toNat * (n + 1) ≤ 100000) : ∃ x, mJoin "." [.lst (List.replicate k.toNat (.str w))] = some (.val (.str x)) ∧ Asc (k.toNat * (n + 1)) x := by
  have hw : ∀ v ∈ List.replicate k.toNat w, Asc n v := fun v hv => by rw [List.eq_of_mem_replicate hv]; exact h
  have hl : (List.replicate k.toNat w).length ≤ k.toNat := by rw [List.length_replicate]; exact Nat.le_refl _
  have e : (List.replicate k.toNat w).map D.str = List.replicate k.toNat (.str w) := List.map_replicate
  refine ⟨_, ?_, join_asc hw hl⟩
  rw [← e]
  exact r_join hw hl h1
def AD (d : D) : Prop := ∃ x, d = .str x ∧ Asc 1000 x
def letters : Str := "abcdefghijklmnopqrstuvwxyz"
def l36 : Str := "abcdefghijklmnopqrstuvwxyz" ++ "0123456789"
theorem l36_asc : Asc 36 l36 := by decide +kernel
theorem l36_len : l36.length = 36 := by decide +kernel
theorem add36 : opAdd (.str "abcdefghijklmnopqrstuvwxyz") (.str "0123456789") = some (.val (.str l36)) := r_addS (by decide +kernel)
theorem bk_fr {rs : List R} {a' l : Ro} {i : Nat} {s : Sl} (h : Fr s) : backR rs a' i (s :: l) = (backR rs a' (i + 1) l).map (s :: ·) := by rcases h with rfl | ⟨d, rfl⟩ <;> rfl
theorem rep_x (b : Bool) : ∃ y : Str, opMulA (.str "x") (.int (if b then 1 else 0)) = some (.val (.str y)) ∧ Asc 1 y := by
  cases b with
  | true => exact ⟨Txt.mul "x" 1, by
      show (if (decide (-(2 ^ 63) ≤ (1 : Int)) && decide ((1 : Int) < 2 ^ 63) && decide (("x" : Str).length * (1 : Int).toNat ≤ sizeLine)) = true then vS (Txt.mul "x" 1) else none) = _
      rw [if_pos (by decide +kernel)]; rfl, by decide +kernel⟩
  | false => exact ⟨Txt.mul "x" 0, by
      show (if (decide (-(2 ^ 63) ≤ (0 : Int)) && decide ((0 : Int) < 2 ^ 63) && decide (("x" : Str).length * (0 : Int).toNat ≤ sizeLine)) = true then vS (Txt.mul "x" 0) else none) = _
      rw [if_pos (by decide +kernel)]; rfl, by decide +kernel⟩
theorem letters_asc : Asc 26 "abcdefghijklmnopqrstuvwxyz" := by decide +kernel
theorem letters_len : ("abcdefghijklmnopqrstuvwxyz" : Str).length = 26 := by decide +kernel
theorem Asc.cut {n : Nat} {z : Str} (h : Asc n z) (lo hi : Option Int) : Asc n (L2.cutS z lo hi) := by
  have hs : ∀ c ∈ cs (L2.cutS z lo hi), c ∈ cs z := fun c hc => by
    have hc : c ∈ ((z.cps.toList.drop (HT.sIx z.length 0 lo)).take (HT.sIx z.length z.length hi - HT.sIx z.length 0 lo)) := hc
    exact List.mem_of_mem_drop (List.mem_of_mem_take hc)
  refine ⟨?_, fun c hc => h.2 c (hs c hc)⟩
  have e : (L2.cutS z lo hi).length = ((z.cps.toList.drop (HT.sIx z.length 0 lo)).take (HT.sIx z.length z.length hi - HT.sIx z.length 0 lo)).length := by
    rw [len_cs]; rfl
  rw [e, List.length_take, List.length_drop]
  have := h.1
  rw [len_cs] at this
  have : z.cps.toList.length ≤ n := this
  omega
theorem strs_of {P : Str → Prop} : ∀ {ds : List D}, (∀ d ∈ ds, ∃ x, d = .str x ∧ P x) → ∃ ws : List Str, ds = ws.map .str ∧ ∀ w ∈ ws, P w
  | [], _ => ⟨[], rfl, fun w h => absurd h List.not_mem_nil⟩
  | d :: ds, h => by
    obtain ⟨x, rfl, px⟩ := h d List.mem_cons_self
    obtain ⟨ws, rfl, pw⟩ := strs_of fun d hd => h d (List.mem_cons_of_mem _ hd)
    exact ⟨x :: ws, rfl, fun w hw => by
      rcases List.mem_cons.mp hw with e | e
      · subst e; exact px
      · exact pw w e⟩
theorem ix_strs {ws : List Str} {i : Int} (h0 : 0 ≤ i) (h1 : i < ws.length) : ∃ w ∈ ws, opIx (.lst (ws.map .str)) (.int i) = some (.val (.str w)) := by
  obtain ⟨d, hd, e⟩ := ix_lst (ds := ws.map .str) h0 (by rw [List.length_map]; exact h1)
  obtain ⟨w, hw, rfl⟩ := List.mem_map.mp hd
  exact ⟨w, hw, e⟩
theorem set_strs {ws : List Str} {i : Int} {w : Str} (h0 : 0 ≤ i) (h1 : i < ws.length) : setO (.lst (ws.map .str)) (.int i) (.str w) = some (.lst ((ws.set i.toNat w).map .str)) := by
  show (L2.ixN (ws.map D.str).length i).map (fun j => OV.lst ((ws.map D.str).set j (.str w))) = _
  have e : L2.ixN (ws.map D.str).length i = some i.toNat := by
    unfold L2.ixN
    rw [List.length_map, if_pos h0, if_pos h1]
  rw [e, List.map_set]; rfl
theorem words_asc : ∀ w ∈ words, Asc 10 w := by decide +kernel
theorem words_len : words.length = 43 := by decide +kernel
theorem lst4 {a b c d : D} {ρ : Ro} : lstK (some [a, b, c, d]) ρ = .ok (.nw (.lst [a, b, c, d])) ρ := lstK_s (by have := sizeLine_eq; simp; omega)
theorem lst2 {a b : D} {ρ : Ro} : lstK (some [a, b]) ρ = .ok (.nw (.lst [a, b])) ρ := lstK_s (by have := sizeLine_eq; simp; omega)
def Sn (k : Nat) : Str := toString ((k : Nat) : Int)
def decN (l : List Nat) : Nat := l.foldl (fun a c => 10 * a + (c - 48)) 0
theorem Sn_dec : ∀ k < 1000, decN (cs (Sn k)) = k ∧ Asc 3 (Sn k) ∧ 1 ≤ (Sn k).length := by decide +kernel
theorem app_inj {x y z : Str} (h : x ++ y = x ++ z) : y = z := by
  have := congrArg cs h
  rw [cs_append, cs_append] at this
  exact cs_ext (List.append_cancel_left this)
theorem app_ne {x y : Str} (h : 1 ≤ y.length) : x ≠ x ++ y := fun e => by
  have := congrArg Str.length e
  rw [Str.length_append] at this
  omega
theorem log_small {k : Nat} (h : k < 1000) : ((k : Nat) : Int).natAbs.log2 < 1920 := by
  have := Nat.log2_le_self k
  have e : ((k : Nat) : Int).natAbs = k := rfl
  rw [e]; omega
theorem mul_1 {x : Str} {n : Nat} (h : Asc n x) (hn : n ≤ 1000) : opMulA (.str x) (.int 1) = some (.val (.str x)) := by
  have hz := sizeLine_eq
  have h1 := h.1
  have hc : (decide (-(2 ^ 63) ≤ (1 : Int)) && decide ((1 : Int) < 2 ^ 63) && decide (x.length * (1 : Int).toNat ≤ sizeLine)) = true := by
    have : (1 : Int).toNat = 1 := rfl
    simp only [Bool.and_eq_true, decide_eq_true_eq, this]
    omega
  show (if (decide (-(2 ^ 63) ≤ (1 : Int)) && decide ((1 : Int) < 2 ^ 63) && decide (x.length * (1 : Int).toNat ≤ sizeLine)) = true then vS (Txt.mul x 1) else none) = _
  rw [if_pos hc]
  have e : Txt.mul x 1 = x := by
    unfold Txt.mul
    rw [if_neg (by decide), if_pos (by simp)]
  rw [e]; rfl
theorem mul_0 {x : Str} : opMulA (.str x) (.int 0) = some (.val (.str Str.empty)) := by
  have hc : (decide (-(2 ^ 63) ≤ (0 : Int)) && decide ((0 : Int) < 2 ^ 63) && decide (x.length * (0 : Int).toNat ≤ sizeLine)) = true := by
    have : (0 : Int).toNat = 0 := rfl
    simp [this]
  show (if (decide (-(2 ^ 63) ≤ (0 : Int)) && decide ((0 : Int) < 2 ^ 63) && decide (x.length * (0 : Int).toNat ≤ sizeLine)) = true then vS (Txt.mul x 0) else none) = _
  rw [if_pos hc]
  have e : Txt.mul x 0 = Str.empty := by
    unfold Txt.mul
    rw [if_pos (by decide)]
  rw [e]; rfl
theorem app_empty (x : Str) : x ++ Str.empty = x := cs_ext (by rw [cs_append]; exact List.append_nil _)
theorem empty_app (x : Str) : Str.empty ++ x = x := cs_ext (by rw [cs_append]; rfl)
theorem empty_asc : Asc 0 Str.empty := ⟨Nat.le_refl _, fun c h => absurd h (by show ¬ c ∈ ([] : List Nat); exact List.not_mem_nil)⟩
def Keys (kvs : List (L2.Key × D)) (ws : List Str) : Prop := ∀ x, (kvs.any fun p => decide (p.1 = .inr x)) = decide (x ∈ ws)
theorem in_dct {kvs : List (L2.Key × D)} {ws : List Str} (h : Keys kvs ws) (x : Str) : opIn (.str x) (.dct kvs) = some (.val (.bl (decide (x ∈ ws)))) := by
  unfold opIn
  show (some (kvs.any fun p => decide (p.1 = .inr x))).bind vB = _
  rw [h x]; rfl
theorem notin_dct {kvs : List (L2.Key × D)} {ws : List Str} (h : Keys kvs ws) (x : Str) : opNotIn (.str x) (.dct kvs) = some (.val (.bl (!decide (x ∈ ws)))) := by
  unfold opNotIn
  show (some (kvs.any fun p => decide (p.1 = .inr x))).bind (fun b => vB (!b)) = _
  rw [h x]; rfl
theorem keys_fold (ws : List Str) : Keys ((ws.map D.str).foldl (fun acc d => putD acc (match d with | .str x => .inr x | _ => .inl 0) (.bl true)) []) ws := fun x => by
  rw [fold_any (gk := fun d => match d with | .str x => .inr x | _ => .inl 0) (g := fun _ => .bl true)]
  rw [List.any_nil, Bool.false_or, List.any_map]
  rw [Bool.eq_iff_iff, List.any_eq_true, decide_eq_true_eq]
  constructor
  · rintro ⟨w, hw, e⟩
    have e : (Sum.inr w : L2.Key) = .inr x := of_decide_eq_true e
    cases e
    exact hw
  · exact fun h => ⟨x, h, decide_eq_true rfl⟩
theorem pyOk_ints (hs : List Int) : pyOk (.lst (hs.map .int)) = true := by
  have e1 : ∀ ws : List Int, D.datas (ws.map D.int) = true := fun ws => by
    induction ws with
    | nil => rfl
    | cons w ws ih => show (true && D.datas (ws.map D.int)) = true; rw [ih]; rfl
  have e2 : ∀ ws : List Int, PyData.canLayAll0 (D.pys (ws.map D.int)) = true := fun ws => by
    induction ws with
    | nil => rfl
    | cons w ws ih =>
      show (true && PyData.canLayAll0 (D.pys (ws.map D.int))) = true
      rw [ih]; rfl
  have e0 : ∀ ws : List Int, PyData.depthAll (D.pys (ws.map D.int)) = 0 := fun ws => by
    induction ws with
    | nil => rfl
    | cons w ws ih => show max 0 (PyData.depthAll (D.pys (ws.map D.int))) = 0; rw [ih]; rfl
  unfold pyOk SeqAt.shaped
  have d1 : (D.lst (hs.map .int)).data = true := e1 hs
  have d2 : (D.lst (hs.map .int)).py.canLay0 = true := e2 hs
  have d3 : (D.lst (hs.map .int)).py.depth ≤ 64 := by
    show PyData.depthAll (D.pys (hs.map D.int)) + 1 ≤ 64
    rw [e0]; decide
  rw [d1, d2, decide_eq_true d3]; rfl
def P20 (d : D) : Prop := ∃ x, d = .str x ∧ Asc 20 x
def okL (n : Nat) (ds : List D) : Prop := (∀ d ∈ ds, P20 d) ∧ ds.length ≤ n
theorem okL.app {m n : Nat} {xs ys : List D} (h : okL m xs) (k : okL n ys) : okL (m + n) (xs ++ ys) :=
  ⟨fun d hd => by
    rcases List.mem_append.mp hd with z | z
    · exact h.1 d z
    · exact k.1 d z, by rw [List.length_append]; exact Nat.add_le_add h.2 k.2⟩
theorem okL.cut {n : Nat} {xs : List D} (h : okL n xs) (lo hi : Option Int) : okL n (cutD xs lo hi) :=
  ⟨fun d hd => h.1 d (List.mem_of_mem_drop (List.mem_of_mem_take hd)), by
    unfold cutD
    rw [List.length_take, List.length_drop]
    have := h.2
    omega⟩
theorem addL {m n : Nat} {xs ys : List D} (h : okL m xs) (k : okL n ys) (l : m + n ≤ 100000) : opAdd (.lst xs) (.lst ys) = some (.nw (.lst (xs ++ ys))) := by
  refine r_addL ?_
  have := sizeLine_eq
  have := h.2
  have := k.2
  omega
theorem eqv_self : ∀ ws : List Str, PyData.eqvAll (D.pys (ws.map D.str)) (D.pys (ws.map D.str)) = true
  | [] => rfl
  | w :: ws => by
    show ((w == w) && PyData.eqvAll (D.pys (ws.map D.str)) (D.pys (ws.map D.str))) = true
    rw [eqv_self ws, beq_self_eq_true]; rfl
theorem ne_lst {ws : List Str} (h : ∀ w ∈ ws, PyData.strOk w = true) : opNe (.lst (ws.map .str)) (.lst (ws.map .str)) = some (.val (.bl false)) := by
  unfold opNe
  rw [pyOk_strs h, if_pos (by rfl)]
  show vB (!PyData.eqvAll (D.pys (ws.map D.str)) (D.pys (ws.map D.str))) = _
  rw [eqv_self]; rfl
theorem ne_str {x : Str} (h : PyData.strOk x = true) : opNe (.str x) (.str x) = some (.val (.bl false)) := by
  rw [r_neS h h, beq_self_eq_true]; rfl
theorem eq_str {x : Str} (h : PyData.strOk x = true) : opEq (.str x) (.str x) = some (.val (.bl true)) := by
  rw [r_eqS h h, beq_self_eq_true]
theorem is_str (x : Str) : isD "str" (.str x) = some true := by
  show L2.kitB "str" "str" = some true
  decide +kernel
theorem ins_strs {ws : List Str} {v : Int} {y : Str} (h0 : 0 ≤ v) (h1 : v ≤ 1000) (hl : ws.length ≤ 900) : moInsert (.lst (ws.map .str)) [.int v, .str y] = some (.non, .lst ((ws.take v.toNat ++ [y] ++ ws.drop v.toNat).map .str)) := by
  have hz := sizeLine_eq
  have hc : (decide (0 ≤ v) && decide (v < 2 ^ 63) && decide ((ws.map D.str).length < sizeLine)) = true := by
    rw [List.length_map]
    simp only [Bool.and_eq_true, decide_eq_true_eq]
    omega
  show (if (decide (0 ≤ v) && decide (v < 2 ^ 63) && decide ((ws.map D.str).length < sizeLine)) = true then some (D.non, OV.lst ((ws.map D.str).take v.toNat ++ [.str y] ++ (ws.map D.str).drop v.toNat)) else none) = _
  rw [if_pos hc, List.map_append, List.map_append, List.map_take, List.map_drop]; rfl
def Fo (s : Sl) : Prop := okS (some s) = true
theorem Fr.fo {s : Sl} (h : Fr s) : Fo s := h.ok
theorem fa_vals {rs : List R} (h : ∀ r ∈ rs, ∃ d, r = .val d) : ∀ (a : Ro) (i : Nat), findA i rs a = none := by
  induction rs with
  | nil => exact fun a i => rfl
  | cons r rs ih =>
    intro a i
    obtain ⟨d, rfl⟩ := h r List.mem_cons_self
    cases a with
    | nil => rfl
    | cons s a => exact ih (fun r hr => h r (List.mem_cons_of_mem _ hr)) a i
theorem bk_vals {rs : List R} (h : ∀ r ∈ rs, ∃ d, r = .val d) {a : Ro} : ∀ (l : Ro) (i : Nat), backR rs a i l = some l
  | [], _ => rfl
  | s :: l, i => by
    have ih := bk_vals h (a := a) l (i + 1)
    cases s with
    | no => rw [bk_no, ih]; rfl
    | fz d => rw [bk_fz, ih]; rfl
    | ln k o => rw [bk_ln, ih]; rfl
    | ow k o => rw [bk_ow, ih, fa_vals h]; rfl
theorem bk_v2 {d e : D} {a l : Ro} {i : Nat} : backR [.val d, .val e] a i l = some l := bk_vals (fun r hr => by
  simp only [List.mem_cons, List.not_mem_nil, or_false] at hr
  rcases hr with rfl | rfl
  · exact ⟨d, rfl⟩
  · exact ⟨e, rfl⟩) l i
end DL

/-! P1: loops and comprehensions over typed lists. -/
namespace DL
open PySem PySem.Spec
/-- a statement's run to its end -/
def Runs (s : S) (ρ : Ro) (Q : Ro → Prop) : Prop := ∃ ρ', s ρ = .nx ρ' ∧ Q ρ'
theorem rn_seq {s t : S} {ρ ρ1 : Ro} {Q : Ro → Prop} (h : s ρ = .nx ρ1) (k : Runs t ρ1 Q) : Runs (sSeq s t) ρ Q := by
  obtain ⟨ρ', e, q⟩ := k
  exact ⟨ρ', by rw [x_seq, h, oand_nx, e], q⟩
theorem rn_out {s t : S} {ρ : Ro} {Q Q' : Ro → Prop} (h : ∃ ρ', s ρ = .nx ρ' ∧ Q' ρ') (k : ∀ ρ', Q' ρ' → Runs t ρ' Q) : Runs (sSeq s t) ρ Q := by
  obtain ⟨ρ', h, q⟩ := h
  exact rn_seq h (k ρ' q)
theorem rn_one {s : S} {ρ ρ' : Ro} {Q : Ro → Prop} (h : s ρ = .nx ρ') (q : Q ρ') : Runs s ρ Q := ⟨ρ', h, q⟩
section
variable {A : Type} {ρ ρ0 : Ro} {f : M Iter} {tgt : Tgt} {body : S} {elt : M R} {cond : M Bool} {vs : List Nat}
/-- one turn of a loop -/
def Turn (tgt : Tgt) (body : S) (d : D) (ρ : Ro) (Q : Ro → Prop) : Prop := ∃ ρ1, tgt d ρ = some ρ1 ∧ ∃ ρ2, (body ρ1 = .nx ρ2 ∨ body ρ1 = .cnt ρ2) ∧ Q ρ2
theorem Turn.nx {d : D} {Q : Ro → Prop} {ρ1 ρ2 : Ro} (h1 : tgt d ρ = some ρ1) (h2 : body ρ1 = .nx ρ2) (q : Q ρ2) : Turn tgt body d ρ Q := ⟨ρ1, h1, ρ2, .inl h2, q⟩
theorem Turn.runs {d : D} {Q : Ro → Prop} {ρ1 : Ro} (h1 : tgt d ρ = some ρ1) (h2 : Runs body ρ1 Q) : Turn tgt body d ρ Q :=
  let ⟨ρ2, e, q⟩ := h2
  ⟨ρ1, h1, ρ2, .inl e, q⟩
theorem Turn.ct {d : D} {Q : Ro → Prop} {ρ1 ρ2 : Ro} (h1 : tgt d ρ = some ρ1) (h2 : body ρ1 = .cnt ρ2) (q : Q ρ2) : Turn tgt body d ρ Q := ⟨ρ1, h1, ρ2, .inr h2, q⟩
theorem loop_T (enc : A → D) {xs : List A} (J : List A → Ro → Prop) (hs : ∀ dn x td, xs = dn ++ x :: td → ∀ ρ, J dn ρ → Turn tgt body (enc x) ρ (J (dn ++ [x]))) :
    ∀ (td dn : List A) (ρ : Ro), xs = dn ++ td → J dn ρ → ∃ ρ', loopF tgt body (td.map enc) ρ = .nx ρ' ∧ J xs ρ'
  | [], dn, ρ, e, j => ⟨ρ, rfl, by rw [List.append_nil] at e; rw [e]; exact j⟩
  | x :: td, dn, ρ, e, j => by
    obtain ⟨ρ1, h1, ρ2, h2, j2⟩ := hs dn x td e ρ j
    obtain ⟨ρ', e', j'⟩ := loop_T enc J hs td (dn ++ [x]) ρ2 (by rw [e, List.append_assoc]; rfl) j2
    refine ⟨ρ', ?_, j'⟩
    rw [List.map_cons, loop_cons, h1, goK_s]
    rcases h2 with h2 | h2
    · rw [h2, lo_nx, e']
    · rw [h2, lo_cnt, e']
theorem for_T (enc : A → D) {xs : List A} (J : List A → Ro → Prop) (hf : f ρ = .ok (itVals (xs.map enc)) ρ0) (h0 : J [] ρ0) (hs : ∀ dn x td, xs = dn ++ x :: td → ∀ ρ, J dn ρ → Turn tgt body (enc x) ρ (J (dn ++ [x]))) :
    ∃ ρ', sFor f tgt body ρ = .nx ρ' ∧ J xs ρ' := by
  obtain ⟨ρ', e, j⟩ := loop_T enc J hs xs [] ρ0 rfl h0
  exact ⟨ρ', by rw [x_for, hf, andS_ok, x_forV, e], j⟩
theorem loop_N {lo : Int} {n : Nat} (J : Nat → Ro → Prop) (hs : ∀ k, k < n → ∀ ρ, J k ρ → Turn tgt body (.int (lo + (k : Int))) ρ (J (k + 1))) (h0 : J 0 ρ) : ∃ ρ', loopF tgt body (rangeD lo n) ρ = .nx ρ' ∧ J n ρ' := by
  obtain ⟨ρ', e, j⟩ := loop_T (tgt := tgt) (body := body) (fun i : Nat => D.int (lo + (i : Int))) (xs := List.range n) (fun dn ρ => J dn.length ρ) (fun dn x td e ρ j => by
    have hx : x = dn.length := by
      have h1 : (List.range n)[dn.length]? = some x := by rw [e]; simp
      rw [List.getElem?_eq_some_iff] at h1
      obtain ⟨_, h1⟩ := h1
      rw [List.getElem_range] at h1
      exact h1.symm
    have hn : dn.length < n := by
      have := congrArg List.length e
      simp at this; omega
    subst hx
    have := hs dn.length hn ρ j
    rw [List.length_append]; exact this) (List.range n) [] ρ rfl h0
  rw [List.length_range] at j
  exact ⟨ρ', e, j⟩
theorem for_N {lo : Int} {n : Nat} (J : Nat → Ro → Prop) (hf : f ρ = .ok (itVals (rangeD lo n)) ρ0) (h0 : J 0 ρ0) (hs : ∀ k, k < n → ∀ ρ, J k ρ → Turn tgt body (.int (lo + (k : Int))) ρ (J (k + 1))) :
    ∃ ρ', sFor f tgt body ρ = .nx ρ' ∧ J n ρ' := by
  obtain ⟨ρ', e, j⟩ := loop_N J hs h0
  exact ⟨ρ', by rw [x_for, hf, andS_ok, x_forV, e], j⟩
theorem enum_map (enc : A → D) : ∀ (xs : List A) (i : Nat), ((xs.map enc).zipIdx i).map (fun p => D.tup [.int (p.2 : Nat), p.1]) = (xs.zipIdx i).map fun p => D.tup [.int (p.2 : Nat), enc p.1]
  | [], _ => rfl
  | x :: xs, i => by
    rw [List.map_cons, List.zipIdx_cons, List.map_cons, enum_map enc xs (i + 1), List.zipIdx_cons, List.map_cons]
theorem loop_E (enc : A → D) {xs : List A} (J : List A → Ro → Prop) (hs : ∀ dn x td, xs = dn ++ x :: td → ∀ ρ, J dn ρ → Turn tgt body (.tup [.int dn.length, enc x]) ρ (J (dn ++ [x]))) (h0 : J [] ρ) :
    ∃ ρ', loopF tgt body (enumD (xs.map enc)) ρ = .nx ρ' ∧ J xs ρ' := by
  have go : ∀ (td dn : List A) (ρ : Ro), xs = dn ++ td → J dn ρ → ∃ ρ', loopF tgt body ((td.zipIdx dn.length).map fun p => D.tup [.int (p.2 : Nat), enc p.1]) ρ = .nx ρ' ∧ J xs ρ' := by
    intro td
    induction td with
    | nil => exact fun dn ρ e j => ⟨ρ, rfl, by rw [List.append_nil] at e; rw [e]; exact j⟩
    | cons x td ih =>
      intro dn ρ e j
      obtain ⟨ρ1, h1, ρ2, h2, j2⟩ := hs dn x td e ρ j
      obtain ⟨ρ', e', j'⟩ := ih (dn ++ [x]) ρ2 (by rw [e, List.append_assoc]; rfl) j2
      rw [List.length_append, List.length_singleton] at e'
      refine ⟨ρ', ?_, j'⟩
      rw [List.zipIdx_cons, List.map_cons, loop_cons, h1, goK_s]
      rcases h2 with h2 | h2
      · rw [h2, lo_nx, e']
      · rw [h2, lo_cnt, e']
  obtain ⟨ρ', e, j⟩ := go xs [] ρ rfl h0
  refine ⟨ρ', ?_, j⟩
  rw [← e]
  exact congrArg (fun z => loopF tgt body z ρ) (enum_map enc xs 0)
theorem for_E (enc : A → D) {xs : List A} (J : List A → Ro → Prop) (hf : f ρ = .ok (itVals (enumD (xs.map enc))) ρ0) (h0 : J [] ρ0) (hs : ∀ dn x td, xs = dn ++ x :: td → ∀ ρ, J dn ρ → Turn tgt body (.tup [.int dn.length, enc x]) ρ (J (dn ++ [x]))) :
    ∃ ρ', sFor f tgt body ρ = .nx ρ' ∧ J xs ρ' := by
  obtain ⟨ρ', e, j⟩ := loop_E enc J hs h0
  exact ⟨ρ', by rw [x_for, hf, andS_ok, x_forV, e], j⟩
/-! ### comprehensions -/
/-- one item of a comprehension: taken, with the element d -/
def Item (tgt : Tgt) (cond : M Bool) (elt : M R) (vs : List Nat) (x : D) (ρ : Ro) (d : D) (ρ' : Ro) : Prop := ∃ ρ1 ρ2 r ρ3, tgt x ρ = some ρ1 ∧ cond ρ1 = .ok true ρ2 ∧ elt ρ2 = .ok r ρ3 ∧ escD r = some d ∧ wipeR ρ3 vs = ρ'
/-- a map, the state as it was -/
theorem comp_T (enc g : A → D) : ∀ (xs : List A) (acc : List D), (∀ x ∈ xs, Item tgt cond elt vs (enc x) ρ (g x) ρ) → acc.length + xs.length ≤ sizeLine →
    compN tgt cond elt vs (xs.map enc) acc ρ = .ok (acc ++ xs.map g) ρ
  | [], acc, _, _ => by rw [List.map_nil, List.map_nil, List.append_nil]; rfl
  | x :: xs, acc, h, hl => by
    rw [List.length_cons] at hl
    obtain ⟨ρ1, ρ2, r, ρ3, h1, h2, h3, h4, hp⟩ := h x List.mem_cons_self
    rw [List.map_cons, comp_yes h1 h2 h3 h4 (by omega), hp, comp_T enc g xs (acc ++ [g x]) (fun x hx => h x (List.mem_cons_of_mem _ hx)) (by rw [List.length_append, List.length_singleton]; omega), List.append_assoc]
    rfl
/-- a filter and a map, the state as it was -/
theorem comp_F (enc g : A → D) (q : A → Bool) : ∀ (xs : List A) (acc : List D), (∀ x ∈ xs, ∃ ρ1 ρ2, tgt (enc x) ρ = some ρ1 ∧ cond ρ1 = .ok (q x) ρ2 ∧ wipeR ρ2 vs = ρ ∧ (q x = true → ∃ r ρ3, elt ρ2 = .ok r ρ3 ∧ escD r = some (g x) ∧ wipeR ρ3 vs = ρ)) → acc.length + xs.length ≤ sizeLine →
    compN tgt cond elt vs (xs.map enc) acc ρ = .ok (acc ++ (xs.filter q).map g) ρ
  | [], acc, _, _ => by rw [List.filter_nil, List.map_nil, List.map_nil, List.append_nil]; rfl
  | x :: xs, acc, h, hl => by
    rw [List.length_cons] at hl
    obtain ⟨ρ1, ρ2, h1, h2, hw, h3⟩ := h x List.mem_cons_self
    cases e : q x with
    | false =>
      rw [e] at h2
      rw [List.map_cons, comp_no h1 h2, hw, comp_F enc g q xs acc (fun x hx => h x (List.mem_cons_of_mem _ hx)) (by omega), List.filter_cons, e]
      rfl
    | true =>
      rw [e] at h2
      obtain ⟨r, ρ3, k1, k2, k3⟩ := h3 e
      rw [List.map_cons, comp_yes h1 h2 k1 k2 (by omega), k3, comp_F enc g q xs (acc ++ [g x]) (fun x hx => h x (List.mem_cons_of_mem _ hx)) (by rw [List.length_append, List.length_singleton]; omega), List.append_assoc, List.filter_cons, e]
      rfl
/-- the state goes along -/
theorem comp_S (enc : A → D) {xs : List A} (J : List A → List D → Ro → Prop) (hs : ∀ dn x td, xs = dn ++ x :: td → ∀ acc ρ, J dn acc ρ → ∃ d ρ', Item tgt cond elt vs (enc x) ρ d ρ' ∧ J (dn ++ [x]) (acc ++ [d]) ρ') (hl : xs.length ≤ sizeLine) :
    ∀ (td dn : List A) (acc : List D) (ρ : Ro), xs = dn ++ td → acc.length = dn.length → J dn acc ρ → ∃ ds ρ', compN tgt cond elt vs (td.map enc) acc ρ = .ok ds ρ' ∧ ds.length = xs.length ∧ J xs ds ρ'
  | [], dn, acc, ρ, e, ha, j => ⟨acc, ρ, rfl, by rw [List.append_nil] at e; rw [e]; exact ha, by rw [List.append_nil] at e; rw [e]; exact j⟩
  | x :: td, dn, acc, ρ, e, ha, j => by
    obtain ⟨d, ρ', ⟨ρ1, ρ2, r, ρ3, h1, h2, h3, h4, hp⟩, j2⟩ := hs dn x td e acc ρ j
    have hlen := congrArg List.length e
    rw [List.length_append, List.length_cons] at hlen
    obtain ⟨ds, ρ'', e', l', j'⟩ := comp_S enc J hs hl td (dn ++ [x]) (acc ++ [d]) ρ' (by rw [e, List.append_assoc]; rfl) (by rw [List.length_append, List.length_append, ha]; rfl) j2
    refine ⟨ds, ρ'', ?_, l', j'⟩
    rw [List.map_cons, comp_yes h1 h2 h3 h4 (by omega), hp, e']
theorem comp_N {lo : Int} {n : Nat} (J : Nat → List D → Ro → Prop) (hs : ∀ k, k < n → ∀ acc ρ, J k acc ρ → ∃ d ρ', Item tgt cond elt vs (.int (lo + (k : Int))) ρ d ρ' ∧ J (k + 1) (acc ++ [d]) ρ') (hl : n ≤ sizeLine) (h0 : J 0 [] ρ) :
    ∃ ds ρ', compN tgt cond elt vs (rangeD lo n) [] ρ = .ok ds ρ' ∧ ds.length = n ∧ J n ds ρ' := by
  obtain ⟨ds, ρ', e, l, j⟩ := comp_S (tgt := tgt) (cond := cond) (elt := elt) (vs := vs) (fun i : Nat => D.int (lo + (i : Int))) (xs := List.range n) (fun dn acc ρ => J dn.length acc ρ) (fun dn x td e acc ρ j => by
    have hx : x = dn.length := by
      have h1 : (List.range n)[dn.length]? = some x := by rw [e]; simp
      rw [List.getElem?_eq_some_iff] at h1
      obtain ⟨_, h1⟩ := h1
      rw [List.getElem_range] at h1
      exact h1.symm
    have hn : dn.length < n := by
      have := congrArg List.length e
      simp at this; omega
    subst hx
    have := hs dn.length hn acc ρ j
    rw [List.length_append]; exact this) (by rw [List.length_range]; exact hl) (List.range n) [] [] ρ rfl rfl h0
  rw [List.length_range] at l j
  exact ⟨ds, ρ', e, l, j⟩
end
end DL

/-! P2: tame values: equality with themselves, repr. -/
namespace DL
open PySem PySem.Spec
mutual
def tame : D → Bool
  | .non => true
  | .bl _ => true
  | .int i => decide (-1000000000000 < i) && decide (i < 1000000000000)
  | .str x => (cs x).all fun c => decide (c < 128)
  | .tup ds => tames ds
  | .lst ds => tames ds
  | _ => false
def tames : List D → Bool
  | [] => true
  | d :: ds => tame d && tames ds
end
theorem tames_iff : ∀ {ds : List D}, tames ds = true ↔ ∀ d ∈ ds, tame d = true
  | [] => by simp [tames]
  | d :: ds => by
    show (tame d && tames ds) = true ↔ _
    rw [Bool.and_eq_true, tames_iff]; simp
theorem strOk_asc {x : Str} (h : ∀ c ∈ cs x, c < 128) : PyData.strOk x = true := Asc.ok (n := x.length) ⟨Nat.le_refl _, h⟩
theorem str_of_tame {x : Str} (h : tame (.str x) = true) : ∀ c ∈ cs x, c < 128 := fun c hc => of_decide_eq_true (List.all_eq_true.mp h c hc)
mutual
theorem tame_data : ∀ d : D, tame d = true → d.data = true
  | .non, _ => rfl
  | .bl _, _ => rfl
  | .int _, _ => rfl
  | .str _, _ => rfl
  | .tup ds, h => tames_data ds h
  | .lst ds, h => tames_data ds h
  | .dct _, h => by cases h
  | .ins _ _, h => by cases h
  | .scr _, h => by cases h
theorem tames_data : ∀ ds : List D, tames ds = true → D.datas ds = true
  | [], _ => rfl
  | d :: ds, h => by
    obtain ⟨h1, h2⟩ := Bool.and_eq_true_iff.mp (show (tame d && tames ds) = true from h)
    show (d.data && D.datas ds) = true
    rw [tame_data d h1, tames_data ds h2]; rfl
end
mutual
theorem tame_lay : ∀ d : D, tame d = true → d.py.canLay0 = true
  | .non, _ => rfl
  | .bl _, _ => rfl
  | .int _, _ => rfl
  | .str x, h => strOk_asc (str_of_tame h)
  | .tup ds, h => tames_lay ds h
  | .lst ds, h => tames_lay ds h
  | .dct _, h => by cases h
  | .ins _ _, h => by cases h
  | .scr _, h => by cases h
theorem tames_lay : ∀ ds : List D, tames ds = true → PyData.canLayAll0 (D.pys ds) = true
  | [], _ => rfl
  | d :: ds, h => by
    obtain ⟨h1, h2⟩ := Bool.and_eq_true_iff.mp (show (tame d && tames ds) = true from h)
    show (d.py.canLay0 && PyData.canLayAll0 (D.pys ds)) = true
    rw [tame_lay d h1, tames_lay ds h2]; rfl
end
theorem int_log {i : Int} (h : (decide (-1000000000000 < i) && decide (i < 1000000000000)) = true) : i.natAbs.log2 < 40 := by
  rw [Bool.and_eq_true, decide_eq_true_eq, decide_eq_true_eq] at h
  by_cases e : i.natAbs = 0
  · rw [e]; decide
  · exact (Nat.log2_lt e).mpr (by omega)
mutual
theorem tame_show : ∀ d : D, tame d = true → d.py.showable = true
  | .non, _ => rfl
  | .bl _, _ => rfl
  | .int _, h => decide_eq_true (Nat.lt_trans (int_log h) (by decide))
  | .str x, h => rfl
  | .tup ds, h => tames_show ds h
  | .lst ds, h => tames_show ds h
  | .dct _, h => by cases h
  | .ins _ _, h => by cases h
  | .scr _, h => by cases h
theorem tames_show : ∀ ds : List D, tames ds = true → PyData.showableAll (D.pys ds) = true
  | [], _ => rfl
  | d :: ds, h => by
    obtain ⟨h1, h2⟩ := Bool.and_eq_true_iff.mp (show (tame d && tames ds) = true from h)
    show (d.py.showable && PyData.showableAll (D.pys ds)) = true
    rw [tame_show d h1, tames_show ds h2]; rfl
end
mutual
theorem tame_short : ∀ d : D, tame d = true → d.py.leavesShort 13 = true
  | .non, _ => rfl
  | .bl _, _ => rfl
  | .int i, h => by
    have h' := h
    change (decide (-1000000000000 < i) && decide (i < 1000000000000)) = true at h'
    rw [Bool.and_eq_true, decide_eq_true_eq, decide_eq_true_eq] at h'
    exact decide_eq_true (PyData.shown_int_le2 (by omega) (by omega))
  | .str x, h => by
    show (x.cps.toList.all fun c => decide (c < 16 ^ 8)) = true
    exact List.all_eq_true.mpr fun c hc => decide_eq_true (Nat.lt_trans (str_of_tame h c hc) (by decide))
  | .tup ds, h => tames_short ds h
  | .lst ds, h => tames_short ds h
  | .dct _, h => by cases h
  | .ins _ _, h => by cases h
  | .scr _, h => by cases h
theorem tames_short : ∀ ds : List D, tames ds = true → PyData.leavesShortAll 13 (D.pys ds) = true
  | [], _ => rfl
  | d :: ds, h => by
    obtain ⟨h1, h2⟩ := Bool.and_eq_true_iff.mp (show (tame d && tames ds) = true from h)
    show (d.py.leavesShort 13 && PyData.leavesShortAll 13 (D.pys ds)) = true
    rw [tame_short d h1, tames_short ds h2]; rfl
end
mutual
theorem tame_eqv : ∀ d : D, tame d = true → PyData.eqv d.py d.py = true
  | .non, _ => rfl
  | .bl b, _ => by show PyData.eqv (.bool b) (.bool b) = true; cases b <;> rfl
  | .int i, _ => by show PyData.eqv (.int i) (.int i) = true; exact beq_self_eq_true i
  | .str x, h => by show PyData.eqv (.str x) (.str x) = true; exact beq_self_eq_true x
  | .tup ds, h => tames_eqv ds h
  | .lst ds, h => tames_eqv ds h
  | .dct _, h => by cases h
  | .ins _ _, h => by cases h
  | .scr _, h => by cases h
theorem tames_eqv : ∀ ds : List D, tames ds = true → PyData.eqvAll (D.pys ds) (D.pys ds) = true
  | [], _ => rfl
  | d :: ds, h => by
    obtain ⟨h1, h2⟩ := Bool.and_eq_true_iff.mp (show (tame d && tames ds) = true from h)
    show (PyData.eqv d.py d.py && PyData.eqvAll (D.pys ds) (D.pys ds)) = true
    rw [tame_eqv d h1, tames_eqv ds h2]; rfl
end
/-! ### what is shown is plain -/
def As (x : Str) : Prop := ∀ c ∈ cs x, c < 128
theorem As.app {x y : Str} (h : As x) (k : As y) : As (x ++ y) := fun c hc => by
  rw [cs_append] at hc
  exact (List.mem_append.mp hc).elim (h c) (k c)
theorem rc_asc : ∀ c < 128, (∀ e ∈ Builtin.Str.reprChar 39 c, e < 128) ∧ ∀ e ∈ Builtin.Str.reprChar 34 c, e < 128 := by decide +kernel
theorem fold_rc (q : Nat) (hq : q = 39 ∨ q = 34) : ∀ (l : List Nat) (acc : Array Nat), (∀ c ∈ l, c < 128) → (∀ c ∈ acc.toList, c < 128) → ∀ c ∈ (l.foldl (fun out c => out ++ (Builtin.Str.reprChar q c).toArray) acc).toList, c < 128
  | [], _, _, h => h
  | c :: l, acc, hl, h => by
    refine fold_rc q hq l _ (fun d hd => hl d (List.mem_cons_of_mem _ hd)) fun e he => ?_
    rw [Array.toList_append] at he
    rcases List.mem_append.mp he with he | he
    · exact h e he
    · have := rc_asc c (hl c List.mem_cons_self)
      rcases hq with rfl | rfl
      · exact this.1 e he
      · exact this.2 e he
theorem quote_or (x : Str) : reprQuote x = 39 ∨ reprQuote x = 34 := by
  unfold reprQuote
  split
  · exact .inr rfl
  · exact .inl rfl
theorem As.repr {x : Str} (h : As x) : As (reprText x) := fun c hc => by
  unfold reprText at hc
  change c ∈ ((x.cps.foldl (fun out c => out ++ (Builtin.Str.reprChar (reprQuote x) c).toArray) #[reprQuote x]).push (reprQuote x)).toList at hc
  have hq := quote_or x
  have q128 : reprQuote x < 128 := by rcases hq with e | e <;> rw [e] <;> decide
  rw [Array.toList_push] at hc
  rcases List.mem_append.mp hc with hc | hc
  · rw [← Array.foldl_toList] at hc
    refine fold_rc _ hq x.cps.toList _ h (fun e he => ?_) c hc
    have : e = reprQuote x := by simpa using he
    rw [this]; exact q128
  · have : c = reprQuote x := by simpa using hc
    rw [this]; exact q128
theorem As.int (i : Int) : As (PyData.shown (.int i)) := fun c hc => by
  refine Classical.byContradiction fun n => ?_
  exact PyProof.Rows.shown_int_free' (k := c) ⟨by omega, by omega⟩ i hc
theorem As.lits : As "None" ∧ As "True" ∧ As "False" ∧ As "[" ∧ As "]" ∧ As ", " ∧ As "(" ∧ As ")" ∧ As ",)" ∧ As "" := by
  refine ⟨?_, ?_, ?_, ?_, ?_, ?_, ?_, ?_, ?_, ?_⟩ <;> (unfold As; decide +kernel)
theorem As.from : ∀ (ts : List Str) (k : Nat) (acc : Str), (∀ t ∈ ts, As t) → As acc → As (textFrom k acc ts)
  | [], _, _, _, h => h
  | t :: ts, k, acc, ht, h => by
    refine As.from ts (k + 1) _ (fun u hu => ht u (List.mem_cons_of_mem _ hu)) ?_
    refine As.app (As.app h ?_) (ht t List.mem_cons_self)
    split
    · exact As.lits.2.2.2.2.2.1
    · exact As.lits.2.2.2.2.2.2.2.2.2
theorem As.join : ∀ (ts : List Str), (∀ t ∈ ts, As t) → As (Str.join ", " ts)
  | [], _ => As.lits.2.2.2.2.2.2.2.2.2
  | [t], h => h t List.mem_cons_self
  | t :: u :: r, h => As.app (As.app (h t List.mem_cons_self) As.lits.2.2.2.2.2.1) (As.join (u :: r) fun v hv => h v (List.mem_cons_of_mem _ hv))
mutual
theorem tame_as : ∀ d : D, tame d = true → As d.py.shown
  | .non, _ => As.lits.1
  | .bl b, _ => by cases b <;> first | exact As.lits.2.1 | exact As.lits.2.2.1
  | .int i, _ => As.int i
  | .str x, h => As.repr (str_of_tame h)
  | .tup ds, h => by
    show As (tupleText (PyData.shownAll (D.pys ds)))
    unfold tupleText
    refine As.app (As.app As.lits.2.2.2.2.2.2.1 (As.join _ (tames_as ds h))) ?_
    split
    · exact As.lits.2.2.2.2.2.2.2.2.1
    · exact As.lits.2.2.2.2.2.2.2.1
  | .lst ds, h => by
    show As (listText (PyData.shownAll (D.pys ds)))
    exact As.app (As.from _ _ _ (tames_as ds h) As.lits.2.2.2.1) As.lits.2.2.2.2.1
  | .dct _, h => by cases h
  | .ins _ _, h => by cases h
  | .scr _, h => by cases h
theorem tames_as : ∀ ds : List D, tames ds = true → ∀ t ∈ PyData.shownAll (D.pys ds), As t
  | [], _, t, ht => absurd ht List.not_mem_nil
  | d :: ds, h, t, ht => by
    obtain ⟨h1, h2⟩ := Bool.and_eq_true_iff.mp (show (tame d && tames ds) = true from h)
    rcases List.mem_cons.mp (show t ∈ d.py.shown :: PyData.shownAll (D.pys ds) from ht) with rfl | ht
    · exact tame_as d h1
    · exact tames_as ds h2 t ht
end
/-! ### tame, of a depth and a weight -/
structure Tm (k w : Nat) (d : D) : Prop where
  ok : tame d = true
  dep : d.py.depth ≤ k
  wt : d.py.weight ≤ w
theorem Tm.mono {k k' w w' : Nat} {d : D} (h : Tm k w d) (a : k ≤ k') (b : w ≤ w') : Tm k' w' d := ⟨h.ok, Nat.le_trans h.dep a, Nat.le_trans h.wt b⟩
theorem Tm.non : Tm 0 0 .non := ⟨rfl, Nat.le_refl _, Nat.le_refl _⟩
theorem Tm.bl (b : Bool) : Tm 0 0 (.bl b) := ⟨rfl, Nat.le_refl _, Nat.le_refl _⟩
theorem Tm.int {i : Int} (h1 : -1000000000000 < i) (h2 : i < 1000000000000) : Tm 0 40 (.int i) := by
  have h : (decide (-1000000000000 < i) && decide (i < 1000000000000)) = true := by rw [decide_eq_true h1, decide_eq_true h2]; rfl
  refine ⟨h, Nat.le_refl _, ?_⟩
  show (if i == 0 then 0 else i.natAbs.log2 + 1) ≤ 40
  split
  · omega
  · have := int_log h; omega
theorem Tm.str {n : Nat} {x : Str} (h : Asc n x) : Tm 0 n (.str x) := ⟨List.all_eq_true.mpr fun c hc => decide_eq_true (h.2 c hc), Nat.le_refl _, h.1⟩
theorem depths_le {k : Nat} : ∀ {ds : List D}, (∀ d ∈ ds, d.py.depth ≤ k) → PyData.depthAll (D.pys ds) ≤ k
  | [], _ => Nat.zero_le _
  | d :: ds, h => by
    show max d.py.depth (PyData.depthAll (D.pys ds)) ≤ k
    exact Nat.max_le.mpr ⟨h d List.mem_cons_self, depths_le fun e he => h e (List.mem_cons_of_mem _ he)⟩
theorem weights_le {w : Nat} : ∀ {ds : List D}, (∀ d ∈ ds, d.py.weight ≤ w) → PyData.weightAll (D.pys ds) ≤ ds.length * (w + 1)
  | [], _ => Nat.zero_le _
  | d :: ds, h => by
    show d.py.weight + 1 + PyData.weightAll (D.pys ds) ≤ (ds.length + 1) * (w + 1)
    have h1 := h d List.mem_cons_self
    have h2 := weights_le fun e he => h e (List.mem_cons_of_mem _ he)
    rw [Nat.succ_mul]; omega
theorem Tm.lst {k w n : Nat} {ds : List D} (h : ∀ d ∈ ds, Tm k w d) (hl : ds.length ≤ n) : Tm (k + 1) (n * (w + 1)) (.lst ds) :=
  ⟨tames_iff.mpr fun d hd => (h d hd).ok, Nat.succ_le_succ (depths_le fun d hd => (h d hd).dep), Nat.le_trans (weights_le fun d hd => (h d hd).wt) (Nat.mul_le_mul_right _ hl)⟩
theorem Tm.tup {k w n : Nat} {ds : List D} (h : ∀ d ∈ ds, Tm k w d) (hl : ds.length ≤ n) : Tm (k + 1) (n * (w + 1)) (.tup ds) :=
  ⟨tames_iff.mpr fun d hd => (h d hd).ok, Nat.succ_le_succ (depths_le fun d hd => (h d hd).dep), Nat.le_trans (weights_le fun d hd => (h d hd).wt) (Nat.mul_le_mul_right _ hl)⟩
theorem Tm.pyOk {k w : Nat} {d : D} (h : Tm k w d) (hk : k ≤ 64) : pyOk d = true := by
  unfold DL.pyOk SeqAt.shaped
  rw [tame_data d h.ok, tame_lay d h.ok, decide_eq_true (Nat.le_trans h.dep hk)]; rfl
theorem Tm.eq {k w : Nat} {d : D} (h : Tm k w d) (hk : k ≤ 64) : opEq d d = some (.val (.bl true)) := by
  unfold opEq
  rw [h.pyOk hk, if_pos (by rfl), tame_eqv d h.ok]; rfl
theorem Tm.ne {k w : Nat} {d : D} (h : Tm k w d) (hk : k ≤ 64) : opNe d d = some (.val (.bl false)) := by
  unfold opNe
  rw [h.pyOk hk, if_pos (by rfl), tame_eqv d h.ok]; rfl
theorem Tm.shown {k w : Nat} {d : D} (h : Tm k w d) (hk : k < 64) (hw : w ≤ 1000000) : reprOf d = some (.val (.str d.py.shown)) := by
  unfold reprOf
  rw [if_pos ⟨tame_data d h.ok, tame_show d h.ok, Nat.lt_of_le_of_lt h.dep hk, PyData.shown_fits (B := 13) (by decide) (by decide) (tame_short d h.ok) (Nat.le_trans h.wt (Nat.le_trans hw (by decide)))⟩]; rfl
theorem Tm.rT {k w : Nat} {ds : List D} (h : Tm k w (.tup ds)) (hk : k < 64) (hw : w ≤ 1000000) : cRepr [.tup ds] = some (.val (.str (D.tup ds).py.shown)) := h.shown hk hw
theorem Tm.rL {k w : Nat} {ds : List D} (h : Tm k w (.lst ds)) (hk : k < 64) (hw : w ≤ 1000000) : cRepr [.lst ds] = some (.val (.str (D.lst ds).py.shown)) := h.shown hk hw
theorem Tm.sok {k w : Nat} {d : D} (h : Tm k w d) : PyData.strOk d.py.shown = true := strOk_asc (tame_as d h.ok)
end DL

/-! K2d: the denotations. -/
namespace DL
open PySem PySem.Spec PyProof.Rows L2
/-! ## the denotations -/
def K_RESERVED : List D := [.str "after", .str "all", .str "and", .str "arrow", .str "boot", .str "branch", .str "choose", .str "deep", .str "defers", .str "do", .str "end", .str "entry", .str "events", .str "exit", .str "false", .str "feed", .str "from", .str "hears", .str "if", .str "in", .str "inner", .str "is", .str "keep", .str "leaf", .str "none", .str "not", .str "on", .str "one", .str "or", .str "outer", .str "part", .str "queue", .str "recall", .str "shallow", .str "start", .str "tell", .str "tells", .str "to", .str "true", .str "use", .str "value", .str "whole", .str "words"]
/-- _law_pool: slots 0 script, 1 hand, 2 at, 3 cell, 4 size, 5 low, 6 k -/
noncomputable def b1__law_pool : S :=
  (sSeq (sAsg 5 (eBin opMod (eCallB cInt (eCons (eBin opAdd (eBin opAdd (eBin opAdd (eBin opMulA (eVar 5) (eVar 5)) (eBin opMulA (eC (.int 48271)) (eVar 6))) (eVar 2)) (eC (.int 5))) eNil)) (eC (.int 2147483629))))
  (sAsg 4 (eBin opAdd (eBin opMulA (eVar 4) (eC (.int 2147483629))) (eVar 5))))
theorem x_b1__law_pool {ρ : Ro} : b1__law_pool ρ = (sSeq (sAsg 5 (eBin opMod (eCallB cInt (eCons (eBin opAdd (eBin opAdd (eBin opAdd (eBin opMulA (eVar 5) (eVar 5)) (eBin opMulA (eC (.int 48271)) (eVar 6))) (eVar 2)) (eC (.int 5))) eNil)) (eC (.int 2147483629))))
  (sAsg 4 (eBin opAdd (eBin opMulA (eVar 4) (eC (.int 2147483629))) (eVar 5)))) ρ := rfl
noncomputable def b2__law_pool : S :=
  (sSeq (sAsg 4 (eCallB cAbs (eCons (eCallB cInt (eCons (eVar 3) eNil)) eNil)))
  (sSeq (sIf (eBool (eBin opLt (eVar 4) (eBin opPow (eC (.int 10)) (eC (.int 18))))) (sSeq (sAsg 5 (eBin opMod (eCallB cInt (eCons (eBin opAdd (eBin opMulA (eBin opAdd (eVar 4) (eC (.int 7))) (eC (.int 1103515245))) (eBin opMulA (eVar 2) (eC (.int 905842137)))) eNil)) (eC (.int 2147483647))))
  (sSeq (sAsg 4 (eFz (eVar 5)))
  (sFor (itRange (eCons (eC (.int 7)) eNil)) (tgName 6) b1__law_pool))) sNext)
  (sExpr (eMeth "list" 1 moAppend (eCons (eBin opMod (eCallB cInt (eCons (eVar 4) eNil)) (eBin opPow (eBin opPow (eC (.int 10)) (eC (.int 60))) (eC (.int 10)))) eNil)))))
theorem x_b2__law_pool {ρ : Ro} : b2__law_pool ρ = (sSeq (sAsg 4 (eCallB cAbs (eCons (eCallB cInt (eCons (eVar 3) eNil)) eNil)))
  (sSeq (sIf (eBool (eBin opLt (eVar 4) (eBin opPow (eC (.int 10)) (eC (.int 18))))) (sSeq (sAsg 5 (eBin opMod (eCallB cInt (eCons (eBin opAdd (eBin opMulA (eBin opAdd (eVar 4) (eC (.int 7))) (eC (.int 1103515245))) (eBin opMulA (eVar 2) (eC (.int 905842137)))) eNil)) (eC (.int 2147483647))))
  (sSeq (sAsg 4 (eFz (eVar 5)))
  (sFor (itRange (eCons (eC (.int 7)) eNil)) (tgName 6) b1__law_pool))) sNext)
  (sExpr (eMeth "list" 1 moAppend (eCons (eBin opMod (eCallB cInt (eCons (eVar 4) eNil)) (eBin opPow (eBin opPow (eC (.int 10)) (eC (.int 60))) (eC (.int 10)))) eNil))))) ρ := rfl
noncomputable def d__law_pool : S :=
  (sSeq (sAsg 1 (eLst eNil))
  (sSeq (sFor (itEnum (itE (eSl (eVar 0) eNoP (eP (eC (.int 63)))))) (tgTup 2 (tgCons (tgName 2) (tgCons (tgName 3) tgNil))) b2__law_pool)
  (sRet (eBin opAdd (eVar 1) (eLst (eCons (eC (.int 0)) eNil))))))
noncomputable def F__law_pool : Ro → Res R := runF 6 d__law_pool
/-- _law_draw: slots 0 hand, 1 many, 2 found -/
noncomputable def b1__law_draw : S :=
  (sExpr (eMeth "list" 0 moPopAt (eCons (eC (.int 0)) eNil)))
theorem x_b1__law_draw {ρ : Ro} : b1__law_draw ρ = (sExpr (eMeth "list" 0 moPopAt (eCons (eC (.int 0)) eNil))) ρ := rfl
noncomputable def t2__law_draw : M Bool :=
  (eAnd (eBool (eBin opGt (eCallB cLen (eCons (eVar 0) eNil)) (eC (.int 1)))) (eBool (eBin opEq (eBin opIx (eVar 0) (eC (.int 0))) (eC (.int 0)))))
theorem x_t2__law_draw {ρ : Ro} : t2__law_draw ρ = (eAnd (eBool (eBin opGt (eCallB cLen (eCons (eVar 0) eNil)) (eC (.int 1)))) (eBool (eBin opEq (eBin opIx (eVar 0) (eC (.int 0))) (eC (.int 0))))) ρ := rfl
noncomputable def d__law_draw : S :=
  (sSeq (sWhile t2__law_draw b1__law_draw)
  (sSeq (sAsg 2 (eBin opMod (eCallB cInt (eCons (eBin opIx (eVar 0) (eC (.int 0))) eNil)) (eVar 1)))
  (sSeq (sSet 0 (eBin opFdiv (eBin opIx (eVar 0) (eC (.int 0))) (eVar 1)) (eC (.int 0)))
  (sRet (eVar 2)))))
noncomputable def F__law_draw : Ro → Res R := runF 1 d__law_draw
/-- _law_reserved: slots 0 words -/
noncomputable def d__law_reserved : S :=
  (sSeq (sAsg 0 (eC (.str "after all and arrow boot branch choose deep defers do end entry events exit false feed")))
  (sSeq (sAsg 0 (eBin opAdd (eVar 0) (eC (.str " from hears if in inner is keep leaf none not on one or outer part queue recall"))))
  (sSeq (sAsg 0 (eBin opAdd (eVar 0) (eC (.str " shallow start tell tells to true use value whole words"))))
  (sRet (eMS mSplit (eVar 0) (eCons (eC (.str " ")) eNil))))))
noncomputable def F__law_reserved : Ro → Res R := runF 1 d__law_reserved
/-- _law_named: slots 0 hand, 1 most, 2 letters, 3 text, 4 many, 5 k -/
noncomputable def b1__law_named : S :=
  (sAsg 3 (eBin opAdd (eVar 3) (eBin opIx (eBin opAdd (eVar 2) (eC (.str "0123456789"))) (eCall F__law_draw (eCons (eVar 0) (eCons (eC (.int 36)) eNil))))))
theorem x_b1__law_named {ρ : Ro} : b1__law_named ρ = (sAsg 3 (eBin opAdd (eVar 3) (eBin opIx (eBin opAdd (eVar 2) (eC (.str "0123456789"))) (eCall F__law_draw (eCons (eVar 0) (eCons (eC (.int 36)) eNil)))))) ρ := rfl
noncomputable def d__law_named : S :=
  (sSeq (sAsg 2 (eC (.str "abcdefghijklmnopqrstuvwxyz")))
  (sSeq (sAsg 3 (eBin opIx (eVar 2) (eCall F__law_draw (eCons (eVar 0) (eCons (eC (.int 26)) eNil)))))
  (sSeq (sAsg 4 (eCall F__law_draw (eCons (eVar 0) (eCons (eC (.int 4)) eNil))))
  (sSeq (sIf (eBool (eBin opEq (eVar 4) (eC (.int 3)))) (sAsg 4 (eCall F__law_draw (eCons (eVar 0) (eCons (eVar 1) eNil)))) sNext)
  (sSeq (sFor (itRange (eCons (eVar 4) eNil)) (tgName 5) b1__law_named)
  (sRet (eBin opAdd (eVar 3) (eBin opMulA (eC (.str "x")) (eCallB cInt (eCons (eBin opIn (eVar 3) (eCall F__law_reserved eNil)) eNil))))))))))
noncomputable def F__law_named : Ro → Res R := runF 4 d__law_named
/-- _law_long: slots 0 hand, 1 text -/
noncomputable def d__law_long : S :=
  (sSeq (sAsg 1 (eFz (eCall F__law_named (eCons (eVar 0) (eCons (eC (.int 8)) eNil)))))
  (sSeq (sIf (eBool (eBin opEq (eCall F__law_draw (eCons (eVar 0) (eCons (eC (.int 3)) eNil))) (eC (.int 2)))) (sAsg 1 (eBin opAdd (eBin opAdd (eVar 1) (eC (.str "."))) (eCall F__law_named (eCons (eVar 0) (eCons (eC (.int 8)) eNil))))) sNext)
  (sRet (eVar 1))))
noncomputable def F__law_long : Ro → Res R := runF 1 d__law_long
/-- _law_some_ranges: slots 0 hand, 1 many, 2 spread, 3 wide, 4 rows, 5 k, 6 name, 7 low, 8 row -/
noncomputable def e1__law_some_ranges : M R :=
  (eBin opIx (eVar 8) (eC (.int 0)))
theorem x_e1__law_some_ranges {ρ : Ro} : e1__law_some_ranges ρ = (eBin opIx (eVar 8) (eC (.int 0))) ρ := rfl
noncomputable def b2__law_some_ranges : S :=
  (sSeq (sAsg 6 (eFz (eCall F__law_long (eCons (eVar 0) eNil))))
  (sSeq (sIf (eBool (eBin opIn (eVar 6) (eComp (itN 4) (tgName 8) eYes e1__law_some_ranges (([("row", 8)] : List (Str × Nat)).map (·.2))))) (sAsg 6 (eBin opAdd (eC (.str "anothername")) (eCallB cStr (eCons (eVar 5) eNil)))) sNext)
  (sSeq (sAsg 7 (eBin opSub (eCall F__law_draw (eCons (eVar 0) (eCons (eBin opAdd (eBin opMulA (eC (.int 2)) (eVar 2)) (eC (.int 1))) eNil))) (eVar 2)))
  (sExpr (eMeth "list" 4 moAppend (eCons (eTup (eCons (eFz (eVar 6)) (eCons (eFz (eVar 7)) (eCons (eBin opAdd (eVar 7) (eCall F__law_draw (eCons (eVar 0) (eCons (eVar 3) eNil)))) eNil)))) eNil))))))
theorem x_b2__law_some_ranges {ρ : Ro} : b2__law_some_ranges ρ = (sSeq (sAsg 6 (eFz (eCall F__law_long (eCons (eVar 0) eNil))))
  (sSeq (sIf (eBool (eBin opIn (eVar 6) (eComp (itN 4) (tgName 8) eYes e1__law_some_ranges (([("row", 8)] : List (Str × Nat)).map (·.2))))) (sAsg 6 (eBin opAdd (eC (.str "anothername")) (eCallB cStr (eCons (eVar 5) eNil)))) sNext)
  (sSeq (sAsg 7 (eBin opSub (eCall F__law_draw (eCons (eVar 0) (eCons (eBin opAdd (eBin opMulA (eC (.int 2)) (eVar 2)) (eC (.int 1))) eNil))) (eVar 2)))
  (sExpr (eMeth "list" 4 moAppend (eCons (eTup (eCons (eFz (eVar 6)) (eCons (eFz (eVar 7)) (eCons (eBin opAdd (eVar 7) (eCall F__law_draw (eCons (eVar 0) (eCons (eVar 3) eNil)))) eNil)))) eNil)))))) ρ := rfl
noncomputable def d__law_some_ranges : S :=
  (sSeq (sAsg 4 (eLst eNil))
  (sSeq (sFor (itRange (eCons (eVar 1) eNil)) (tgName 5) b2__law_some_ranges)
  (sRet (eVar 4))))
noncomputable def F__law_some_ranges : Ro → Res R := runF 5 d__law_some_ranges
/-- _law_some_values: slots 0 hand, 1 ranges, 2 rows, 3 name, 4 low, 5 high, 6 way, 7 inside -/
noncomputable def b1__law_some_values : S :=
  (sSeq (sAsg 6 (eCall F__law_draw (eCons (eVar 0) (eCons (eC (.int 4)) eNil))))
  (sSeq (sAsg 7 (eBin opAdd (eVar 4) (eCall F__law_draw (eCons (eVar 0) (eCons (eBin opAdd (eBin opSub (eVar 5) (eVar 4)) (eC (.int 1))) eNil)))))
  (sExpr (eMeth "list" 2 moAppend (eCons (eBin opIx (eLst (eCons (eFz (eVar 4)) (eCons (eFz (eVar 5)) (eCons (eFz (eVar 7)) eNil)))) (eCallB cMin2 (eCons (eVar 6) (eCons (eC (.int 2)) eNil)))) eNil)))))
theorem x_b1__law_some_values {ρ : Ro} : b1__law_some_values ρ = (sSeq (sAsg 6 (eCall F__law_draw (eCons (eVar 0) (eCons (eC (.int 4)) eNil))))
  (sSeq (sAsg 7 (eBin opAdd (eVar 4) (eCall F__law_draw (eCons (eVar 0) (eCons (eBin opAdd (eBin opSub (eVar 5) (eVar 4)) (eC (.int 1))) eNil)))))
  (sExpr (eMeth "list" 2 moAppend (eCons (eBin opIx (eLst (eCons (eFz (eVar 4)) (eCons (eFz (eVar 5)) (eCons (eFz (eVar 7)) eNil)))) (eCallB cMin2 (eCons (eVar 6) (eCons (eC (.int 2)) eNil)))) eNil))))) ρ := rfl
noncomputable def d__law_some_values : S :=
  (sSeq (sAsg 2 (eLst eNil))
  (sSeq (sFor (itN 1) (tgTup 3 (tgCons (tgName 3) (tgCons (tgName 4) (tgCons (tgName 5) tgNil)))) b1__law_some_values)
  (sRet (eVar 2))))
noncomputable def F__law_some_values : Ro → Res R := runF 6 d__law_some_values
/-- _law_set: slots 0 hand, 1 ranges, 2 now, 3 name, 4 low, 5 high, 6 pairs, 7 k, 8 other, 9 inside, 10 rows, 11 worth, 12 constant, 13 pair -/
noncomputable def b1__law_set : S :=
  (sSeq (sAsg 8 (eBin opIx (eBin opIx (eVar 1) (eCall F__law_draw (eCons (eVar 0) (eCons (eCallB cLen (eCons (eVar 1) eNil)) eNil)))) (eC (.int 0))))
  (sExpr (eMeth "list" 6 moAppend (eCons (eTup (eCons (eFz (eVar 8)) (eCons (eBin opSub (eCall F__law_draw (eCons (eVar 0) (eCons (eC (.int 199)) eNil))) (eC (.int 99))) eNil))) eNil))))
theorem x_b1__law_set {ρ : Ro} : b1__law_set ρ = (sSeq (sAsg 8 (eBin opIx (eBin opIx (eVar 1) (eCall F__law_draw (eCons (eVar 0) (eCons (eCallB cLen (eCons (eVar 1) eNil)) eNil)))) (eC (.int 0))))
  (sExpr (eMeth "list" 6 moAppend (eCons (eTup (eCons (eFz (eVar 8)) (eCons (eBin opSub (eCall F__law_draw (eCons (eVar 0) (eCons (eC (.int 199)) eNil))) (eC (.int 99))) eNil))) eNil)))) ρ := rfl
noncomputable def e2__law_set : M R :=
  (eBin opMulA (eBin opIx (eVar 13) (eC (.int 1))) (eBin opIx (eVar 2) (eBin opIx (eVar 13) (eC (.int 0)))))
theorem x_e2__law_set {ρ : Ro} : e2__law_set ρ = (eBin opMulA (eBin opIx (eVar 13) (eC (.int 1))) (eBin opIx (eVar 2) (eBin opIx (eVar 13) (eC (.int 0))))) ρ := rfl
noncomputable def d__law_set : S :=
  (sSeq (sTgt (tgTup 3 (tgCons (tgName 3) (tgCons (tgName 4) (tgCons (tgName 5) tgNil)))) (eBin opIx (eVar 1) (eCall F__law_draw (eCons (eVar 0) (eCons (eCallB cLen (eCons (eVar 1) eNil)) eNil)))))
  (sSeq (sAsg 6 (eLst eNil))
  (sSeq (sFor (itRange (eCons (eCall F__law_draw (eCons (eVar 0) (eCons (eC (.int 3)) eNil))) eNil)) (tgName 7) b1__law_set)
  (sSeq (sAsg 9 (eBin opAdd (eVar 4) (eCall F__law_draw (eCons (eVar 0) (eCons (eBin opAdd (eBin opSub (eVar 5) (eVar 4)) (eC (.int 1))) eNil)))))
  (sSeq (sAsg 10 (eBin opAdd (eBin opMulA (eLst (eCons (eFz (eVar 9)) eNil)) (eC (.int 10))) (eLst (eCons (eFz (eVar 4)) (eCons (eFz (eVar 4)) (eCons (eFz (eVar 5)) (eCons (eFz (eVar 5)) (eCons (eBin opSub (eVar 4) (eC (.int 1))) (eCons (eBin opAdd (eVar 5) (eC (.int 1))) eNil)))))))))
  (sSeq (sAsg 11 (eBin opIx (eVar 10) (eCall F__law_draw (eCons (eVar 0) (eCons (eC (.int 16)) eNil)))))
  (sSeq (sAsg 12 (eBin opSub (eVar 11) (eCallB cSum (eCons (eComp (itN 6) (tgName 13) eYes e2__law_set (([("pair", 13)] : List (Str × Nat)).map (·.2))) eNil))))
  (sSeq (sIf (eBool (eChain opLe opLe (eVar 4) (eVar 11) (eVar 5))) (sSet 2 (eFz (eVar 11)) (eVar 3)) sNext)
  (sRet (eTup (eCons (eC (.str "set")) (eCons (eFz (eVar 3)) (eCons (eFz (eVar 12)) (eCons (eFz (eVar 6)) eNil))))))))))))))
noncomputable def F__law_set : Ro → Res R := runF 11 d__law_set
/-- _law_some_deeds: slots 0 hand, 1 ranges, 2 values, 3 words, 4 now, 5 k, 6 row, 7 rows -/
noncomputable def b1__law_some_deeds : S :=
  (sSet 4 (eBin opIx (eVar 2) (eVar 5)) (eBin opIx (eVar 6) (eC (.int 0))))
theorem x_b1__law_some_deeds {ρ : Ro} : b1__law_some_deeds ρ = (sSet 4 (eBin opIx (eVar 2) (eVar 5)) (eBin opIx (eVar 6) (eC (.int 0)))) ρ := rfl
noncomputable def b2__law_some_deeds : S :=
  (sIf (eOr (eNot (eTest (eVar 1))) (eBool (eBin opEq (eCall F__law_draw (eCons (eVar 0) (eCons (eC (.int 3)) eNil))) (eC (.int 2))))) (sExpr (eMeth "list" 7 moAppend (eCons (eTup (eCons (eC (.str "tell")) (eCons (eBin opIx (eVar 3) (eCall F__law_draw (eCons (eVar 0) (eCons (eC (.int 3)) eNil)))) eNil))) eNil))) (sExpr (eMeth "list" 7 moAppend (eCons (eCall F__law_set (eCons (eVar 0) (eCons (eVar 1) (eCons (eVar 4) eNil)))) eNil))))
theorem x_b2__law_some_deeds {ρ : Ro} : b2__law_some_deeds ρ = (sIf (eOr (eNot (eTest (eVar 1))) (eBool (eBin opEq (eCall F__law_draw (eCons (eVar 0) (eCons (eC (.int 3)) eNil))) (eC (.int 2))))) (sExpr (eMeth "list" 7 moAppend (eCons (eTup (eCons (eC (.str "tell")) (eCons (eBin opIx (eVar 3) (eCall F__law_draw (eCons (eVar 0) (eCons (eC (.int 3)) eNil)))) eNil))) eNil))) (sExpr (eMeth "list" 7 moAppend (eCons (eCall F__law_set (eCons (eVar 0) (eCons (eVar 1) (eCons (eVar 4) eNil)))) eNil)))) ρ := rfl
noncomputable def d__law_some_deeds : S :=
  (sSeq (sAsg 4 eDct0)
  (sSeq (sFor (itEnum (itN 1)) (tgTup 2 (tgCons (tgName 5) (tgCons (tgName 6) tgNil))) b1__law_some_deeds)
  (sSeq (sAsg 7 (eLst eNil))
  (sSeq (sFor (itRange (eCons (eBin opMod (eBin opAdd (eC (.int 3)) (eCall F__law_draw (eCons (eVar 0) (eCons (eC (.int 11)) eNil)))) (eC (.int 11))) eNil)) (tgName 5) b2__law_some_deeds)
  (sRet (eVar 7))))))
noncomputable def F__law_some_deeds : Ro → Res R := runF 4 d__law_some_deeds
/-- _law_sum_of: slots 0 deed, 1 now, 2 pair -/
noncomputable def e1__law_sum_of : M R :=
  (eBin opMulA (eBin opIx (eVar 2) (eC (.int 1))) (eBin opIx (eVar 1) (eBin opIx (eVar 2) (eC (.int 0)))))
theorem x_e1__law_sum_of {ρ : Ro} : e1__law_sum_of ρ = (eBin opMulA (eBin opIx (eVar 2) (eC (.int 1))) (eBin opIx (eVar 1) (eBin opIx (eVar 2) (eC (.int 0))))) ρ := rfl
noncomputable def d__law_sum_of : S :=
  (sRet (eBin opAdd (eBin opIx (eVar 0) (eC (.int 2))) (eCallB cSum (eCons (eComp (itE (eBin opIx (eVar 0) (eC (.int 3)))) (tgName 2) eYes e1__law_sum_of (([("pair", 2)] : List (Str × Nat)).map (·.2))) eNil))))
noncomputable def F__law_sum_of : Ro → Res R := runF 1 d__law_sum_of
/-- _law_run: slots 0 plan, 1 ranges, 2 values, 3 now, 4 ends, 5 k, 6 row, 7 words, 8 at, 9 deed, 10 worth -/
noncomputable def b1__law_run : S :=
  (sSeq (sSet 3 (eBin opIx (eVar 2) (eVar 5)) (eBin opIx (eVar 6) (eC (.int 0))))
  (sSet 4 (eFz (eVar 6)) (eBin opIx (eVar 6) (eC (.int 0)))))
theorem x_b1__law_run {ρ : Ro} : b1__law_run ρ = (sSeq (sSet 3 (eBin opIx (eVar 2) (eVar 5)) (eBin opIx (eVar 6) (eC (.int 0))))
  (sSet 4 (eFz (eVar 6)) (eBin opIx (eVar 6) (eC (.int 0))))) ρ := rfl
noncomputable def b2__law_run : S :=
  (sSeq (sIf (eBool (eBin opEq (eBin opIx (eVar 9) (eC (.int 0))) (eC (.str "tell")))) (sSeq (sExpr (eMeth "list" 7 moAppend (eCons (eBin opIx (eVar 9) (eC (.int 1))) eNil)))
  sCnt) sNext)
  (sSeq (sAsg 10 (eFz (eCall F__law_sum_of (eCons (eVar 9) (eCons (eVar 3) eNil)))))
  (sSeq (sIf (eNot (eBool (eChain opLe opLe (eBin opIx (eBin opIx (eVar 4) (eBin opIx (eVar 9) (eC (.int 1)))) (eC (.int 1))) (eVar 10) (eBin opIx (eBin opIx (eVar 4) (eBin opIx (eVar 9) (eC (.int 1)))) (eC (.int 2)))))) (sRet (eTup (eCons (eCallB cTuple (eCons (eVar 2) eNil)) (eCons (eTup eNil) (eCons (eTup (eCons (eFz (eVar 8)) (eCons (eFz (eVar 10)) eNil))) eNil))))) sNext)
  (sSet 3 (eFz (eVar 10)) (eBin opIx (eVar 9) (eC (.int 1)))))))
theorem x_b2__law_run {ρ : Ro} : b2__law_run ρ = (sSeq (sIf (eBool (eBin opEq (eBin opIx (eVar 9) (eC (.int 0))) (eC (.str "tell")))) (sSeq (sExpr (eMeth "list" 7 moAppend (eCons (eBin opIx (eVar 9) (eC (.int 1))) eNil)))
  sCnt) sNext)
  (sSeq (sAsg 10 (eFz (eCall F__law_sum_of (eCons (eVar 9) (eCons (eVar 3) eNil)))))
  (sSeq (sIf (eNot (eBool (eChain opLe opLe (eBin opIx (eBin opIx (eVar 4) (eBin opIx (eVar 9) (eC (.int 1)))) (eC (.int 1))) (eVar 10) (eBin opIx (eBin opIx (eVar 4) (eBin opIx (eVar 9) (eC (.int 1)))) (eC (.int 2)))))) (sRet (eTup (eCons (eCallB cTuple (eCons (eVar 2) eNil)) (eCons (eTup eNil) (eCons (eTup (eCons (eFz (eVar 8)) (eCons (eFz (eVar 10)) eNil))) eNil))))) sNext)
  (sSet 3 (eFz (eVar 10)) (eBin opIx (eVar 9) (eC (.int 1))))))) ρ := rfl
noncomputable def e3__law_run : M R :=
  (eBin opIx (eVar 3) (eBin opIx (eVar 6) (eC (.int 0))))
theorem x_e3__law_run {ρ : Ro} : e3__law_run ρ = (eBin opIx (eVar 3) (eBin opIx (eVar 6) (eC (.int 0)))) ρ := rfl
noncomputable def d__law_run : S :=
  (sSeq (sAsg 3 eDct0)
  (sSeq (sAsg 4 eDct0)
  (sSeq (sFor (itEnum (itN 1)) (tgTup 2 (tgCons (tgName 5) (tgCons (tgName 6) tgNil))) b1__law_run)
  (sSeq (sAsg 7 (eLst eNil))
  (sSeq (sFor (itEnum (itN 0)) (tgTup 2 (tgCons (tgName 8) (tgCons (tgName 9) tgNil))) b2__law_run)
  (sRet (eTup (eCons (eCallB cTuple (eCons (eComp (itN 1) (tgName 6) eYes e3__law_run (([("row", 6)] : List (Str × Nat)).map (·.2))) eNil)) (eCons (eCallB cTuple (eCons (eVar 7) eNil)) (eCons (eC .non) eNil))))))))))
noncomputable def F__law_run : Ro → Res R := runF 8 d__law_run
/-- is_name: slots 0 text -/
noncomputable def d_is_name : S :=
  (sSeq (sIf (eOr (eNot (eBool (eChain opLe opLe (eC (.int 1)) (eCallB cLen (eCons (eVar 0) eNil)) (eC (.int 12))))) (eOr (eNot (eTest (eMS (mS0 fun z => .bl (Txt.isascii z)) (eVar 0) eNil))) (eNot (eTest (eMS (mS0 fun z => .bl (Txt.isalpha z)) (eBin opIx (eVar 0) (eC (.int 0))) eNil))))) (sRet (eC (.bl false))) sNext)
  (sRet (eIf (eBool (eMS (mS0 fun z => .bl (Txt.isalnum z)) (eVar 0) eNil)) (eIf (eBool (eMS (mS0 fun z => .bl (Txt.islower z)) (eVar 0) eNil)) (eBin opNotIn (eVar 0) (eC (.tup K_RESERVED))) (eC (.bl false))) (eC (.bl false)))))
noncomputable def F_is_name : Ro → Res R := runF 0 d_is_name
/-- is_long_name: slots 0 text, 1 pieces, 2 piece -/
noncomputable def e1_is_long_name : M R :=
  (eCall F_is_name (eCons (eVar 2) eNil))
theorem x_e1_is_long_name {ρ : Ro} : e1_is_long_name ρ = (eCall F_is_name (eCons (eVar 2) eNil)) ρ := rfl
noncomputable def d_is_long_name : S :=
  (sSeq (sAsg 1 (eFz (eMS mSplit (eVar 0) (eCons (eC (.str ".")) eNil))))
  (sSeq (sIf (eBool (eBin opGt (eCallB cLen (eCons (eVar 1) eNil)) (eC (.int 40)))) (sRet (eC (.bl false))) sNext)
  (sRet (eCallB cAll (eCons (eComp (itN 1) (tgName 2) eYes e1_is_long_name (([("piece", 2)] : List (Str × Nat)).map (·.2))) eNil)))))
noncomputable def F_is_long_name : Ro → Res R := runF 2 d_is_long_name
/-- Sum__init: slots 0 self, 1 constant, 2 terms, 3 factors, 4 name, 5 factor -/
noncomputable def b1_Sum__init : S :=
  (sSeq (sIf (eNot (eTest (eCall F_is_long_name (eCons (eVar 4) eNil)))) sBad sNext)
  (sSet 3 (eBin opAdd (eGet2 (eVar 3) (eVar 4) (eC (.int 0))) (eVar 5)) (eVar 4)))
theorem x_b1_Sum__init {ρ : Ro} : b1_Sum__init ρ = (sSeq (sIf (eNot (eTest (eCall F_is_long_name (eCons (eVar 4) eNil)))) sBad sNext)
  (sSet 3 (eBin opAdd (eGet2 (eVar 3) (eVar 4) (eC (.int 0))) (eVar 5)) (eVar 4))) ρ := rfl
noncomputable def e2_Sum__init : M R :=
  (eTup (eCons (eFz (eVar 4)) (eCons (eBin opIx (eVar 3) (eVar 4)) eNil)))
theorem x_e2_Sum__init {ρ : Ro} : e2_Sum__init ρ = (eTup (eCons (eFz (eVar 4)) (eCons (eBin opIx (eVar 3) (eVar 4)) eNil))) ρ := rfl
noncomputable def c3_Sum__init : M Bool :=
  (eBool (eBin opNe (eBin opIx (eVar 3) (eVar 4)) (eC (.int 0))))
theorem x_c3_Sum__init {ρ : Ro} : c3_Sum__init ρ = (eBool (eBin opNe (eBin opIx (eVar 3) (eVar 4)) (eC (.int 0)))) ρ := rfl
noncomputable def d_Sum__init : S :=
  (sSeq (sAsg 3 eDct0)
  (sSeq (sFor (itN 2) (tgTup 2 (tgCons (tgName 4) (tgCons (tgName 5) tgNil))) b1_Sum__init)
  (sSeq (sFldD 0 "Sum" "constant" (eVar 1))
  (sFldD 0 "Sum" "terms" (eCallB cTuple (eCons (eComp (itE (eCallB cSorted (eCons (eVar 3) eNil))) (tgName 4) c3_Sum__init e2_Sum__init (([("name", 4)] : List (Str × Nat)).map (·.2))) eNil))))))
noncomputable def F_Sum__init : Ro → Res R := runF 3 d_Sum__init
/-- _law_given: slots 0 plan, 1 rows, 2 deed -/
noncomputable def b1__law_given : S :=
  (sIf (eBool (eBin opEq (eBin opIx (eVar 2) (eC (.int 0))) (eC (.str "tell")))) (sExpr (eMeth "list" 1 moAppend (eCons (eFz (eVar 2)) eNil))) (sExpr (eMeth "list" 1 moAppend (eCons (eTup (eCons (eC (.str "set")) (eCons (eBin opIx (eVar 2) (eC (.int 1))) (eCons (eMakeX "Sum" F_Sum__init (eCons (eBin opIx (eVar 2) (eC (.int 2))) (eCons (eBin opIx (eVar 2) (eC (.int 3))) eNil))) eNil)))) eNil))))
theorem x_b1__law_given {ρ : Ro} : b1__law_given ρ = (sIf (eBool (eBin opEq (eBin opIx (eVar 2) (eC (.int 0))) (eC (.str "tell")))) (sExpr (eMeth "list" 1 moAppend (eCons (eFz (eVar 2)) eNil))) (sExpr (eMeth "list" 1 moAppend (eCons (eTup (eCons (eC (.str "set")) (eCons (eBin opIx (eVar 2) (eC (.int 1))) (eCons (eMakeX "Sum" F_Sum__init (eCons (eBin opIx (eVar 2) (eC (.int 2))) (eCons (eBin opIx (eVar 2) (eC (.int 3))) eNil))) eNil)))) eNil)))) ρ := rfl
noncomputable def d__law_given : S :=
  (sSeq (sAsg 1 (eLst eNil))
  (sSeq (sFor (itN 0) (tgName 2) b1__law_given)
  (sRet (eVar 1))))
noncomputable def F__law_given : Ro → Res R := runF 2 d__law_given
/-- Sum__value: slots 0 self, 1 known, 2 total, 3 name, 4 factor -/
noncomputable def b1_Sum__value : S :=
  (sSeq (sIf (eBool (eBin opNotIn (eVar 3) (eVar 1))) sBad sNext)
  (sAug 2 ipAdd (eBin opMulA (eVar 4) (eBin opIx (eVar 1) (eVar 3)))))
theorem x_b1_Sum__value {ρ : Ro} : b1_Sum__value ρ = (sSeq (sIf (eBool (eBin opNotIn (eVar 3) (eVar 1))) sBad sNext)
  (sAug 2 ipAdd (eBin opMulA (eVar 4) (eBin opIx (eVar 1) (eVar 3))))) ρ := rfl
noncomputable def d_Sum__value : S :=
  (sSeq (sAsg 2 (eUn (opFld "Sum" "constant") (eVar 0)))
  (sSeq (sFor (itE (eUn (opFld "Sum" "terms") (eVar 0))) (tgTup 2 (tgCons (tgName 3) (tgCons (tgName 4) tgNil))) b1_Sum__value)
  (sRet (eVar 2))))
noncomputable def F_Sum__value : Ro → Res R := runF 3 d_Sum__value
/-- run_deeds: slots 0 deeds, 1 ranges, 2 values, 3 known, 4 bounds, 5 name, 6 low, 7 high, 8 worth, 9 words, 10 at, 11 deed -/
noncomputable def b1_run_deeds : S :=
  (sSeq (sSet 3 (eFz (eVar 8)) (eVar 5))
  (sSet 4 (eTup (eCons (eFz (eVar 6)) (eCons (eFz (eVar 7)) eNil))) (eVar 5)))
theorem x_b1_run_deeds {ρ : Ro} : b1_run_deeds ρ = (sSeq (sSet 3 (eFz (eVar 8)) (eVar 5))
  (sSet 4 (eTup (eCons (eFz (eVar 6)) (eCons (eFz (eVar 7)) eNil))) (eVar 5))) ρ := rfl
noncomputable def b2_run_deeds : S :=
  (sIf (eBool (eBin opEq (eBin opIx (eVar 11) (eC (.int 0))) (eC (.str "tell")))) (sExpr (eMeth "list" 9 moAppend (eCons (eBin opIx (eVar 11) (eC (.int 1))) eNil))) (sSeq (sAsg 8 (eFz (eMethG "Sum" "value" F_Sum__value (eBin opIx (eVar 11) (eC (.int 2))) (eCons (eVar 3) eNil))))
  (sSeq (sTgt (tgTup 2 (tgCons (tgName 6) (tgCons (tgName 7) tgNil))) (eBin opIx (eVar 4) (eBin opIx (eVar 11) (eC (.int 1)))))
  (sSeq (sIf (eNot (eBool (eChain opLe opLe (eVar 6) (eVar 8) (eVar 7)))) (sRet (eTup (eCons (eCallB cTuple (eCons (eVar 2) eNil)) (eCons (eTup eNil) (eCons (eTup (eCons (eFz (eVar 10)) (eCons (eFz (eVar 8)) eNil))) eNil))))) sNext)
  (sSet 3 (eFz (eVar 8)) (eBin opIx (eVar 11) (eC (.int 1))))))))
theorem x_b2_run_deeds {ρ : Ro} : b2_run_deeds ρ = (sIf (eBool (eBin opEq (eBin opIx (eVar 11) (eC (.int 0))) (eC (.str "tell")))) (sExpr (eMeth "list" 9 moAppend (eCons (eBin opIx (eVar 11) (eC (.int 1))) eNil))) (sSeq (sAsg 8 (eFz (eMethG "Sum" "value" F_Sum__value (eBin opIx (eVar 11) (eC (.int 2))) (eCons (eVar 3) eNil))))
  (sSeq (sTgt (tgTup 2 (tgCons (tgName 6) (tgCons (tgName 7) tgNil))) (eBin opIx (eVar 4) (eBin opIx (eVar 11) (eC (.int 1)))))
  (sSeq (sIf (eNot (eBool (eChain opLe opLe (eVar 6) (eVar 8) (eVar 7)))) (sRet (eTup (eCons (eCallB cTuple (eCons (eVar 2) eNil)) (eCons (eTup eNil) (eCons (eTup (eCons (eFz (eVar 10)) (eCons (eFz (eVar 8)) eNil))) eNil))))) sNext)
  (sSet 3 (eFz (eVar 8)) (eBin opIx (eVar 11) (eC (.int 1)))))))) ρ := rfl
noncomputable def e3_run_deeds : M R :=
  (eBin opIx (eVar 3) (eVar 5))
theorem x_e3_run_deeds {ρ : Ro} : e3_run_deeds ρ = (eBin opIx (eVar 3) (eVar 5)) ρ := rfl
noncomputable def d_run_deeds : S :=
  (sSeq (sAsg 3 eDct0)
  (sSeq (sAsg 4 eDct0)
  (sSeq (sFor (itZipV (eCons (eFz (eVar 1)) (eCons (eFz (eVar 2)) eNil))) (tgTup 2 (tgCons (tgTup 3 (tgCons (tgName 5) (tgCons (tgName 6) (tgCons (tgName 7) tgNil)))) (tgCons (tgName 8) tgNil))) b1_run_deeds)
  (sSeq (sAsg 9 (eLst eNil))
  (sSeq (sFor (itEnum (itN 0)) (tgTup 2 (tgCons (tgName 10) (tgCons (tgName 11) tgNil))) b2_run_deeds)
  (sRet (eTup (eCons (eCallB cTuple (eCons (eComp (itN 1) (tgTup 3 (tgCons (tgName 5) (tgCons (tgName 6) (tgCons (tgName 7) tgNil)))) eYes e3_run_deeds (([("name", 5), ("low", 6), ("high", 7)] : List (Str × Nat)).map (·.2))) eNil)) (eCons (eCallB cTuple (eCons (eVar 9) eNil)) (eCons (eC .non) eNil))))))))))
noncomputable def F_run_deeds : Ro → Res R := runF 9 d_run_deeds
/-- _law_did: slots 0 plan, 1 ranges, 2 values, 3 due, 4 deeds, 5 rows, 6 held, 7 told -/
noncomputable def d__law_did : S :=
  (sSeq (sAsg 3 (eCallB cRepr (eCons (eCall F__law_run (eCons (eVar 0) (eCons (eVar 1) (eCons (eVar 2) eNil)))) eNil)))
  (sSeq (sAsg 4 (eFz (eCall F__law_given (eCons (eVar 0) eNil))))
  (sSeq (sAsg 5 (eFz (eCallB cList (eCons (eVar 1) eNil))))
  (sSeq (sAsg 6 (eFz (eCallB cList (eCons (eVar 2) eNil))))
  (sSeq (sAsg 7 (eFz (eCall F_run_deeds (eCons (eVar 4) (eCons (eVar 5) (eCons (eVar 6) eNil))))))
  (sSeq (sIf (eOr (eBool (eBin opNe (eCallB cRepr (eCons (eVar 7) eNil)) (eVar 3))) (eOr (eBool (eBin opNe (eVar 5) (eVar 1))) (eBool (eBin opNe (eVar 6) (eVar 2))))) (sRet (eC (.bl false))) sNext)
  (sSeq (sIf (eBool (eBin opNe (eCallB cRepr (eCons (eCall F_run_deeds (eCons (eVar 4) (eCons (eCallB cTuple (eCons (eVar 5) eNil)) (eCons (eCallB cTuple (eCons (eVar 6) eNil)) eNil)))) eNil)) (eVar 3))) (sRet (eC (.bl false))) sNext)
  (sRet (eBin opEq (eCallB cRepr (eCons (eCall F_run_deeds (eCons (eCallB cTuple (eCons (eVar 4) eNil)) (eCons (eVar 5) (eCons (eVar 6) eNil)))) eNil)) (eVar 3))))))))))
noncomputable def F__law_did : Ro → Res R := runF 5 d__law_did
/-- _law_runs: slots 0 plan, 1 ranges, 2 values, 3 told, 4 good, 5 after, 6 start, 7 name, 8 low, 9 high, 10 ends, 11 odd, 12 tries, 13 rows -/
noncomputable def b1__law_runs : S :=
  (sIf (eNot (eTest (eCall F__law_did (eCons (eVar 4) (eCons (eVar 1) (eCons (eVar 6) eNil)))))) (sRet (eC (.bl false))) sNext)
theorem x_b1__law_runs {ρ : Ro} : b1__law_runs ρ = (sIf (eNot (eTest (eCall F__law_did (eCons (eVar 4) (eCons (eVar 1) (eCons (eVar 6) eNil)))))) (sRet (eC (.bl false))) sNext) ρ := rfl
noncomputable def b2__law_runs : S :=
  (sIf (eNot (eTest (eCall F__law_did (eCons (eVar 13) (eCons (eVar 1) (eCons (eVar 2) eNil)))))) (sRet (eC (.bl false))) sNext)
theorem x_b2__law_runs {ρ : Ro} : b2__law_runs ρ = (sIf (eNot (eTest (eCall F__law_did (eCons (eVar 13) (eCons (eVar 1) (eCons (eVar 2) eNil)))))) (sRet (eC (.bl false))) sNext) ρ := rfl
noncomputable def b3__law_runs : S :=
  (sSeq (sAsg 10 (eFz (eLst (eCons (eTup (eCons (eC (.str "set")) (eCons (eFz (eVar 7)) (eCons (eFz (eVar 8)) (eCons (eLst eNil) eNil))))) (eCons (eTup (eCons (eC (.str "set")) (eCons (eFz (eVar 7)) (eCons (eFz (eVar 9)) (eCons (eLst eNil) eNil))))) eNil)))))
  (sSeq (sAsg 11 (eFz (eLst (eCons (eTup (eCons (eC (.str "set")) (eCons (eFz (eVar 7)) (eCons (eBin opSub (eVar 8) (eC (.int 1))) (eCons (eLst eNil) eNil))))) (eCons (eTup (eCons (eC (.str "set")) (eCons (eFz (eVar 7)) (eCons (eBin opAdd (eVar 9) (eC (.int 1))) (eCons (eLst eNil) eNil))))) eNil)))))
  (sSeq (sAsg 12 (eLst (eCons (eBin opAdd (eVar 4) (eVar 10)) (eCons (eBin opAdd (eVar 4) (eVar 11)) (eCons (eBin opAdd (eSl (eVar 11) (eP (eC (.int 1))) eNoP) (eVar 4)) eNil)))))
  (sSeq (sExpr (eMeth "list" 12 moAppend (eCons (eBin opAdd (eBin opAdd (eVar 4) (eSl (eVar 11) eNoP (eP (eC (.int 1))))) (eSl (eVar 10) eNoP (eP (eC (.int 1))))) eNil)))
  (sFor (itN 12) (tgName 13) b2__law_runs)))))
theorem x_b3__law_runs {ρ : Ro} : b3__law_runs ρ = (sSeq (sAsg 10 (eFz (eLst (eCons (eTup (eCons (eC (.str "set")) (eCons (eFz (eVar 7)) (eCons (eFz (eVar 8)) (eCons (eLst eNil) eNil))))) (eCons (eTup (eCons (eC (.str "set")) (eCons (eFz (eVar 7)) (eCons (eFz (eVar 9)) (eCons (eLst eNil) eNil))))) eNil)))))
  (sSeq (sAsg 11 (eFz (eLst (eCons (eTup (eCons (eC (.str "set")) (eCons (eFz (eVar 7)) (eCons (eBin opSub (eVar 8) (eC (.int 1))) (eCons (eLst eNil) eNil))))) (eCons (eTup (eCons (eC (.str "set")) (eCons (eFz (eVar 7)) (eCons (eBin opAdd (eVar 9) (eC (.int 1))) (eCons (eLst eNil) eNil))))) eNil)))))
  (sSeq (sAsg 12 (eLst (eCons (eBin opAdd (eVar 4) (eVar 10)) (eCons (eBin opAdd (eVar 4) (eVar 11)) (eCons (eBin opAdd (eSl (eVar 11) (eP (eC (.int 1))) eNoP) (eVar 4)) eNil)))))
  (sSeq (sExpr (eMeth "list" 12 moAppend (eCons (eBin opAdd (eBin opAdd (eVar 4) (eSl (eVar 11) eNoP (eP (eC (.int 1))))) (eSl (eVar 10) eNoP (eP (eC (.int 1))))) eNil)))
  (sFor (itN 12) (tgName 13) b2__law_runs))))) ρ := rfl
noncomputable def d__law_runs : S :=
  (sSeq (sIf (eNot (eTest (eCall F__law_did (eCons (eVar 0) (eCons (eVar 1) (eCons (eVar 2) eNil)))))) (sRet (eC (.bl false))) sNext)
  (sSeq (sAsg 3 (eFz (eCall F__law_run (eCons (eVar 0) (eCons (eVar 1) (eCons (eVar 2) eNil))))))
  (sSeq (sAsg 4 (eFz (eIf (eBool (eBin opIs (eBin opIx (eVar 3) (eC (.int 2))) (eC .non))) (eVar 0) (eSl (eVar 0) eNoP (eP (eBin opIx (eBin opIx (eVar 3) (eC (.int 2))) (eC (.int 0))))))))
  (sSeq (sAsg 5 (eFz (eCall F__law_run (eCons (eVar 4) (eCons (eVar 1) (eCons (eVar 2) eNil))))))
  (sSeq (sFor (itE (eLst (eCons (eFz (eVar 2)) (eCons (eCallB cList (eCons (eBin opIx (eVar 5) (eC (.int 0))) eNil)) eNil)))) (tgName 6) b1__law_runs)
  (sSeq (sFor (itN 1) (tgTup 3 (tgCons (tgName 7) (tgCons (tgName 8) (tgCons (tgName 9) tgNil)))) b3__law_runs)
  (sRet (eC (.bl true)))))))))
noncomputable def F__law_runs : Ro → Res R := runF 11 d__law_runs
/-- _law_reduced: slots 0 pairs, 1 rows, 2 name, 3 factor, 4 pair -/
noncomputable def e1__law_reduced : M R :=
  (eBin opIx (eVar 4) (eC (.int 0)))
theorem x_e1__law_reduced {ρ : Ro} : e1__law_reduced ρ = (eBin opIx (eVar 4) (eC (.int 0))) ρ := rfl
noncomputable def e2__law_reduced : M R :=
  (eBin opIx (eVar 4) (eC (.int 1)))
theorem x_e2__law_reduced {ρ : Ro} : e2__law_reduced ρ = (eBin opIx (eVar 4) (eC (.int 1))) ρ := rfl
noncomputable def c3__law_reduced : M Bool :=
  (eBool (eBin opEq (eBin opIx (eVar 4) (eC (.int 0))) (eVar 2)))
theorem x_c3__law_reduced {ρ : Ro} : c3__law_reduced ρ = (eBool (eBin opEq (eBin opIx (eVar 4) (eC (.int 0))) (eVar 2))) ρ := rfl
noncomputable def b4__law_reduced : S :=
  (sSeq (sAsg 3 (eCallB cSum (eCons (eComp (itN 0) (tgName 4) c3__law_reduced e2__law_reduced (([("pair", 4)] : List (Str × Nat)).map (·.2))) eNil)))
  (sIf (eAnd (eBool (eBin opNe (eVar 3) (eC (.int 0)))) (eBool (eBin opNotIn (eTup (eCons (eFz (eVar 2)) (eCons (eFz (eVar 3)) eNil))) (eVar 1)))) (sExpr (eMeth "list" 1 moAppend (eCons (eTup (eCons (eFz (eVar 2)) (eCons (eFz (eVar 3)) eNil))) eNil))) sNext))
theorem x_b4__law_reduced {ρ : Ro} : b4__law_reduced ρ = (sSeq (sAsg 3 (eCallB cSum (eCons (eComp (itN 0) (tgName 4) c3__law_reduced e2__law_reduced (([("pair", 4)] : List (Str × Nat)).map (·.2))) eNil)))
  (sIf (eAnd (eBool (eBin opNe (eVar 3) (eC (.int 0)))) (eBool (eBin opNotIn (eTup (eCons (eFz (eVar 2)) (eCons (eFz (eVar 3)) eNil))) (eVar 1)))) (sExpr (eMeth "list" 1 moAppend (eCons (eTup (eCons (eFz (eVar 2)) (eCons (eFz (eVar 3)) eNil))) eNil))) sNext)) ρ := rfl
noncomputable def d__law_reduced : S :=
  (sSeq (sAsg 1 (eLst eNil))
  (sSeq (sFor (itE (eCallB cSorted (eCons (eComp (itN 0) (tgName 4) eYes e1__law_reduced (([("pair", 4)] : List (Str × Nat)).map (·.2))) eNil))) (tgName 2) b4__law_reduced)
  (sRet (eCallB cTuple (eCons (eVar 1) eNil)))))
noncomputable def F__law_reduced : Ro → Res R := runF 4 d__law_reduced
/-- _law_fits: slots 0 plan, 1 names, 2 words, 3 deed, 4 terms, 5 used, 6 pair, 7 name -/
noncomputable def e1__law_fits : M R :=
  (eBin opIx (eVar 6) (eC (.int 0)))
theorem x_e1__law_fits {ρ : Ro} : e1__law_fits ρ = (eBin opIx (eVar 6) (eC (.int 0))) ρ := rfl
noncomputable def e2__law_fits : M R :=
  (eFz (eVar 7))
theorem x_e2__law_fits {ρ : Ro} : e2__law_fits ρ = (eFz (eVar 7)) ρ := rfl
noncomputable def c3__law_fits : M Bool :=
  (eBool (eBin opNotIn (eVar 7) (eVar 1)))
theorem x_c3__law_fits {ρ : Ro} : c3__law_fits ρ = (eBool (eBin opNotIn (eVar 7) (eVar 1))) ρ := rfl
noncomputable def e4__law_fits : M R :=
  (eFz (eVar 6))
theorem x_e4__law_fits {ρ : Ro} : e4__law_fits ρ = (eFz (eVar 6)) ρ := rfl
noncomputable def c5__law_fits : M Bool :=
  (eBool (eBin opGt (eCallB cAbs (eCons (eBin opIx (eVar 6) (eC (.int 1))) eNil)) (eC (.int 99))))
theorem x_c5__law_fits {ρ : Ro} : c5__law_fits ρ = (eBool (eBin opGt (eCallB cAbs (eCons (eBin opIx (eVar 6) (eC (.int 1))) eNil)) (eC (.int 99)))) ρ := rfl
noncomputable def b6__law_fits : S :=
  (sSeq (sIf (eBool (eBin opEq (eBin opIx (eVar 3) (eC (.int 0))) (eC (.str "tell")))) (sSeq (sIf (eBool (eBin opNotIn (eBin opIx (eVar 3) (eC (.int 1))) (eVar 2))) (sRet (eC (.bl false))) sNext)
  sCnt) sNext)
  (sSeq (sAsg 4 (eFz (eCall F__law_reduced (eCons (eBin opIx (eVar 3) (eC (.int 3))) eNil))))
  (sSeq (sAsg 5 (eFz (eBin opAdd (eLst (eCons (eBin opIx (eVar 3) (eC (.int 1))) eNil)) (eComp (itN 4) (tgName 6) eYes e1__law_fits (([("pair", 6)] : List (Str × Nat)).map (·.2))))))
  (sSeq (sIf (eOr (eTest (eComp (itN 5) (tgName 7) c3__law_fits e2__law_fits (([("name", 7)] : List (Str × Nat)).map (·.2)))) (eBool (eBin opGt (eCallB cAbs (eCons (eBin opIx (eVar 3) (eC (.int 2))) eNil)) (eC (.int 9999))))) (sRet (eC (.bl false))) sNext)
  (sIf (eTest (eComp (itN 4) (tgName 6) c5__law_fits e4__law_fits (([("pair", 6)] : List (Str × Nat)).map (·.2)))) (sRet (eC (.bl false))) sNext)))))
theorem x_b6__law_fits {ρ : Ro} : b6__law_fits ρ = (sSeq (sIf (eBool (eBin opEq (eBin opIx (eVar 3) (eC (.int 0))) (eC (.str "tell")))) (sSeq (sIf (eBool (eBin opNotIn (eBin opIx (eVar 3) (eC (.int 1))) (eVar 2))) (sRet (eC (.bl false))) sNext)
  sCnt) sNext)
  (sSeq (sAsg 4 (eFz (eCall F__law_reduced (eCons (eBin opIx (eVar 3) (eC (.int 3))) eNil))))
  (sSeq (sAsg 5 (eFz (eBin opAdd (eLst (eCons (eBin opIx (eVar 3) (eC (.int 1))) eNil)) (eComp (itN 4) (tgName 6) eYes e1__law_fits (([("pair", 6)] : List (Str × Nat)).map (·.2))))))
  (sSeq (sIf (eOr (eTest (eComp (itN 5) (tgName 7) c3__law_fits e2__law_fits (([("name", 7)] : List (Str × Nat)).map (·.2)))) (eBool (eBin opGt (eCallB cAbs (eCons (eBin opIx (eVar 3) (eC (.int 2))) eNil)) (eC (.int 9999))))) (sRet (eC (.bl false))) sNext)
  (sIf (eTest (eComp (itN 4) (tgName 6) c5__law_fits e4__law_fits (([("pair", 6)] : List (Str × Nat)).map (·.2)))) (sRet (eC (.bl false))) sNext))))) ρ := rfl
noncomputable def d__law_fits : S :=
  (sSeq (sFor (itN 0) (tgName 3) b6__law_fits)
  (sRet (eBin opLe (eCallB cLen (eCons (eVar 0) eNil)) (eC (.int 12)))))
noncomputable def F__law_fits : Ro → Res R := runF 5 d__law_fits
/-- _law_right: slots 0 answer, 1 due -/
noncomputable def d__law_right : S :=
  (sRet (eIf (eTest (eVar 1)) (eBin opIs (eVar 0) (eC (.bl true))) (eBin opIs (eVar 0) (eC (.bl false)))))
noncomputable def F__law_right : Ro → Res R := runF 0 d__law_right
/-- Sum__small: slots 0 self, 1 name, 2 factor -/
noncomputable def e1_Sum__small : M R :=
  (eBin opLe (eCallB cAbs (eCons (eVar 2) eNil)) (eC (.int 99)))
theorem x_e1_Sum__small {ρ : Ro} : e1_Sum__small ρ = (eBin opLe (eCallB cAbs (eCons (eVar 2) eNil)) (eC (.int 99))) ρ := rfl
noncomputable def d_Sum__small : S :=
  (sSeq (sIf (eOr (eBool (eBin opGt (eCallB cLen (eCons (eUn (opFld "Sum" "terms") (eVar 0)) eNil)) (eC (.int 8)))) (eBool (eBin opGt (eCallB cAbs (eCons (eUn (opFld "Sum" "constant") (eVar 0)) eNil)) (eC (.int 9999))))) (sRet (eC (.bl false))) sNext)
  (sRet (eCallB cAll (eCons (eComp (itE (eUn (opFld "Sum" "terms") (eVar 0))) (tgTup 2 (tgCons (tgName 1) (tgCons (tgName 2) tgNil))) eYes e1_Sum__small (([("name", 1), ("factor", 2)] : List (Str × Nat)).map (·.2))) eNil))))
noncomputable def F_Sum__small : Ro → Res R := runF 2 d_Sum__small
/-- Sum__involved: slots 0 self, 1 name, 2 factor -/
noncomputable def e1_Sum__involved : M R :=
  (eFz (eVar 1))
theorem x_e1_Sum__involved {ρ : Ro} : e1_Sum__involved ρ = (eFz (eVar 1)) ρ := rfl
noncomputable def d_Sum__involved : S :=
  (sRet (eCallB cTuple (eCons (eComp (itE (eUn (opFld "Sum" "terms") (eVar 0))) (tgTup 2 (tgCons (tgName 1) (tgCons (tgName 2) tgNil))) eYes e1_Sum__involved (([("name", 1), ("factor", 2)] : List (Str × Nat)).map (·.2))) eNil)))
noncomputable def F_Sum__involved : Ro → Res R := runF 2 d_Sum__involved
/-- is_deed: slots 0 deed, 1 names, 2 words, 3 total, 4 name -/
noncomputable def e1_is_deed : M R :=
  (eBin opIn (eVar 4) (eVar 1))
theorem x_e1_is_deed {ρ : Ro} : e1_is_deed ρ = (eBin opIn (eVar 4) (eVar 1)) ρ := rfl
noncomputable def d_is_deed : S :=
  (sSeq (sIf (eBool (eBin opEq (eBin opIx (eVar 0) (eC (.int 0))) (eC (.str "tell")))) (sRet (eBin opIn (eBin opIx (eVar 0) (eC (.int 1))) (eVar 2))) sNext)
  (sSeq (sIf (eOr (eBool (eBin opNe (eBin opIx (eVar 0) (eC (.int 0))) (eC (.str "set")))) (eBool (eBin opNotIn (eBin opIx (eVar 0) (eC (.int 1))) (eVar 1)))) (sRet (eC (.bl false))) sNext)
  (sSeq (sAsg 3 (eBin opIx (eVar 0) (eC (.int 2))))
  (sRet (eIf (eBool (eProp "Sum" F_Sum__small (eVar 3))) (eCallB cAll (eCons (eComp (itE (eMethG "Sum" "involved" F_Sum__involved (eVar 3) eNil)) (tgName 4) eYes e1_is_deed (([("name", 4)] : List (Str × Nat)).map (·.2))) eNil)) (eC (.bl false)))))))
noncomputable def F_is_deed : Ro → Res R := runF 2 d_is_deed
/-- is_deeds: slots 0 deeds, 1 names, 2 words, 3 deed -/
noncomputable def e1_is_deeds : M R :=
  (eCall F_is_deed (eCons (eVar 3) (eCons (eVar 1) (eCons (eVar 2) eNil))))
theorem x_e1_is_deeds {ρ : Ro} : e1_is_deeds ρ = (eCall F_is_deed (eCons (eVar 3) (eCons (eVar 1) (eCons (eVar 2) eNil)))) ρ := rfl
noncomputable def d_is_deeds : S :=
  (sRet (eIf (eBool (eBin opLe (eCallB cLen (eCons (eVar 0) eNil)) (eC (.int 12)))) (eCallB cAll (eCons (eComp (itN 0) (tgName 3) eYes e1_is_deeds (([("deed", 3)] : List (Str × Nat)).map (·.2))) eNil)) (eC (.bl false))))
noncomputable def F_is_deeds : Ro → Res R := runF 1 d_is_deeds
/-- _law_judged: slots 0 hand, 1 names, 2 words, 3 rows, 4 k, 5 name, 6 pairs, 7 many, 8 nine, 9 wide, 10 odd, 11 place, 12 deed, 13 deeds, 14 pair -/
noncomputable def b1__law_judged : S :=
  (sSeq (sAsg 5 (eBin opIx (eVar 1) (eCall F__law_draw (eCons (eVar 0) (eCons (eCallB cLen (eCons (eVar 1) eNil)) eNil)))))
  (sSeq (sAsg 6 (eFz (eLst (eCons (eTup (eCons (eBin opIx (eVar 1) (eCall F__law_draw (eCons (eVar 0) (eCons (eCallB cLen (eCons (eVar 1) eNil)) eNil)))) (eCons (eBin opSub (eC (.int 99)) (eCall F__law_draw (eCons (eVar 0) (eCons (eC (.int 199)) eNil)))) eNil))) eNil))))
  (sSeq (sExpr (eMeth "list" 3 moAppend (eCons (eTup (eCons (eC (.str "tell")) (eCons (eBin opIx (eVar 2) (eCall F__law_draw (eCons (eVar 0) (eCons (eC (.int 3)) eNil)))) eNil))) eNil)))
  (sIf (eBool (eBin opLt (eCall F__law_draw (eCons (eVar 0) (eCons (eC (.int 3)) eNil))) (eC (.int 2)))) (sSet 3 (eTup (eCons (eC (.str "set")) (eCons (eFz (eVar 5)) (eCons (eMakeX "Sum" F_Sum__init (eCons (eBin opSub (eC (.int 9999)) (eCall F__law_draw (eCons (eVar 0) (eCons (eC (.int 19999)) eNil)))) (eCons (eVar 6) eNil))) eNil)))) (eVar 4)) sNext))))
theorem x_b1__law_judged {ρ : Ro} : b1__law_judged ρ = (sSeq (sAsg 5 (eBin opIx (eVar 1) (eCall F__law_draw (eCons (eVar 0) (eCons (eCallB cLen (eCons (eVar 1) eNil)) eNil)))))
  (sSeq (sAsg 6 (eFz (eLst (eCons (eTup (eCons (eBin opIx (eVar 1) (eCall F__law_draw (eCons (eVar 0) (eCons (eCallB cLen (eCons (eVar 1) eNil)) eNil)))) (eCons (eBin opSub (eC (.int 99)) (eCall F__law_draw (eCons (eVar 0) (eCons (eC (.int 199)) eNil)))) eNil))) eNil))))
  (sSeq (sExpr (eMeth "list" 3 moAppend (eCons (eTup (eCons (eC (.str "tell")) (eCons (eBin opIx (eVar 2) (eCall F__law_draw (eCons (eVar 0) (eCons (eC (.int 3)) eNil)))) eNil))) eNil)))
  (sIf (eBool (eBin opLt (eCall F__law_draw (eCons (eVar 0) (eCons (eC (.int 3)) eNil))) (eC (.int 2)))) (sSet 3 (eTup (eCons (eC (.str "set")) (eCons (eFz (eVar 5)) (eCons (eMakeX "Sum" F_Sum__init (eCons (eBin opSub (eC (.int 9999)) (eCall F__law_draw (eCons (eVar 0) (eCons (eC (.int 19999)) eNil)))) (eCons (eVar 6) eNil))) eNil)))) (eVar 4)) sNext)))) ρ := rfl
noncomputable def b2__law_judged : S :=
  (sSeq (sIf (eNot (eTest (eCall F__law_right (eCons (eCall F_is_deeds (eCons (eSl (eVar 3) eNoP (eP (eVar 7))) (eCons (eVar 1) (eCons (eCallB cTuple (eCons (eVar 2) eNil)) eNil)))) (eCons (eBin opLt (eVar 7) (eC (.int 13))) eNil))))) (sRet (eC (.bl false))) sNext)
  (sIf (eNot (eTest (eCall F__law_right (eCons (eCall F_is_deeds (eCons (eCallB cTuple (eCons (eSl (eVar 3) eNoP (eP (eVar 7))) eNil)) (eCons (eCallB cTuple (eCons (eVar 1) eNil)) (eCons (eVar 2) eNil)))) (eCons (eBin opLt (eVar 7) (eC (.int 13))) eNil))))) (sRet (eC (.bl false))) sNext))
theorem x_b2__law_judged {ρ : Ro} : b2__law_judged ρ = (sSeq (sIf (eNot (eTest (eCall F__law_right (eCons (eCall F_is_deeds (eCons (eSl (eVar 3) eNoP (eP (eVar 7))) (eCons (eVar 1) (eCons (eCallB cTuple (eCons (eVar 2) eNil)) eNil)))) (eCons (eBin opLt (eVar 7) (eC (.int 13))) eNil))))) (sRet (eC (.bl false))) sNext)
  (sIf (eNot (eTest (eCall F__law_right (eCons (eCall F_is_deeds (eCons (eCallB cTuple (eCons (eSl (eVar 3) eNoP (eP (eVar 7))) eNil)) (eCons (eCallB cTuple (eCons (eVar 1) eNil)) (eCons (eVar 2) eNil)))) (eCons (eBin opLt (eVar 7) (eC (.int 13))) eNil))))) (sRet (eC (.bl false))) sNext)) ρ := rfl
noncomputable def e3__law_judged : M R :=
  (eTup (eCons (eBin opAdd (eC (.str "n")) (eCallB cStr (eCons (eVar 4) eNil))) (eCons (eC (.int 1)) eNil)))
theorem x_e3__law_judged {ρ : Ro} : e3__law_judged ρ = (eTup (eCons (eBin opAdd (eC (.str "n")) (eCallB cStr (eCons (eVar 4) eNil))) (eCons (eC (.int 1)) eNil))) ρ := rfl
noncomputable def e4__law_judged : M R :=
  (eBin opIx (eVar 14) (eC (.int 0)))
theorem x_e4__law_judged {ρ : Ro} : e4__law_judged ρ = (eBin opIx (eVar 14) (eC (.int 0))) ρ := rfl
noncomputable def b5__law_judged : S :=
  (sSeq (sAsg 13 (eFz (eBin opAdd (eBin opAdd (eSl (eVar 3) eNoP (eP (eVar 11))) (eLst (eCons (eFz (eVar 12)) eNil))) (eSl (eVar 3) (eP (eBin opAdd (eVar 11) (eC (.int 1)))) (eP (eC (.int 12)))))))
  (sSeq (sIf (eOr (eNot (eTest (eCall F__law_right (eCons (eCall F_is_deeds (eCons (eVar 13) (eCons (eVar 9) (eCons (eVar 2) eNil)))) (eCons (eBin opLt (eVar 4) (eC (.int 4))) eNil))))) (eBool (eBin opNe (eCallB cLen (eCons (eVar 13) eNil)) (eC (.int 12))))) (sRet (eC (.bl false))) sNext)
  (sIf (eNot (eTest (eCall F__law_right (eCons (eCall F_is_deeds (eCons (eLst (eCons (eFz (eVar 12)) eNil)) (eCons (eCallB cTuple (eCons (eVar 9) eNil)) (eCons (eCallB cTuple (eCons (eVar 2) eNil)) eNil)))) (eCons (eBin opLt (eVar 4) (eC (.int 4))) eNil))))) (sRet (eC (.bl false))) sNext)))
theorem x_b5__law_judged {ρ : Ro} : b5__law_judged ρ = (sSeq (sAsg 13 (eFz (eBin opAdd (eBin opAdd (eSl (eVar 3) eNoP (eP (eVar 11))) (eLst (eCons (eFz (eVar 12)) eNil))) (eSl (eVar 3) (eP (eBin opAdd (eVar 11) (eC (.int 1)))) (eP (eC (.int 12)))))))
  (sSeq (sIf (eOr (eNot (eTest (eCall F__law_right (eCons (eCall F_is_deeds (eCons (eVar 13) (eCons (eVar 9) (eCons (eVar 2) eNil)))) (eCons (eBin opLt (eVar 4) (eC (.int 4))) eNil))))) (eBool (eBin opNe (eCallB cLen (eCons (eVar 13) eNil)) (eC (.int 12))))) (sRet (eC (.bl false))) sNext)
  (sIf (eNot (eTest (eCall F__law_right (eCons (eCall F_is_deeds (eCons (eLst (eCons (eFz (eVar 12)) eNil)) (eCons (eCallB cTuple (eCons (eVar 9) eNil)) (eCons (eCallB cTuple (eCons (eVar 2) eNil)) eNil)))) (eCons (eBin opLt (eVar 4) (eC (.int 4))) eNil))))) (sRet (eC (.bl false))) sNext))) ρ := rfl
noncomputable def d__law_judged : S :=
  (sSeq (sAsg 3 (eLst eNil))
  (sSeq (sFor (itRange (eCons (eC (.int 13)) eNil)) (tgName 4) b1__law_judged)
  (sSeq (sFor (itE (eLst (eCons (eC (.int 0)) (eCons (eC (.int 1)) (eCons (eC (.int 12)) (eCons (eC (.int 13)) eNil)))))) (tgName 7) b2__law_judged)
  (sSeq (sAsg 8 (eFz (eComp (itRange (eCons (eC (.int 1)) (eCons (eC (.int 10)) eNil))) (tgName 4) eYes e3__law_judged (([("k", 4)] : List (Str × Nat)).map (·.2)))))
  (sSeq (sAsg 9 (eFz (eBin opAdd (eVar 1) (eComp (itN 8) (tgName 14) eYes e4__law_judged (([("pair", 14)] : List (Str × Nat)).map (·.2))))))
  (sSeq (sAsg 10 (eFz (eLst (eCons (eTup (eCons (eC (.str "set")) (eCons (eBin opIx (eVar 1) (eC (.int 0))) (eCons (eMakeX "Sum" F_Sum__init (eCons (eUn opNeg (eC (.int 9999))) (eCons (eLst (eCons (eTup (eCons (eBin opIx (eVar 1) (eC (.int 0))) (eCons (eUn opNeg (eC (.int 99))) eNil))) eNil)) eNil))) eNil)))) (eCons (eTup (eCons (eC (.str "tell")) (eCons (eBin opIx (eVar 2) (eC (.int 1))) eNil))) eNil)))))
  (sSeq (sAsg 10 (eFz (eBin opAdd (eVar 10) (eLst (eCons (eTup (eCons (eC (.str "set")) (eCons (eC (.str "n1")) (eCons (eMakeX "Sum" F_Sum__init (eCons (eC (.int 9999)) (eCons (eSl (eVar 8) eNoP (eP (eC (.int 8)))) eNil))) eNil)))) (eCons (eTup (eCons (eC (.str "set")) (eCons (eC (.str "n9")) (eCons (eMakeX "Sum" F_Sum__init (eCons (eC (.int 0)) (eCons (eLst (eCons (eTup (eCons (eC (.str "n1")) (eCons (eC (.int 99)) eNil))) eNil)) eNil))) eNil)))) eNil))))))
  (sSeq (sAsg 10 (eFz (eBin opAdd (eVar 10) (eLst (eCons (eTup (eCons (eC (.str "set")) (eCons (eC (.str "unknownname1")) (eCons (eMakeX "Sum" F_Sum__init (eCons (eC (.int 0)) (eCons (eLst eNil) eNil))) eNil)))) (eCons (eTup (eCons (eC (.str "set")) (eCons (eC (.str "n1")) (eCons (eMakeX "Sum" F_Sum__init (eCons (eC (.int 0)) (eCons (eVar 8) eNil))) eNil)))) eNil))))))
  (sSeq (sAsg 10 (eFz (eBin opAdd (eVar 10) (eLst (eCons (eTup (eCons (eC (.str "set")) (eCons (eC (.str "n1")) (eCons (eMakeX "Sum" F_Sum__init (eCons (eC (.int 0)) (eCons (eLst (eCons (eTup (eCons (eC (.str "unknownname1")) (eCons (eC (.int 1)) eNil))) eNil)) eNil))) eNil)))) (eCons (eTup (eCons (eC (.str "tell")) (eCons (eC (.str "unknownword1")) eNil))) eNil))))))
  (sSeq (sAsg 10 (eFz (eBin opAdd (eVar 10) (eLst (eCons (eTup (eCons (eC (.str "set")) (eCons (eC (.str "n1")) (eCons (eMakeX "Sum" F_Sum__init (eCons (eC (.int 10000)) (eCons (eLst eNil) eNil))) eNil)))) (eCons (eTup (eCons (eC (.str "set")) (eCons (eC (.str "n1")) (eCons (eMakeX "Sum" F_Sum__init (eCons (eUn opNeg (eC (.int 10000))) (eCons (eLst eNil) eNil))) eNil)))) eNil))))))
  (sSeq (sAsg 10 (eFz (eBin opAdd (eVar 10) (eLst (eCons (eTup (eCons (eC (.str "set")) (eCons (eC (.str "n1")) (eCons (eMakeX "Sum" F_Sum__init (eCons (eC (.int 0)) (eCons (eLst (eCons (eTup (eCons (eC (.str "n2")) (eCons (eC (.int 100)) eNil))) eNil)) eNil))) eNil)))) (eCons (eTup (eCons (eC (.str "set")) (eCons (eC (.str "n1")) (eCons (eMakeX "Sum" F_Sum__init (eCons (eC (.int 0)) (eCons (eLst (eCons (eTup (eCons (eC (.str "n2")) (eCons (eUn opNeg (eC (.int 100))) eNil))) eNil)) eNil))) eNil)))) eNil))))))
  (sSeq (sAsg 10 (eFz (eBin opAdd (eVar 10) (eLst (eCons (eTup (eCons (eC (.str "put")) (eCons (eC (.str "n1")) (eCons (eMakeX "Sum" F_Sum__init (eCons (eC (.int 0)) (eCons (eLst eNil) eNil))) eNil)))) (eCons (eTup (eCons (eC (.str "say")) (eCons (eBin opIx (eVar 2) (eC (.int 0))) eNil))) (eCons (eTup (eCons (eC (.str "Set")) (eCons (eC (.str "n1")) (eCons (eMakeX "Sum" F_Sum__init (eCons (eC (.int 0)) (eCons (eLst eNil) eNil))) eNil)))) eNil)))))))
  (sSeq (sAsg 11 (eCall F__law_draw (eCons (eVar 0) (eCons (eC (.int 12)) eNil))))
  (sSeq (sFor (itEnum (itN 10)) (tgTup 2 (tgCons (tgName 4) (tgCons (tgName 12) tgNil))) b5__law_judged)
  (sRet (eC (.bl true)))))))))))))))))
noncomputable def F__law_judged : Ro → Res R := runF 12 d__law_judged
/-- law: slots 0 script, 1 hand, 2 many, 3 ranges, 4 name, 5 low, 6 high, 7 values, 8 words, 9 plan, 10 names, 11 deeds, 12 left, 13 told, 14 due, 15 kept, 16 k, 17 row -/
noncomputable def e1_law : M R :=
  (eCall F__law_named (eCons (eVar 1) (eCons (eC (.int 8)) eNil)))
theorem x_e1_law {ρ : Ro} : e1_law ρ = (eCall F__law_named (eCons (eVar 1) (eCons (eC (.int 8)) eNil))) ρ := rfl
noncomputable def e2_law : M R :=
  (eBin opIx (eVar 17) (eC (.int 0)))
theorem x_e2_law {ρ : Ro} : e2_law ρ = (eBin opIx (eVar 17) (eC (.int 0))) ρ := rfl
noncomputable def b3_law : S :=
  (sSeq (sAsg 14 (eFz (eCall F__law_fits (eCons (eVar 9) (eCons (eVar 12) (eCons (eVar 13) eNil))))))
  (sIf (eNot (eTest (eCall F__law_right (eCons (eCall F_is_deeds (eCons (eVar 11) (eCons (eVar 12) (eCons (eVar 13) eNil)))) (eCons (eVar 14) eNil))))) (sRet (eC (.bl false))) sNext))
theorem x_b3_law {ρ : Ro} : b3_law ρ = (sSeq (sAsg 14 (eFz (eCall F__law_fits (eCons (eVar 9) (eCons (eVar 12) (eCons (eVar 13) eNil))))))
  (sIf (eNot (eTest (eCall F__law_right (eCons (eCall F_is_deeds (eCons (eVar 11) (eCons (eVar 12) (eCons (eVar 13) eNil)))) (eCons (eVar 14) eNil))))) (sRet (eC (.bl false))) sNext)) ρ := rfl
noncomputable def b4_law : S :=
  (sFor (itE (eLst (eCons (eFz (eVar 8)) (eCons (eSl (eVar 8) eNoP (eP (eC (.int 2)))) eNil)))) (tgName 13) b3_law)
theorem x_b4_law {ρ : Ro} : b4_law ρ = (sFor (itE (eLst (eCons (eFz (eVar 8)) (eCons (eSl (eVar 8) eNoP (eP (eC (.int 2)))) eNil)))) (tgName 13) b3_law) ρ := rfl
noncomputable def d_law : S :=
  (sSeq (sAsg 1 (eCall F__law_pool (eCons (eVar 0) eNil)))
  (sSeq (sAsg 2 (eBin opIx (eLst (eCons (eC (.int 1)) (eCons (eC (.int 2)) (eCons (eC (.int 3)) (eCons (eC (.int 3)) (eCons (eC (.int 0)) eNil)))))) (eCall F__law_draw (eCons (eVar 1) (eCons (eC (.int 5)) eNil)))))
  (sSeq (sAsg 3 (eCall F__law_some_ranges (eCons (eVar 1) (eCons (eVar 2) (eCons (eBin opPow (eC (.int 10)) (eC (.int 6))) (eCons (eC (.int 9)) eNil))))))
  (sSeq (sIf (eAnd (eBool (eBin opGt (eVar 2) (eC (.int 0)))) (eBool (eBin opEq (eCall F__law_draw (eCons (eVar 1) (eCons (eC (.int 5)) eNil))) (eC (.int 4))))) (sSeq (sTgt (tgTup 3 (tgCons (tgName 4) (tgCons (tgName 5) (tgCons (tgName 6) tgNil)))) (eBin opIx (eVar 3) (eC (.int 0))))
  (sSet 3 (eTup (eCons (eFz (eVar 4)) (eCons (eFz (eVar 5)) (eCons (eBin opAdd (eVar 5) (eCall F__law_draw (eCons (eVar 1) (eCons (eBin opAdd (eBin opPow (eC (.int 10)) (eC (.int 6))) (eC (.int 1))) eNil)))) eNil)))) (eC (.int 0)))) sNext)
  (sSeq (sAsg 7 (eFz (eCall F__law_some_values (eCons (eVar 1) (eCons (eFz (eVar 3)) eNil)))))
  (sSeq (sAsg 8 (eFz (eComp (itRange (eCons (eC (.int 3)) eNil)) (tgName 16) eYes e1_law (([("k", 16)] : List (Str × Nat)).map (·.2)))))
  (sSeq (sAsg 9 (eFz (eCall F__law_some_deeds (eCons (eVar 1) (eCons (eVar 3) (eCons (eVar 7) (eCons (eVar 8) eNil)))))))
  (sSeq (sIf (eNot (eTest (eCall F__law_runs (eCons (eVar 9) (eCons (eVar 3) (eCons (eVar 7) eNil)))))) (sRet (eC (.bl false))) sNext)
  (sSeq (sAsg 10 (eFz (eBin opAdd (eComp (itN 3) (tgName 17) eYes e2_law (([("row", 17)] : List (Str × Nat)).map (·.2))) (eLst (eCons (eC (.str "sparename123")) eNil)))))
  (sSeq (sAsg 11 (eFz (eCall F__law_given (eCons (eVar 9) eNil))))
  (sSeq (sFor (itE (eLst (eCons (eFz (eVar 10)) (eCons (eSl (eVar 10) (eP (eC (.int 1))) eNoP) (eCons (eSl (eVar 10) eNoP (eP (eC (.int 1)))) eNil))))) (tgName 12) b4_law)
  (sSeq (sAsg 15 (eFz (eLst (eCons (eCallB cList (eCons (eVar 10) eNil)) (eCons (eCallB cList (eCons (eVar 8) eNil)) eNil)))))
  (sRet (eIf (eBool (eCall F__law_judged (eCons (eVar 1) (eCons (eVar 10) (eCons (eVar 8) eNil))))) (eBin opEq (eLst (eCons (eFz (eVar 10)) (eCons (eFz (eVar 8)) eNil))) (eVar 15)) (eC (.bl false))))))))))))))))
noncomputable def F_law : Ro → Res R := runF 17 d_law
end DL

/-! K2m: the pool, the draw, names (the texts of k03 for this law). -/
namespace DL
open PySem PySem.Spec
def hD (hs : List Int) : OV := .lst (hs.map .int)
theorem draw_loop (many : Int) : ∀ (xs : List Int) (x : Int), ∃ h hs', sWhile t2__law_draw b1__law_draw
    [HS true (x :: xs), .fz (.int many), .no] = .nx [HS true (h :: hs'), .fz (.int many), .no]
  | [], x => ⟨x, [], while_stop (by simp [t2__law_draw])⟩
  | y :: ys, x => by
    by_cases hx : x = 0
    · obtain ⟨h, hs', e⟩ := draw_loop many ys y
      refine ⟨h, hs', while_go (ρ1 := [HS true (x :: y :: ys), .fz (.int many), .no]) (ρ2 := [HS true (y :: ys), .fz (.int many), .no]) ?_ ?_ e (fun q => by cases q)⟩
      · have : decide ((1 : Int) < (ys.length : Int) + 1 + 1) = true := decide_eq_true (by omega)
        simp [t2__law_draw, ix_0, hx, this]
      · simp [b1__law_draw]
    · refine ⟨x, y :: ys, while_stop ?_⟩
      have : decide ((1 : Int) < (ys.length : Int) + 1 + 1) = true := decide_eq_true (by omega)
      simp [t2__law_draw, ix_0, hx, this]
theorem log_ok30 {m : Int} (h : m ≤ 10 ^ 30) (h0 : 0 < m) : m.natAbs.log2 < 9000 := by
  have h2 : m.natAbs < 2 ^ 9000 := by
    have e : m.natAbs ≤ 10 ^ 30 := by omega
    exact Nat.lt_of_le_of_lt e (by decide +kernel)
  exact (Nat.log2_lt (by omega)).mpr h2
theorem draw (hs : List Int) (hne : hs ≠ []) (many : Int) (h0 : 0 < many) (h1 : many ≤ 10 ^ 30) : ∃ d hs', hs' ≠ [] ∧ 0 ≤ d ∧ d < many ∧ F__law_draw [.ow true (hD hs), .fz (.int many)] = .ok (.val (.int d)) [.ow true (hD hs'), .fz (.int many)] := by
  obtain ⟨x, xs, rfl⟩ := List.exists_cons_of_ne_nil hne
  obtain ⟨h, hs', e⟩ := draw_loop many xs x
  refine ⟨h % many, h / many :: hs', List.cons_ne_nil _ _, Int.emod_nonneg _ (by omega), Int.emod_lt_of_pos _ h0, ?_⟩
  show F__law_draw [HS true (x :: xs), .fz (.int many)] = .ok (.val (.int (h % many))) [HS true (h / many :: hs'), .fz (.int many)]
  unfold F__law_draw d__law_draw
  rw [x_run]
  show finK _ (sSeq _ _ [HS true (x :: xs), .fz (.int many), .no]) = _
  rw [x_seq, e]
  simp [ix_0, set_0, r_modI h0, r_fdivI h0 (log_ok30 h1 h0)]
def PIn (s0 s1 s3 : Sl) (a : Int) (ks : List D) (ρ : Ro) : Prop := (∀ d ∈ ks, ∃ k, d = .int k) ∧ ∃ z l s6, ρ = [s0, s1, .fz (.int a), s3, .fz (.int z), .fz (.int l), s6] ∧ 0 ≤ l ∧ l < 2 ^ 32 ∧ Fr s6
theorem pool_in {s0 s1 s3 : Sl} {a : Int} {ks : List D} {ρ : Ro} (h : PIn s0 s1 s3 a ks ρ) : ∃ ρ', loopF (tgName 6) b1__law_pool ks ρ = .nx ρ' ∧ PIn s0 s1 s3 a [] ρ' := by
  refine loop_inv (PIn s0 s1 s3 a) ?_ h
  rintro d ds ρ ⟨hd, z, l, s6, rfl, l0, l1, f6⟩
  obtain ⟨k, rfl⟩ := hd _ List.mem_cons_self
  refine ⟨[s0, s1, .fz (.int a), s3, .fz (.int z), .fz (.int l), .fz (.int k)], by simp [f6.ok], ?_⟩
  refine ⟨[s0, s1, .fz (.int a), s3, .fz (.int (z * 2147483629 + (l * l + 48271 * k + a + 5) % 2147483629)), .fz (.int ((l * l + 48271 * k + a + 5) % 2147483629)), .fz (.int k)], .inl ?_, fun d h => hd d (List.mem_cons_of_mem _ h), _, _, _, rfl, Int.emod_nonneg _ (by decide), ?_, .fz⟩
  · simp [b1__law_pool, r_mulI (mulL l0 (Int.lt_trans l1 (by decide))), r_mulI (mulL (i := 48271) (j := k) (by decide) (by decide)), r_mulI (mulR (i := z) (j := 2147483629) (by decide) (by decide)), r_modI (j := 2147483629)]
  · exact Int.lt_trans (Int.emod_lt_of_pos _ (by decide)) (by decide)
def POut (s0 : Sl) (ks : List D) (ρ : Ro) : Prop := (∀ d ∈ ks, ∃ a z, d = .tup [.int a, .int z]) ∧ ∃ hs s2 s3 s4 s5 s6, ρ = [s0, HS false hs, s2, s3, s4, s5, s6] ∧ Fr s2 ∧ Fr s3 ∧ Fr s4 ∧ Fr s5 ∧ Fr s6 ∧ hs.length + ks.length ≤ 63
theorem pool_out {s0 : Sl} {ks : List D} {ρ : Ro} (h : POut s0 ks ρ) : ∃ ρ', loopF (tgTup 2 (tgCons (tgName 2) (tgCons (tgName 3) tgNil))) b2__law_pool ks ρ = .nx ρ' ∧ POut s0 [] ρ' := by
  refine loop_inv (POut s0) ?_ h
  rintro d ds ρ ⟨hd, hs, s2, s3, s4, s5, s6, rfl, f2, f3, f4, f5, f6, hl⟩
  obtain ⟨a, z, rfl⟩ := hd _ List.mem_cons_self
  rw [List.length_cons] at hl
  have hsz : hs.length < sizeLine := by have := sizeLine_eq; omega
  have hp : (0 : Int) < (10 ^ 60) ^ 10 := Int.pow_pos (Int.pow_pos (by decide))
  have e18 : opPow (.int 10) (.int 18) = some (.val (.int (10 ^ 18))) := r_pow (by decide +kernel)
  have e60 : opPow (.int 10) (.int 60) = some (.val (.int (10 ^ 60))) := r_pow (by decide +kernel)
  have e600 : opPow (.int (10 ^ 60)) (.int 10) = some (.val (.int ((10 ^ 60) ^ 10))) := r_pow (by decide +kernel)
  generalize ((10 : Int) ^ 60) ^ 10 = T6 at hp e600
  generalize (10 : Int) ^ 60 = T5 at e60 e600
  generalize (10 : Int) ^ 18 = B at e18
  have app : ∀ v : Int, moAppend (.lst (hs.map .int)) [.int v] = some (.non, .lst ((hs ++ [v]).map .int)) := fun v => by
    rw [r_append (by rw [List.length_map]; exact hsz), List.map_append]; rfl
  refine ⟨[s0, HS false hs, .fz (.int a), .fz (.int z), s4, s5, s6], by simp [f2.ok, f3.ok], ?_⟩
  generalize hz : (if z < 0 then -z else z) = y
  by_cases hb : y < B
  · obtain ⟨ρ2, e2, _, y2, l2, s6', rfl, _, _, f6'⟩ := pool_in (s0 := s0) (s1 := HS false hs) (s3 := .fz (.int z)) (a := a) (ks := rangeD 0 7)
      (ρ := [s0, HS false hs, .fz (.int a), .fz (.int z), .fz (.int (((y + 7) * 1103515245 + a * 905842137) % 2147483647)), .fz (.int (((y + 7) * 1103515245 + a * 905842137) % 2147483647)), s6])
      ⟨fun d h => by
        obtain ⟨i, _, rfl⟩ := List.mem_map.mp h
        exact ⟨_, rfl⟩, _, _, _, rfl, Int.emod_nonneg _ (by decide), Int.lt_trans (Int.emod_lt_of_pos _ (by decide)) (by decide), f6⟩
    refine ⟨[s0, HS false (hs ++ [y2 % T6]), .fz (.int a), .fz (.int z), .fz (.int y2), .fz (.int l2), s6'], .inl ?_, fun d h => hd d (List.mem_cons_of_mem _ h), _, _, _, _, _, _, rfl, .fz, .fz, .fz, .fz, f6', by simp; omega⟩
    have fit : fits62 7 = true := by decide
    have t7 : (7 : Int).toNat = 7 := rfl
    simp only [HS] at e2
    simp [b2__law_pool, hz, e18, hb, f4.ok, f5.ok, r_mulI (mulR (i := y + 7) (j := 1103515245) (by decide) (by decide)), r_mulI (mulR (i := a) (j := 905842137) (by decide) (by decide)), r_modI (j := 2147483647), fit, t7, e2, e60, e600, r_modI hp, app]
  · refine ⟨[s0, HS false (hs ++ [y % T6]), .fz (.int a), .fz (.int z), .fz (.int y), s5, s6], .inl ?_, fun d h => hd d (List.mem_cons_of_mem _ h), _, _, _, _, _, _, rfl, .fz, .fz, .fz, f5, f6, by simp; omega⟩
    simp [b2__law_pool, hz, e18, hb, f4.ok, e60, e600, r_modI hp, app]
theorem pool (ns : List Int) : ∃ hs, hs ≠ [] ∧ F__law_pool [.fz (.scr ns)] = .ok (.nw (hD hs)) [.fz (.scr ns)] := by
  have hcut : (cutD (ns.map D.int) none (some 63)).length ≤ 63 := by
    unfold cutD
    rw [List.length_take]
    have : HT.sIx (ns.map D.int).length (ns.map D.int).length (some 63) ≤ 63 := by
      show (if (63 : Int) < 0 then (63 + ((ns.map D.int).length : Int)).toNat else min (63 : Int).toNat (ns.map D.int).length) ≤ 63
      rw [if_neg (by decide)]
      exact Nat.min_le_left _ _
    omega
  have hmem : ∀ d ∈ cutD (ns.map D.int) none (some 63), ∃ z, d = D.int z := fun d h => by
    unfold cutD at h
    have := List.mem_of_mem_drop (List.mem_of_mem_take h)
    obtain ⟨z, _, rfl⟩ := List.mem_map.mp this
    exact ⟨z, rfl⟩
  obtain ⟨ρ', e, _, hs, s2, s3, s4, s5, s6, rfl, _, _, _, _, _, hl⟩ := pool_out (s0 := .fz (.scr ns)) (ks := enumD (cutD (ns.map D.int) none (some 63))) (ρ := [.fz (.scr ns), HS false [], .no, .no, .no, .no, .no])
    ⟨fun d h => by
      obtain ⟨p, hp, rfl⟩ := List.mem_map.mp h
      obtain ⟨x, i⟩ := p
      obtain ⟨z, rfl⟩ := hmem x (List.fst_mem_of_mem_zipIdx hp)
      exact ⟨_, z, rfl⟩, [], .no, .no, .no, .no, .no, rfl, .no, .no, .no, .no, .no, by rw [enumD_len]; simpa using hcut⟩
  refine ⟨hs ++ [0], by simp, ?_⟩
  show F__law_pool [.fz (.scr ns)] = .ok (.nw (.lst ((hs ++ [0]).map .int))) [.fz (.scr ns)]
  unfold F__law_pool d__law_pool
  rw [x_run]
  have hs0 : ([] : List D).length ≤ sizeLine := Nat.zero_le _
  have hs1 : ([D.int 0] : List D).length ≤ sizeLine := by have := sizeLine_eq; simp; omega
  have add : opAdd (.lst (hs.map .int)) (.lst [.int 0]) = some (.nw (.lst ((hs ++ [0]).map .int))) := by
    rw [r_addL (by have := sizeLine_eq; simp at hl ⊢; omega), List.map_append]; rfl
  simp only [HS, List.map_nil] at e
  simp [lstK_s hs0, lstK_s hs1, e, add]
theorem K_eq : K_RESERVED = words.map .str := rfl
theorem run_reserved : F__law_reserved [] = .ok (.nw (.lst (words.map .str))) [] := by
  unfold F__law_reserved d__law_reserved
  rw [x_run]
  have e1 : opAdd (.str "after all and arrow boot branch choose deep defers do end entry events exit false feed") (.str " from hears if in inner is keep leaf none not on one or outer part queue recall") = some (.val (.str ("after all and arrow boot branch choose deep defers do end entry events exit false feed" ++ " from hears if in inner is keep leaf none not on one or outer part queue recall"))) := r_addS (by decide +kernel)
  have e2 : opAdd (.str ("after all and arrow boot branch choose deep defers do end entry events exit false feed" ++ " from hears if in inner is keep leaf none not on one or outer part queue recall")) (.str " shallow start tell tells to true use value whole words") = some (.val (.str ("after all and arrow boot branch choose deep defers do end entry events exit false feed" ++ " from hears if in inner is keep leaf none not on one or outer part queue recall" ++ " shallow start tell tells to true use value whole words"))) := r_addS (by decide +kernel)
  have e3 : mSplit ("after all and arrow boot branch choose deep defers do end entry events exit false feed" ++ " from hears if in inner is keep leaf none not on one or outer part queue recall" ++ " shallow start tell tells to true use value whole words") [.str " "] = some (.nw (.lst (words.map .str))) := by
    generalize hz : ("after all and arrow boot branch choose deep defers do end entry events exit false feed" ++ " from hears if in inner is keep leaf none not on one or outer part queue recall" ++ " shallow start tell tells to true use value whole words" : Str) = z
    have h1 : ((((" " : Str).length != 0) && decide (z.length + 2 ≤ sizeLine)) = true) := by rw [← hz]; decide +kernel
    have h2 : Txt.split z " " = words := by rw [← hz]; decide +kernel
    show (if (((" " : Str).length != 0) && decide (z.length + 2 ≤ sizeLine)) = true then some (R.nw (.lst ((Txt.split z " ").map .str))) else none) = _
    rw [if_pos h1, h2]
  simp [e1, e2, e3]
theorem notin_words (x : Str) : opNotIn (.str x) (.tup K_RESERVED) = some (.val (.bl (!inW x))) := by
  unfold opNotIn
  have : inB (.str x) (.tup K_RESERVED) = some (inW x) := by
    show (if (flatD (.str x) && K_RESERVED.all flatD) = true then some (K_RESERVED.any fun z => eqF z (.str x)) else none) = _
    rw [if_pos (by rfl), K_eq, any_words]
  rw [this]; rfl
theorem run_is_name {x : Str} (hz : x.length ≤ sizeLine) : F_is_name [.fz (.str x)] = .ok (.val (.bl (isName x))) [.fz (.str x)] := by
  unfold F_is_name d_is_name
  rw [x_run]
  by_cases h1 : 1 ≤ x.length
  · have i1 : decide ((1 : Int) ≤ (x.length : Int)) = true := decide_eq_true (by omega)
    by_cases h2 : x.length ≤ 12
    · have i2 : decide ((x.length : Int) ≤ 12) = true := decide_eq_true (by omega)
      cases h3 : Txt.isascii x with
      | false => simp [r_len_str hz, i1, i2, isName, h1, h2, h3]
      | true =>
        cases h4 : Unicode.isAlpha (hd0 x) with
        | false =>
          simp [r_len_str hz, i1, i2, isName, h1, h2, h3, h4, ix_head h1 hz, isalpha1]
        | true =>
          cases h5 : Txt.isalnum x with
          | false => simp [r_len_str hz, i1, i2, isName, h1, h2, h3, h4, ix_head h1 hz, isalpha1, h5]
          | true =>
            cases h6 : Txt.islower x with
            | false => simp [r_len_str hz, i1, i2, isName, h1, h2, h3, h4, ix_head h1 hz, isalpha1, h5, h6]
            | true => simp [r_len_str hz, i1, i2, isName, h1, h2, h3, h4, ix_head h1 hz, isalpha1, h5, h6, notin_words]
    · have i2 : decide ((x.length : Int) ≤ 12) = false := decide_eq_false (by omega)
      simp [r_len_str hz, i1, i2, isName, h1, h2]
  · have i1 : decide ((1 : Int) ≤ (x.length : Int)) = false := decide_eq_false (by omega)
    simp [r_len_str hz, i1, isName, h1]
theorem comp_names {F : Ro → Res R} {f : Str → Bool} {n : Nat} {x : Str} (h : Asc n x) (hn : n ≤ 100000) (hF : ∀ p, Asc n p → F [.fz (.str p)] = .ok (.val (.bl (f p))) [.fz (.str p)]) (e : M R) (he : ∀ ρ, e ρ = eCall F (eCons (eVar 2) eNil) ρ) (d1 : D) :
    compN (tgName 2) eYes e [2] ((Txt.split x ".").map .str) [] [.fz (.str x), .fz d1, .no] = .ok (((Txt.split x ".").map D.str).map (onStr f)) [.fz (.str x), .fz d1, .no] := by
  have := comp_map (ρ := [.fz (.str x), .fz d1, .no]) (tgt := tgName 2) (cond := eYes) (elt := e) (vs := [2]) (onStr f) ((Txt.split x ".").map .str) [] (fun d hd => by
    obtain ⟨p, hp, rfl⟩ := List.mem_map.mp hd
    refine ⟨[.fz (.str x), .fz d1, .fz (.str p)], [.fz (.str x), .fz d1, .fz (.str p)], [.fz (.str x), .fz d1, .fz (.str p)], .val (.bl (f p)), by simp, by simp, ?_, rfl, ?_⟩
    · rw [he]
      simp [hF p (h.piece hp)]
    · simp) (by
      rw [List.length_nil, Nat.zero_add, List.length_map]
      exact split_len h hn)
  simpa using this
theorem run_is_long {n : Nat} {x : Str} (h : Asc n x) (hn : n ≤ 100000) : F_is_long_name [.fz (.str x)] = .ok (.val (.bl (longN isName x))) [.fz (.str x)] := by
  unfold F_is_long_name d_is_long_name
  rw [x_run]
  have hz : x.length + 2 ≤ sizeLine := by have := sizeLine_eq; have := h.1; omega
  have c1 := comp_names (F := F_is_name) (f := isName) h hn (fun p hp => run_is_name (hp.sz hn)) e1_is_long_name (fun ρ => rfl) (.lst ((Txt.split x ".").map .str))
  generalize hw : (Txt.split x ".").map D.str = ps at c1
  have hl : ps.length = (Txt.split x ".").length := by rw [← hw, List.length_map]
  have hsp : mSplit x [.str "."] = some (.nw (.lst ps)) := by rw [← hw]; exact r_split hz
  have hall : cAll [.lst (ps.map (onStr isName))] = some (.val (.bl ((Txt.split x ".").all isName))) := by rw [← hw]; exact all_on _
  unfold longN
  by_cases h40 : (Txt.split x ".").length ≤ 40
  · have i1 : decide ((40 : Int) < ps.length) = false := decide_eq_false (by omega)
    simp [hsp, i1, c1, hall, h40]
  · have i1 : decide ((40 : Int) < ps.length) = true := decide_eq_true (by omega)
    simp [hsp, i1, h40]
end DL

/-! K2n: k02: drawn names. -/
namespace DL
open PySem PySem.Spec
theorem chk_snoc : ∀ (l : List Nat) (i c : Nat), chk i (l ++ [c]) = (chk i l && (az c || (i + l.length != 0 && dg c)))
  | [], i, c => by simp [chk]
  | x :: l, i, c => by
    show ((az x || (i != 0 && dg x)) && chk (i + 1) (l ++ [c])) = (((az x || (i != 0 && dg x)) && chk (i + 1) l) && _)
    rw [chk_snoc l (i + 1) c, Bool.and_assoc, List.length_cons]
    have : i + 1 + l.length = i + (l.length + 1) := by omega
    rw [this]
theorem l36_alnum : ∀ c ∈ cs l36, (az c || dg c) = true := by decide +kernel
theorem letters_az : ∀ c ∈ cs "abcdefghijklmnopqrstuvwxyz", az c = true := by decide +kernel
theorem ix_chr2 {z : Str} {n : Nat} (h : Asc n z) (hn : n ≤ 100000) {i : Int} (h0 : 0 ≤ i) (h1 : i < z.length) : ∃ c, c < 128 ∧ c ∈ cs z ∧ opIx (.str z) (.int i) = some (.val (.str ⟨#[c]⟩)) := by
  obtain ⟨j, rfl⟩ := Int.eq_ofNat_of_zero_le h0
  have hj : j < (cs z).length := by rw [← len_cs]; omega
  have e : L2.atI z.cps.toList (j : Int) = some (cs z)[j] := L2.atI_nat (List.getElem?_eq_getElem hj)
  refine ⟨(cs z)[j], h.2 _ (List.getElem_mem hj), List.getElem_mem hj, ?_⟩
  show (if z.length ≤ sizeLine then (L2.atI z.cps.toList (j : Int)).bind (fun c => vS ⟨#[c]⟩) else none) = _
  rw [if_pos (h.sz hn), e]; rfl
/-- a name's signs -/
def Nam (n : Nat) (x : Str) : Prop := chk 0 (cs x) = true ∧ 1 ≤ x.length ∧ x.length ≤ n
theorem chk_lt : ∀ (l : List Nat) (i : Nat), chk i l = true → ∀ c ∈ l, (az c || dg c) = true
  | [], _, _, _, h => absurd h List.not_mem_nil
  | x :: l, i, h, c, hc => by
    have h : ((az x || (i != 0 && dg x)) && chk (i + 1) l) = true := h
    rw [Bool.and_eq_true] at h
    rcases List.mem_cons.mp hc with rfl | hc
    · have h1 := h.1
      rw [Bool.or_eq_true] at h1 ⊢
      rcases h1 with h1 | h1
      · exact .inl h1
      · rw [Bool.and_eq_true] at h1; exact .inr h1.2
    · exact chk_lt l (i + 1) h.2 c hc
theorem alnum_lt {c : Nat} (h : (az c || dg c) = true) : c < 128 ∧ c ≠ 46 := by
  rw [Bool.or_eq_true] at h
  rcases h with h | h
  · have := az_of h
    refine ⟨this, fun e => ?_⟩
    subst e; revert h; decide +kernel
  · have := dgc_of h
    refine ⟨this, fun e => ?_⟩
    subst e; revert h; decide +kernel
theorem Nam.asc {n : Nat} {x : Str} (h : Nam n x) : Asc n x := ⟨h.2.2, fun c hc => (alnum_lt (chk_lt _ _ h.1 c hc)).1⟩
theorem Nam.nodot {n : Nat} {x : Str} (h : Nam n x) : 46 ∉ cs x := fun hc => (alnum_lt (chk_lt _ _ h.1 46 hc)).2 rfl
theorem Nam.one {c : Nat} (h : az c = true) : Nam 1 ⟨#[c]⟩ := ⟨by simp [cs, chk, h], by simp [Str.length], by simp [Str.length]⟩
theorem Nam.snoc {n c : Nat} {x : Str} (h : Nam n x) (hc : (az c || dg c) = true) : Nam (n + 1) (x ++ ⟨#[c]⟩) := by
  obtain ⟨h1, h2, h3⟩ := h
  have e : cs (x ++ ⟨#[c]⟩) = cs x ++ [c] := by rw [cs_append]
  refine ⟨?_, ?_, ?_⟩
  · rw [e, chk_snoc, h1, Bool.true_and]
    rw [len_cs] at h2
    have : (0 + (cs x).length != 0) = true := by rw [Nat.zero_add]; exact bne_iff_ne.mpr (by omega)
    rw [this, Bool.true_and]; exact hc
  · rw [len_cs, e, List.length_append]; simp
  · rw [len_cs, e, List.length_append, List.length_singleton, ← len_cs]; omega
theorem Nam.mono {m n : Nat} {x : Str} (h : Nam m x) (l : m ≤ n) : Nam n x := ⟨h.1, h.2.1, Nat.le_trans h.2.2 l⟩
theorem Nam.is {x : Str} (h : Nam 12 x) (hw : inW x = false) : isName x = true := by
  rw [name_is]
  unfold lawName
  rw [decide_eq_true h.2.1, decide_eq_true h.2.2, hw, h.1]; rfl
def PNm (s1 s4 : Sl) (ks : List D) (ρ : Ro) : Prop := ∃ hs x j, hs ≠ [] ∧ ρ = [.ow true (hD hs), s1, .fz (.str "abcdefghijklmnopqrstuvwxyz"), .fz (.str x), s4, jk j] ∧ Nam (8 - ks.length) x ∧ ks.length ≤ 7
theorem l36_split : ("abcdefghijklmnopqrstuvwxyz" : Str) ++ ("0123456789" : Str) = l36 := rfl
theorem words_x : ∀ w ∈ words, inW (w ++ Txt.mul "x" 1) = false := by decide +kernel
theorem words_nx : ∀ w ∈ words, chk 0 (cs (w ++ Txt.mul "x" 1)) = true := by decide +kernel
theorem mem_of_inW {x : Str} (h : inW x = true) : x ∈ words := by
  unfold inW at h
  obtain ⟨w, hw, e⟩ := List.any_eq_true.mp h
  have := eq_of_beq e
  subst this; exact hw
theorem run_named {hs : List Int} (hne : hs ≠ []) {most : Int} (m1 : 1 ≤ most) (m2 : most ≤ 8) : ∃ x hs', hs' ≠ [] ∧ Nam 9 x ∧ isName x = true ∧ F__law_named [.ow true (hD hs), .fz (.int most)] = .ok (.val (.str x)) [.ow true (hD hs'), .fz (.int most)] := by
  suffices h : Gives (fun v a => ∃ x hs', hs' ≠ [] ∧ Nam 9 x ∧ isName x = true ∧ v = .val (.str x) ∧ a = [.ow true (hD hs'), .fz (.int most)]) (F__law_named [.ow true (hD hs), .fz (.int most)]) by
    obtain ⟨_, _, e, x, hs', h1, h2, h3, rfl, rfl⟩ := h
    exact ⟨x, hs', h1, h2, h3, e⟩
  obtain ⟨v1, hs1, n1, a1, b1, e1⟩ := draw hs hne 26 (by decide) (by decide)
  obtain ⟨v2, hs2, n2, a2, b2, e2⟩ := draw hs1 n1 4 (by decide) (by decide)
  obtain ⟨c, hc, hcm, ec⟩ := ix_chr2 letters_asc (by decide) a1 (by rw [letters_len]; exact b1)
  refine er_run ?_
  unfold d__law_named
  refine er_seq (by simp -implicitDefEqProofs [-List.map_map, -List.map_append] <;> first | exact rfl | exact ⟨rfl, rfl⟩) ?_
  refine er_seq (by simp -implicitDefEqProofs [-List.map_map, -List.map_append, e1, ec] <;> first | exact rfl | exact ⟨rfl, rfl⟩) ?_
  refine er_seq (by simp -implicitDefEqProofs [-List.map_map, -List.map_append, e2] <;> first | exact rfl | exact ⟨rfl, rfl⟩) ?_
  refine er_out (Q := fun ρ => ∃ many hs3, hs3 ≠ [] ∧ 0 ≤ many ∧ many ≤ 7 ∧ ρ = [.ow true (hD hs3), .fz (.int most), .fz (.str "abcdefghijklmnopqrstuvwxyz"), .fz (.str ⟨#[c]⟩), .fz (.int many), .no]) ?_ ?_
  · by_cases h3 : v2 = 3
    · obtain ⟨v3, hs3, n3, a3, b3, e3⟩ := draw hs2 n2 most (by omega) (by omega)
      exact ⟨_, (by simp -implicitDefEqProofs [-List.map_map, -List.map_append, h3, e3] <;> first | exact rfl | exact ⟨rfl, rfl⟩), v3, hs3, n3, a3, by omega, rfl⟩
    · have h3' : (v2 == 3) = false := by simpa using h3
      exact ⟨_, (by simp -implicitDefEqProofs [-List.map_map, -List.map_append, h3'] <;> first | exact rfl | exact ⟨rfl, rfl⟩), v2, hs2, n2, a2, by omega, rfl⟩
  rintro ρ ⟨many, hs3, n3, a3, b3, rfl⟩
  have fit := fits_of a3 (by omega)
  refine er_for (PNm (.fz (.int most)) (.fz (.int many))) (ds := rangeD 0 many.toNat) (by simp -implicitDefEqProofs [-List.map_map, -List.map_append, fit] <;> first | exact rfl | exact ⟨rfl, rfl⟩) ⟨hs3, ⟨#[c]⟩, none, n3, rfl, (Nam.one (letters_az c hcm)).mono (by rw [range_len]; omega), by rw [range_len]; omega⟩ ?_ ?_
  · rintro d ds ρ ⟨hs, x, j, hne, rfl, ax, hl⟩
    rw [List.length_cons] at ax hl
    obtain ⟨v, hs', hne', v0, v1, e⟩ := draw hs hne 36 (by decide) (by decide)
    obtain ⟨c, hc, hcm, ec⟩ := ix_chr2 l36_asc (by decide) v0 (by rw [l36_len]; exact v1)
    have ax' := ax.snoc (l36_alnum c hcm)
    have ea := addA ax.asc (Asc.one hc) (by omega)
    refine ⟨_, (by simp -implicitDefEqProofs [-List.map_map, -List.map_append] <;> first | exact rfl | exact ⟨rfl, rfl⟩), _, .inl (by simp -implicitDefEqProofs [-List.map_map, -List.map_append, x_b1__law_named, add36, e, ec, ea] <;> first | exact rfl | exact ⟨rfl, rfl⟩), hs', x ++ ⟨#[c]⟩, some d, hne', rfl, ax'.mono (by omega), by omega⟩
  rintro ρ ⟨hs4, x, j, n4, rfl, ax, _⟩
  have ax : Nam 8 x := ax
  cases hw : inW x with
  | true =>
    have hm := mem_of_inW hw
    have ew : opIn (.str x) (.lst (words.map .str)) = some (.val (.bl true)) := by rw [in_words ax.asc.ok, hw]
    have e1 : opMulA (.str "x") (.int 1) = some (.val (.str (Txt.mul "x" 1))) := by
      show (if (decide (-(2 ^ 63) ≤ (1 : Int)) && decide ((1 : Int) < 2 ^ 63) && decide (("x" : Str).length * (1 : Int).toNat ≤ sizeLine)) = true then vS (Txt.mul "x" 1) else none) = _
      rw [if_pos (by decide +kernel)]; rfl
    have e2 := addA ax.asc (show Asc 1 (Txt.mul "x" 1) by decide +kernel) (by decide)
    have hn : Nam 9 (x ++ Txt.mul "x" 1) := ⟨words_nx x hm, by rw [len_cs, cs_append, List.length_append]; have := ax.2.1; rw [len_cs] at this; omega, by
      have h1 : (Txt.mul "x" 1).length = 1 := by decide +kernel
      have := ax.2.2
      rw [len_cs, cs_append, List.length_append, ← len_cs, ← len_cs, h1]; omega⟩
    exact er_end (by simp -implicitDefEqProofs [-List.map_map, -List.map_append, run_reserved, ew, e1, e2] <;> first | exact rfl | exact ⟨rfl, rfl⟩) ⟨_, hs4, n4, hn, (hn.mono (by decide)).is (words_x x hm), rfl, rfl⟩
  | false =>
    have ew : opIn (.str x) (.lst (words.map .str)) = some (.val (.bl false)) := by rw [in_words ax.asc.ok, hw]
    have e1 : opMulA (.str "x") (.int 0) = some (.val (.str Str.empty)) := by
      show (if (decide (-(2 ^ 63) ≤ (0 : Int)) && decide ((0 : Int) < 2 ^ 63) && decide (("x" : Str).length * (0 : Int).toNat ≤ sizeLine)) = true then vS (Txt.mul "x" 0) else none) = _
      rw [if_pos (by decide +kernel)]; exact congrArg vS (by decide +kernel)
    have e2 := addA ax.asc empty_asc (by decide)
    rw [app_empty] at e2
    exact er_end (by simp -implicitDefEqProofs [-List.map_map, -List.map_append, run_reserved, ew, e1, e2] <;> first | exact rfl | exact ⟨rfl, rfl⟩) ⟨x, hs4, n4, ax.mono (by decide), (ax.mono (by decide)).is hw, rfl, rfl⟩
end DL

/-! K2o: k02: long names, ranges, values. -/
namespace DL
open PySem PySem.Spec
theorem dot_tl : TL.tl "." = 46 :: [] := by decide +kernel
theorem split1 {x : Str} (h : 46 ∉ cs x) : Txt.split x "." = [x] := by
  have := TL.split_join dot_tl (by decide +kernel) (parts := [x]) (by simp) (fun p hp => by rw [List.mem_singleton] at hp; subst hp; exact h)
  rw [TL.join_eq] at this
  exact this
theorem split2 {x y : Str} (h : 46 ∉ cs x) (k : 46 ∉ cs y) : Txt.split (x ++ "." ++ y) "." = [x, y] := by
  have := TL.split_join dot_tl (by decide +kernel) (parts := [x, y]) (by simp) (fun p hp => by
    rcases List.mem_cons.mp hp with rfl | hp
    · exact h
    · rw [List.mem_singleton] at hp; subst hp; exact k)
  rw [TL.join_eq] at this
  exact this
/-- a good long name -/
def LN (x : Str) : Prop := Asc 19 x ∧ longN isName x = true
theorem LN.of_nam {n : Nat} {x : Str} (h : Nam n x) (hn : n ≤ 19) (k : isName x = true) : LN x := by
  refine ⟨h.asc.mono hn, ?_⟩
  unfold longN
  rw [split1 h.nodot]
  simp [k]
/-- what a drawn name is and the others are not -/
def DN (x : Str) : Prop := x.length ≤ 9 ∨ 46 ∈ cs x
theorem dot_asc : Asc 1 "." := by decide +kernel
theorem run_long {hs : List Int} (hne : hs ≠ []) : ∃ x hs', hs' ≠ [] ∧ LN x ∧ DN x ∧ F__law_long [.ow true (hD hs)] = .ok (.val (.str x)) [.ow true (hD hs')] := by
  suffices h : Gives (fun v a => ∃ x hs', hs' ≠ [] ∧ LN x ∧ DN x ∧ v = .val (.str x) ∧ a = [.ow true (hD hs')]) (F__law_long [.ow true (hD hs)]) by
    obtain ⟨_, _, e, x, hs', h1, h2, h3, rfl, rfl⟩ := h
    exact ⟨x, hs', h1, h2, h3, e⟩
  obtain ⟨x, hs1, n1, ax, ix, e1⟩ := run_named hne (most := 8) (by decide) (by decide)
  obtain ⟨v2, hs2, n2, a2, b2, e2⟩ := draw hs1 n1 3 (by decide) (by decide)
  refine er_run ?_
  unfold d__law_long
  refine er_seq (by simp -implicitDefEqProofs [-List.map_map, -List.map_append, e1] <;> first | exact rfl | exact ⟨rfl, rfl⟩) ?_
  by_cases h : v2 = 2
  · obtain ⟨y, hs3, n3, ay, iy, e3⟩ := run_named n2 (most := 8) (by decide) (by decide)
    have a1 := addA ax.asc dot_asc (by decide)
    have a2 := addA (ax.asc.append dot_asc) ay.asc (by decide)
    refine er_seq (by simp -implicitDefEqProofs [-List.map_map, -List.map_append, e2, h, e3, a1, a2] <;> first | exact rfl | exact ⟨rfl, rfl⟩) ?_
    refine er_end (by simp -implicitDefEqProofs [-List.map_map, -List.map_append] <;> first | exact rfl | exact ⟨rfl, rfl⟩) ⟨_, hs3, n3, ⟨((ax.asc.append dot_asc).append ay.asc).mono (by decide), ?_⟩, .inr ?_, rfl, rfl⟩
    · unfold longN
      rw [split2 ax.nodot ay.nodot]
      simp [ix, iy]
    · rw [cs_append, cs_append]
      exact List.mem_append_left _ (List.mem_append_right _ (by decide +kernel))
  · have h' : (v2 == 2) = false := by simpa using h
    refine er_seq (by simp -implicitDefEqProofs [-List.map_map, -List.map_append, e2, h'] <;> first | exact rfl | exact ⟨rfl, rfl⟩) ?_
    exact er_end (by simp -implicitDefEqProofs [-List.map_map, -List.map_append] <;> first | exact rfl | exact ⟨rfl, rfl⟩) ⟨x, hs2, n2, .of_nam ax (by decide) ix, .inl ax.2.2, rfl, rfl⟩
/-! ### ranges -/
structure Rg where
  n : Str
  lo : Int
  hi : Int
def Rg.d (r : Rg) : D := .tup [.str r.n, .int r.lo, .int r.hi]
def an (k : Nat) : Str := "anothername" ++ Sn k
instance {n : Nat} {x : Str} : Decidable (Nam n x) := inferInstanceAs (Decidable (_ ∧ _))
theorem an_facts : ∀ k < 3, Nam 12 (an k) ∧ isName (an k) = true ∧ 9 < (an k).length ∧ 46 ∉ cs (an k) ∧ (∀ j < 3, an j = an k → j = k) := by decide +kernel
structure RgOk (r : Rg) : Prop where
  ln : LN r.n
  nm : DN r.n ∨ ∃ j < 3, r.n = an j
  l1 : -1000000 ≤ r.lo
  l2 : r.lo ≤ 1000000
  h1 : r.lo ≤ r.hi
  h2 : r.hi ≤ 3000000
theorem strOk_LN {x : Str} (h : LN x) : PyData.strOk x = true := h.1.ok
theorem any_strs (x : Str) : ∀ ws : List Str, ((ws.map D.str).any fun z => eqF z (.str x)) = ws.any (· == x)
  | [] => rfl
  | w :: ws => by
    rw [List.map_cons, List.any_cons, List.any_cons, any_strs x ws]
    rfl
theorem in_strs {ws : List Str} {x : Str} (h : ∀ w ∈ ws, PyData.strOk w = true) (hx : PyData.strOk x = true) : opIn (.str x) (.lst (ws.map .str)) = some (.val (.bl (decide (x ∈ ws)))) := by
  unfold opIn
  have : inB (.str x) (.lst (ws.map .str)) = some ((ws.map D.str).any fun z => eqF z (.str x)) := by
    show (if (pyOk (.str x) && pyOk (.lst (ws.map .str))) = true then some ((ws.map D.str).any fun z => eqF z (.str x)) else none) = _
    rw [pyOk_strs h, pyOk_str hx, if_pos (by rfl)]
  rw [this, any_strs]
  show vB _ = _
  have : ws.any (· == x) = decide (x ∈ ws) := by
    rw [Bool.eq_iff_iff, List.any_eq_true, decide_eq_true_eq]
    constructor
    · rintro ⟨w, hw, e⟩; rw [eq_of_beq e] at hw; exact hw
    · exact fun h => ⟨x, h, beq_self_eq_true x⟩
  rw [this]; rfl
theorem notin_strsL {ws : List Str} {x : Str} (h : ∀ w ∈ ws, PyData.strOk w = true) (hx : PyData.strOk x = true) : opNotIn (.str x) (.lst (ws.map .str)) = some (.val (.bl (!decide (x ∈ ws)))) := by
  have := in_strs h hx
  unfold opIn at this
  unfold opNotIn
  cases e : inB (.str x) (.lst (ws.map .str)) with
  | none => rw [e] at this; cases this
  | some b =>
    rw [e] at this
    have hb : b = decide (x ∈ ws) := by
      have : some (R.val (.bl b)) = some (R.val (.bl (decide (x ∈ ws)))) := this
      injection this with this
      injection this with this
      injection this
    rw [hb]; rfl
theorem ixT0 {a : D} {l : List D} : opIx (.tup (a :: l)) (.int 0) = some (.val a) := by
  show (L2.atI (a :: l) ((0 : Nat) : Int)).map R.val = _
  rw [L2.atI_nat (v := a) rfl]; rfl
theorem ixT1 {a b : D} {l : List D} : opIx (.tup (a :: b :: l)) (.int 1) = some (.val b) := by
  show (L2.atI (a :: b :: l) ((1 : Nat) : Int)).map R.val = _
  rw [L2.atI_nat (v := b) rfl]; rfl
theorem ixT2 {a b c : D} {l : List D} : opIx (.tup (a :: b :: c :: l)) (.int 2) = some (.val c) := by
  show (L2.atI (a :: b :: c :: l) ((2 : Nat) : Int)).map R.val = _
  rw [L2.atI_nat (v := c) rfl]; rfl
theorem ixT3 {a b c e : D} {l : List D} : opIx (.tup (a :: b :: c :: e :: l)) (.int 3) = some (.val e) := by
  show (L2.atI (a :: b :: c :: e :: l) ((3 : Nat) : Int)).map R.val = _
  rw [L2.atI_nat (v := e) rfl]; rfl
theorem names_ok {rs : List Rg} (h : ∀ r ∈ rs, RgOk r) : ∀ w ∈ rs.map Rg.n, PyData.strOk w = true := fun w hw => by
  obtain ⟨r, hr, rfl⟩ := List.mem_map.mp hw
  exact strOk_LN (h r hr).ln
theorem tup3 {a b c : D} {ρ : Ro} : tupK (some [a, b, c]) ρ = .ok (.val (.tup [a, b, c])) ρ := tupK_s (by have := sizeLine_eq; simp; omega)
theorem tup2 {a b : D} {ρ : Ro} : tupK (some [a, b]) ρ = .ok (.val (.tup [a, b])) ρ := tupK_s (by have := sizeLine_eq; simp; omega)
theorem tup4 {a b c d : D} {ρ : Ro} : tupK (some [a, b, c, d]) ρ = .ok (.val (.tup [a, b, c, d])) ρ := tupK_s (by have := sizeLine_eq; simp; omega)
theorem tup0 {ρ : Ro} : tupK (some []) ρ = .ok (.val (.tup [])) ρ := tupK_s (by have := sizeLine_eq; simp)
theorem lst0 {ρ : Ro} : lstK (some []) ρ = .ok (.nw (.lst [])) ρ := lstK_s (by have := sizeLine_eq; simp)
theorem lst1 {a : D} {ρ : Ro} : lstK (some [a]) ρ = .ok (.nw (.lst [a])) ρ := lstK_s (by have := sizeLine_eq; simp; omega)
theorem lst3 {a b c : D} {ρ : Ro} : lstK (some [a, b, c]) ρ = .ok (.nw (.lst [a, b, c])) ρ := lstK_s (by have := sizeLine_eq; simp; omega)
theorem lst5 {a b c d e : D} {ρ : Ro} : lstK (some [a, b, c, d, e]) ρ = .ok (.nw (.lst [a, b, c, d, e])) ρ := lstK_s (by have := sizeLine_eq; simp; omega)
theorem lst6 {a b c d e f : D} {ρ : Ro} : lstK (some [a, b, c, d, e, f]) ρ = .ok (.nw (.lst [a, b, c, d, e, f])) ρ := lstK_s (by have := sizeLine_eq; simp; omega)
theorem appM {A : Type} {enc : A → D} {xs : List A} {x : A} (h : xs.length ≤ 100000) : moAppend (.lst (xs.map enc)) [enc x] = some (.non, .lst ((xs ++ [x]).map enc)) := by
  rw [r_append (by rw [List.length_map]; have := sizeLine_eq; omega), List.map_append]; rfl
theorem rg_names (rs : List Rg) {ρ : Ro} {tgt : Tgt} {elt : M R} {vs : List Nat} (hl : rs.length ≤ 100000) (h : ∀ r ∈ rs, Item tgt eYes elt vs r.d ρ (.str r.n) ρ) : compN tgt eYes elt vs (rs.map Rg.d) [] ρ = .ok ((rs.map Rg.n).map .str) ρ := by
  rw [comp_T Rg.d (fun r => .str r.n) rs [] h (by have := sizeLine_eq; rw [List.length_nil]; omega), List.map_map]; rfl
def JRg (s1 : Sl) (k : Nat) (ρ : Ro) : Prop := ∃ (hs : List Int) (rs : List Rg) (j5 j6 j7 : Option D), hs ≠ [] ∧ ρ = [.ow true (hD hs), s1, .fz (.int 1000000), .fz (.int 9), .ow false (.lst (rs.map Rg.d)), jk j5, jk j6, jk j7, .no] ∧ rs.length = k ∧ (∀ r ∈ rs, RgOk r ∧ r.hi ≤ r.lo + 8 ∧ (DN r.n ∨ ∃ j < k, r.n = an j)) ∧ (rs.map Rg.n).Nodup
theorem run_ranges {hs : List Int} (hne : hs ≠ []) {many : Nat} (hm : many ≤ 3) : ∃ (rs : List Rg) (hs' : List Int), hs' ≠ [] ∧ rs.length = many ∧ (∀ r ∈ rs, RgOk r ∧ r.hi ≤ r.lo + 8) ∧ (rs.map Rg.n).Nodup ∧
    F__law_some_ranges [.ow true (hD hs), .fz (.int many), .fz (.int 1000000), .fz (.int 9)] = .ok (.nw (.lst (rs.map Rg.d))) [.ow true (hD hs'), .fz (.int many), .fz (.int 1000000), .fz (.int 9)] := by
  suffices h : Gives (fun v a => ∃ (rs : List Rg) (hs' : List Int), hs' ≠ [] ∧ rs.length = many ∧ (∀ r ∈ rs, RgOk r ∧ r.hi ≤ r.lo + 8) ∧ (rs.map Rg.n).Nodup ∧ v = .nw (.lst (rs.map Rg.d)) ∧ a = [.ow true (hD hs'), .fz (.int many), .fz (.int 1000000), .fz (.int 9)]) (F__law_some_ranges [.ow true (hD hs), .fz (.int many), .fz (.int 1000000), .fz (.int 9)]) by
    obtain ⟨_, _, e, rs, hs', h1, h2, h3, h4, rfl, rfl⟩ := h
    exact ⟨rs, hs', h1, h2, h3, h4, e⟩
  refine er_run ?_
  unfold d__law_some_ranges
  refine er_seq (by simp -implicitDefEqProofs [-List.map_map, -List.map_append, lst0] <;> first | exact rfl | exact ⟨rfl, rfl⟩) ?_
  have fit := fits_of (i := (many : Int)) (by omega) (by omega)
  refine er_out (for_N (JRg (.fz (.int many))) (lo := 0) (n := many) (by simp -implicitDefEqProofs [-List.map_map, -List.map_append, fit] <;> first | exact rfl | exact ⟨rfl, rfl⟩) ⟨hs, [], none, none, none, hne, rfl, rfl, by simp, by simp⟩ ?_) ?_
  · rintro k hk ρ ⟨hs, rs, j5, j6, j7, hne, rfl, hl, hr, hd⟩
    obtain ⟨x, hs1, n1, lx, dx, e1⟩ := run_long hne
    have hro : ∀ r ∈ rs, RgOk r := fun r h => (hr r h).1
    have ec := fun (s0 s1 s2 s3 s4 s5 s6 s7 : Sl) => rg_names rs (ρ := [s0, s1, s2, s3, s4, s5, s6, s7, .no]) (tgt := tgName 8) (elt := e1__law_some_ranges) (vs := [8]) (by omega) (fun r _ => ⟨_, _, _, _, (by simp -implicitDefEqProofs [-List.map_map, -List.map_append] <;> first | exact rfl | exact ⟨rfl, rfl⟩), rfl, (by simp -implicitDefEqProofs [-List.map_map, -List.map_append, x_e1__law_some_ranges, Rg.d, ixT0] <;> first | exact rfl | exact ⟨rfl, rfl⟩), rfl, by simp -implicitDefEqProofs⟩)
    have ei := in_strs (names_ok hro) (strOk_LN lx)
    obtain ⟨v1, hs2, n2, a1, b1, e2⟩ := draw hs1 n1 2000001 (by decide) (by decide)
    obtain ⟨v2, hs3, n3, a2, b2, e3⟩ := draw hs2 n2 9 (by decide) (by decide)
    have m1 : opMulA (.int 2) (.int 1000000) = some (.val (.int 2000000)) := r_mulI (by decide)
    -- the name
    obtain ⟨nm, en, hnm, lnm, dnm⟩ : ∃ nm, (if x ∈ rs.map Rg.n then an k else x) = nm ∧ nm ∉ rs.map Rg.n ∧ LN nm ∧ (DN nm ∨ ∃ j < k + 1, nm = an j) := by
      by_cases hx : x ∈ rs.map Rg.n
      · obtain ⟨f1, f2, f3, f4, f5⟩ := an_facts k (by omega)
        refine ⟨an k, if_pos hx, fun hm => ?_, .of_nam f1 (by decide) f2, .inr ⟨k, by omega, rfl⟩⟩
        obtain ⟨r, hr', e⟩ := List.mem_map.mp hm
        rcases (hr r hr').2.2 with h | ⟨j, hj, h⟩
        · rw [e] at h
          rcases h with h | h
          · omega
          · exact f4 h
        · rw [e] at h
          have := f5 j (by omega) h.symm
          omega
      · exact ⟨x, if_neg hx, hx, lx, .inl dx⟩
    have app := appM (enc := Rg.d) (xs := rs) (x := (Rg.mk nm (v1 - 1000000) (v1 - 1000000 + v2))) (by omega)
    change moAppend _ [.tup [.str nm, .int (v1 - 1000000), .int (v1 - 1000000 + v2)]] = _ at app
    refine .nx (by simp -implicitDefEqProofs [-List.map_map, -List.map_append] <;> first | exact rfl | exact ⟨rfl, rfl⟩) (ρ2 := [.ow true (hD hs3), .fz (.int many), .fz (.int 1000000), .fz (.int 9), .ow false (.lst ((rs ++ [(Rg.mk nm (v1 - 1000000) (v1 - 1000000 + v2))]).map Rg.d)), .fz (.int (0 + k)), .fz (.str nm), .fz (.int (v1 - 1000000)), .no]) ?_ ⟨hs3, rs ++ [(Rg.mk nm (v1 - 1000000) (v1 - 1000000 + v2))], some _, some _, some _, n3, rfl, by simp [hl], ?_, ?_⟩
    · by_cases hx : x ∈ rs.map Rg.n
      · have hk : cStr [.int ((k : Nat) : Int)] = some (.val (.str (Sn k))) := r_strI (log_small (by omega))
        have ea : opAdd (.str "anothername") (.str (Sn k)) = some (.val (.str (an k))) := addA (m := 11) (n := 3) (by decide +kernel) (Sn_dec k (by omega)).2.1 (by decide)
        have en' : nm = an k := by rw [← en, if_pos hx]
        subst en'
        simp only [hx, decide_true] at ei
        simp -implicitDefEqProofs [-List.map_map, -List.map_append, x_b2__law_some_ranges, e1, ec, ei, hk, ea, e2, e3, m1, tup3, app]
      · have en' : nm = x := by rw [← en, if_neg hx]
        subst en'
        simp only [hx, decide_false] at ei
        simp -implicitDefEqProofs [-List.map_map, -List.map_append, x_b2__law_some_ranges, e1, ec, ei, e2, e3, m1, tup3, app]
    · intro r hr'
      rcases List.mem_append.mp hr' with h | h
      · obtain ⟨q1, q2, q3⟩ := hr r h
        exact ⟨q1, q2, q3.imp id fun ⟨j, hj, e⟩ => ⟨j, by omega, e⟩⟩
      · rw [List.mem_singleton] at h
        subst h
        exact ⟨⟨lnm, dnm.imp id fun ⟨j, hj, e⟩ => ⟨j, by omega, e⟩, by dsimp only; omega, by dsimp only; omega, by dsimp only; omega, by dsimp only; omega⟩, by dsimp only; omega, dnm⟩
    · rw [List.map_append, List.nodup_append]
      exact ⟨hd, by simp, fun a ha b hb => by
        have : b = nm := by simpa using hb
        subst this
        exact fun e => hnm (e ▸ ha)⟩
  · rintro ρ ⟨hs, rs, j5, j6, j7, hne, rfl, hl, hr, hd⟩
    exact er_end (by simp -implicitDefEqProofs [-List.map_map, -List.map_append] <;> first | exact rfl | exact ⟨rfl, rfl⟩) ⟨rs, hs, hne, hl, fun r h => ⟨(hr r h).1, (hr r h).2.1⟩, hd, rfl, rfl⟩
end DL

/-! K2p: k02: dicts, values, deeds. -/
namespace DL
open PySem PySem.Spec
/-! ### dicts with texts as keys -/
def dK {A : Type} (key : A → Str) (val : A → D) (xs : List A) : List (L2.Key × D) := xs.map fun x => (.inr (key x), val x)
section
variable {A : Type} {key : A → Str} {val : A → D}
theorem putD_new {xs : List A} {k : Str} {v : D} (h : ∀ x ∈ xs, key x ≠ k) : putD (dK key val xs) (.inr k) v = dK key val xs ++ [(.inr k, v)] := by
  unfold putD
  rw [if_neg]
  intro q
  obtain ⟨p, hp, e⟩ := List.any_eq_true.mp q
  obtain ⟨x, hx, rfl⟩ := List.mem_map.mp hp
  have e := of_decide_eq_true e
  exact h x hx (Sum.inr.inj e)
theorem find_dK {x : A} : ∀ {xs : List A}, x ∈ xs → (xs.map key).Nodup → (dK key val xs).find? (fun kv => decide (kv.1 = Sum.inr (key x))) = some (.inr (key x), val x)
  | [], h, _ => absurd h List.not_mem_nil
  | y :: ys, h, nd => by
    rw [List.map_cons, List.nodup_cons] at nd
    show List.find? _ ((Sum.inr (key y), val y) :: dK key val ys) = _
    rw [List.find?_cons]
    by_cases e : key y = key x
    · rw [decide_eq_true (by rw [e])]
      rcases List.mem_cons.mp h with rfl | h
      · rfl
      · exact absurd (List.mem_map.mpr ⟨x, h, e.symm⟩) nd.1
    · rw [decide_eq_false (fun q => e (Sum.inr.inj q))]
      rcases List.mem_cons.mp h with rfl | h
      · exact absurd rfl e
      · exact find_dK h nd.2
theorem ix_dK {xs : List A} {x : A} (h : x ∈ xs) (nd : (xs.map key).Nodup) : opIx (.dct (dK key val xs)) (.str (key x)) = some (.val (val x)) := by
  show ((dK key val xs).find? fun kv => decide (kv.1 = Sum.inr (key x))).map (fun p => R.val p.2) = _
  rw [find_dK h nd]; rfl
theorem len_dK {xs : List A} : (dK key val xs).length = xs.length := List.length_map ..
theorem keys_dK {xs : List A} : Keys (dK key val xs) (xs.map key) := fun x => by
  unfold dK
  rw [List.any_map, Bool.eq_iff_iff, List.any_eq_true, decide_eq_true_eq]
  constructor
  · rintro ⟨y, hy, e⟩
    have e : Sum.inr (key y) = (Sum.inr x : L2.Key) := of_decide_eq_true e
    exact List.mem_map.mpr ⟨y, hy, Sum.inr.inj e⟩
  · intro h
    obtain ⟨y, hy, rfl⟩ := List.mem_map.mp h
    exact ⟨y, hy, decide_eq_true rfl⟩
end
abbrev Kn := List (Str × Int)
def kvD (kn : Kn) : List (L2.Key × D) := dK Prod.fst (fun p => .int p.2) kn
def upd (kn : Kn) (n : Str) (v : Int) : Kn := kn.map fun p => if p.1 = n then (p.1, v) else p
def gt (kn : Kn) (n : Str) : Int := (kn.lookup n).getD 0
theorem kv_put {kn : Kn} {n : Str} {v : Int} (h : n ∈ kn.map Prod.fst) : putD (kvD kn) (.inr n) (.int v) = kvD (upd kn n v) := by
  unfold putD
  rw [if_pos]
  · unfold kvD dK upd
    rw [List.map_map, List.map_map]
    refine List.map_congr_left fun p hp => ?_
    show (if (Sum.inr p.1 : L2.Key) = .inr n then _ else _) = (_, _)
    by_cases e : p.1 = n
    · rw [if_pos (by rw [e])]
      show _ = ((Sum.inr (if p.1 = n then (p.1, v) else p).1 : L2.Key), D.int (if p.1 = n then (p.1, v) else p).2)
      rw [if_pos e]
    · rw [if_neg (fun q => e (Sum.inr.inj q))]
      show _ = ((Sum.inr (if p.1 = n then (p.1, v) else p).1 : L2.Key), D.int (if p.1 = n then (p.1, v) else p).2)
      rw [if_neg e]
  · have := keys_dK (key := Prod.fst) (val := fun p : Str × Int => D.int p.2) (xs := kn) n
    unfold kvD
    rw [this]; exact decide_eq_true h
theorem keys_upd {kn : Kn} {n : Str} {v : Int} : (upd kn n v).map Prod.fst = kn.map Prod.fst := by
  unfold upd
  rw [List.map_map]
  refine List.map_congr_left fun p _ => ?_
  show (if p.1 = n then (p.1, v) else p).1 = p.1
  split <;> rfl
theorem look_upd {n : Str} {v : Int} {m : Str} : ∀ {kn : Kn}, n ∈ kn.map Prod.fst → (upd kn n v).lookup m = if m = n then some v else kn.lookup m
  | [], h => absurd h List.not_mem_nil
  | (a, b) :: kn, h => by
    show List.lookup m ((if a = n then (a, v) else (a, b)) :: upd kn n v) = _
    by_cases e : a = n
    · subst e
      rw [if_pos rfl, List.lookup_cons]
      by_cases em : m = a
      · subst em; simp
      · have : (m == a) = false := beq_eq_false_iff_ne.mpr em
        rw [this, if_neg em, List.lookup_cons, this]
        show List.lookup m (upd kn a v) = List.lookup m kn
        clear h
        induction kn with
        | nil => rfl
        | cons q kn ih =>
          show List.lookup m ((if q.1 = a then (q.1, v) else q) :: upd kn a v) = _
          rw [List.lookup_cons, List.lookup_cons, ih]
          by_cases eq : q.1 = a
          · rw [if_pos eq]
            have : (m == q.1) = false := by rw [eq]; exact this
            show (match m == q.1 with | true => some v | false => _) = _
            rw [this]
          · rw [if_neg eq]
    · rw [if_neg e, List.lookup_cons, List.lookup_cons]
      have h' : n ∈ kn.map Prod.fst := by
        rcases List.mem_cons.mp h with h | h
        · exact absurd h.symm e
        · exact h
      by_cases em : m = a
      · subst em
        simp [e]
      · have : (m == a) = false := beq_eq_false_iff_ne.mpr em
        rw [this]
        exact look_upd h'
theorem look_mem {kn : Kn} {n : Str} (h : n ∈ kn.map Prod.fst) : ∃ v, kn.lookup n = some v ∧ (n, v) ∈ kn := by
  induction kn with
  | nil => exact absurd h List.not_mem_nil
  | cons p kn ih =>
    rw [List.lookup_cons]
    by_cases e : n = p.1
    · subst e; simp
    · have : (n == p.1) = false := beq_eq_false_iff_ne.mpr e
      rw [this]
      rcases List.mem_cons.mp h with h | h
      · exact absurd h e
      · obtain ⟨v, h1, h2⟩ := ih h
        exact ⟨v, h1, List.mem_cons_of_mem _ h2⟩
theorem ix_kv {kn : Kn} {n : Str} (h : n ∈ kn.map Prod.fst) (nd : (kn.map Prod.fst).Nodup) : opIx (.dct (kvD kn)) (.str n) = some (.val (.int (gt kn n))) := by
  obtain ⟨v, h1, h2⟩ := look_mem h
  have := ix_dK (key := Prod.fst) (val := fun p : Str × Int => D.int p.2) h2 nd
  unfold kvD gt
  rw [h1]
  all_goals exact this
theorem r_sum (xs : List Int) : cSum [.lst (xs.map .int)] = some (.val (.int xs.sum)) := by
  have e : ∀ xs : List Int, intsD (xs.map .int) = some xs := fun xs => by
    induction xs with
    | nil => rfl
    | cons x xs ih => show (intsD (xs.map .int)).map (x :: ·) = _; rw [ih]; rfl
  show (intsD (xs.map .int)).bind _ = _
  rw [e]; rfl
theorem ixL {A : Type} {enc : A → D} {xs : List A} {i : Int} (h0 : 0 ≤ i) (h1 : i < xs.length) : ∃ x ∈ xs, opIx (.lst (xs.map enc)) (.int i) = some (.val (enc x)) ∧ xs[i.toNat]? = some x := by
  obtain ⟨j, rfl⟩ := Int.eq_ofNat_of_zero_le h0
  have hj : j < xs.length := by omega
  refine ⟨xs[j], List.getElem_mem hj, ?_, by simp⟩
  show (L2.atI (xs.map enc) (j : Int)).map R.val = _
  rw [L2.atI_nat (v := enc xs[j]) (by rw [List.getElem?_map, List.getElem?_eq_getElem hj]; rfl)]; rfl
theorem ixT {A : Type} {enc : A → D} {xs : List A} {i : Int} (h0 : 0 ≤ i) (h1 : i < xs.length) : ∃ x ∈ xs, opIx (.tup (xs.map enc)) (.int i) = some (.val (enc x)) ∧ xs[i.toNat]? = some x := by
  obtain ⟨j, rfl⟩ := Int.eq_ofNat_of_zero_le h0
  have hj : j < xs.length := by omega
  refine ⟨xs[j], List.getElem_mem hj, ?_, by simp⟩
  show (L2.atI (xs.map enc) (j : Int)).map R.val = _
  rw [L2.atI_nat (v := enc xs[j]) (by rw [List.getElem?_map, List.getElem?_eq_getElem hj]; rfl)]; rfl
/-! ### values in their ranges -/
def InR : List Rg → List Int → Prop
  | [], [] => True
  | r :: rs, v :: vs => (r.lo ≤ v ∧ v ≤ r.hi) ∧ InR rs vs
  | _, _ => False
theorem InR.len : ∀ {rs : List Rg} {vs : List Int}, InR rs vs → vs.length = rs.length
  | [], [], _ => rfl
  | _ :: _, _ :: _, h => congrArg Nat.succ (InR.len h.2)
  | [], _ :: _, h => h.elim
  | _ :: _, [], h => h.elim
theorem InR.snoc {r : Rg} {v : Int} (h1 : r.lo ≤ v) (h2 : v ≤ r.hi) : ∀ {rs : List Rg} {vs : List Int}, InR rs vs → InR (rs ++ [r]) (vs ++ [v])
  | [], [], _ => ⟨⟨h1, h2⟩, trivial⟩
  | _ :: _, _ :: _, h => ⟨h.1, InR.snoc h1 h2 h.2⟩
  | [], _ :: _, h => h.elim
  | _ :: _, [], h => h.elim
theorem InR.get : ∀ {rs : List Rg} {vs : List Int} {i : Nat} {r : Rg}, InR rs vs → rs[i]? = some r → ∃ v, vs[i]? = some v ∧ r.lo ≤ v ∧ v ≤ r.hi
  | [], [], _, _, _, e => by simp at e
  | r :: rs, v :: vs, 0, _, h, e => by simp at e; subst e; exact ⟨v, rfl, h.1⟩
  | r :: rs, v :: vs, i + 1, _, h, e => by
    obtain ⟨w, h1, h2⟩ := InR.get (i := i) h.2 (by simpa using e)
    exact ⟨w, by simpa using h1, h2⟩
  | [], _ :: _, _, _, h, _ => h.elim
  | _ :: _, [], _, _, h, _ => h.elim
theorem run_values {hs : List Int} (hne : hs ≠ []) {rs : List Rg} (hr : ∀ r ∈ rs, RgOk r) (hl : rs.length ≤ 3) : ∃ (vs : List Int) (hs' : List Int), hs' ≠ [] ∧ InR rs vs ∧
    F__law_some_values [.ow true (hD hs), .fz (.lst (rs.map Rg.d))] = .ok (.nw (.lst (vs.map .int))) [.ow true (hD hs'), .fz (.lst (rs.map Rg.d))] := by
  suffices h : Gives (fun v a => ∃ (vs : List Int) (hs' : List Int), hs' ≠ [] ∧ InR rs vs ∧ v = .nw (.lst (vs.map .int)) ∧ a = [.ow true (hD hs'), .fz (.lst (rs.map Rg.d))]) (F__law_some_values [.ow true (hD hs), .fz (.lst (rs.map Rg.d))]) by
    obtain ⟨_, _, e, rs, hs', h1, h2, rfl, rfl⟩ := h
    exact ⟨rs, hs', h1, h2, e⟩
  refine er_run ?_
  unfold d__law_some_values
  refine er_seq (by simp -implicitDefEqProofs [-List.map_map, -List.map_append, lst0] <;> first | exact rfl | exact ⟨rfl, rfl⟩) ?_
  refine er_out (for_T Rg.d (xs := rs) (fun dn ρ => ∃ (hs vs : List Int) (j3 j4 j5 j6 j7 : Option D), hs ≠ [] ∧ InR dn vs ∧ ρ = [.ow true (hD hs), .fz (.lst (rs.map Rg.d)), .ow false (.lst (vs.map .int)), jk j3, jk j4, jk j5, jk j6, jk j7]) (by simp -implicitDefEqProofs [-List.map_map, -List.map_append] <;> first | exact rfl | exact ⟨rfl, rfl⟩) ⟨hs, [], none, none, none, none, none, hne, trivial, rfl⟩ ?_) ?_
  · rintro dn r td e ρ ⟨hs, vs, j3, j4, j5, j6, j7, hne, hv, rfl⟩
    have ro := hr r (by rw [e]; simp)
    have hd : dn.length < 3 := by have := congrArg List.length e; simp at this; omega
    obtain ⟨w, hs1, n1, a1, b1, e1⟩ := draw hs hne 4 (by decide) (by decide)
    obtain ⟨u, hs2, n2, a2, b2, e2⟩ := draw hs1 n1 (r.hi - r.lo + 1) (by have := ro.h1; omega) (by have := ro.l1; have := ro.h2; omega)
    obtain ⟨v, h1, h2, hm⟩ : ∃ v, r.lo ≤ v ∧ v ≤ r.hi ∧ opIx (.lst [.int r.lo, .int r.hi, .int (r.lo + u)]) (.int (if 2 < w then 2 else w)) = some (.val (.int v)) := by
      obtain ⟨v, hv, e, _⟩ := ixL (enc := D.int) (xs := [r.lo, r.hi, r.lo + u]) (i := if 2 < w then 2 else w) (by split <;> omega) (by simp; split <;> omega)
      refine ⟨v, ?_, ?_, e⟩ <;>
      · have := ro.h1
        simp only [List.mem_cons, List.not_mem_nil, or_false] at hv
        rcases hv with rfl | rfl | rfl <;> omega
    have app := appM (enc := D.int) (xs := vs) (x := v) (by have := hv.len; omega)
    refine .nx (by simp -implicitDefEqProofs [-List.map_map, -List.map_append, Rg.d] <;> first | exact rfl | exact ⟨rfl, rfl⟩) (ρ2 := [.ow true (hD hs2), .fz (.lst (rs.map Rg.d)), .ow false (.lst ((vs ++ [v]).map .int)), .fz (.str r.n), .fz (.int r.lo), .fz (.int r.hi), .fz (.int w), .fz (.int (r.lo + u))]) (by simp -implicitDefEqProofs [-List.map_map, -List.map_append, x_b1__law_some_values, e1, e2, lst3, hm, app] <;> first | exact rfl | exact ⟨rfl, rfl⟩) ⟨hs2, _, some _, some _, some _, some _, some _, n2, hv.snoc h1 h2, rfl⟩
  · rintro ρ ⟨hs, vs, j3, j4, j5, j6, j7, hne, hv, rfl⟩
    exact er_end (by simp -implicitDefEqProofs [-List.map_map, -List.map_append] <;> first | exact rfl | exact ⟨rfl, rfl⟩) ⟨vs, hs, hne, hv, rfl, rfl⟩
end DL

/-! K2q: k02: drawn deeds. -/
namespace DL
open PySem PySem.Spec
inductive Dd where
  | tell (w : Str) | put (n : Str) (c : Int) (ps : List (Str × Int))
def prD (p : Str × Int) : D := .tup [.str p.1, .int p.2]
def Dd.d : Dd → D
  | .tell w => .tup [.str "tell", .str w]
  | .put n c ps => .tup [.str "set", .str n, .int c, .lst (ps.map prD)]
def valS (ps : List (Str × Int)) (kn : Kn) : Int := (ps.map fun p => p.2 * gt kn p.1).sum
structure KnOk (rs : List Rg) (kn : Kn) : Prop where
  keys : kn.map Prod.fst = rs.map Rg.n
  inr : ∀ r ∈ rs, r.lo ≤ gt kn r.n ∧ gt kn r.n ≤ r.hi
def PsOk (rs : List Rg) (ps : List (Str × Int)) : Prop := ∀ p ∈ ps, (∃ r ∈ rs, r.n = p.1) ∧ -99 ≤ p.2 ∧ p.2 ≤ 99
def DdOk (rs : List Rg) : Dd → Prop
  | .tell w => Asc 9 w
  | .put n c ps => (∃ r ∈ rs, r.n = n) ∧ PsOk rs ps ∧ ps.length ≤ 2 ∧ -1000000000 ≤ c ∧ c ≤ 1000000000
/-- ranges: good, with names of their own -/
structure RsOk (rs : List Rg) : Prop where
  ok : ∀ r ∈ rs, RgOk r
  nd : (rs.map Rg.n).Nodup
  len : rs.length ≤ 3
theorem gt_upd {kn : Kn} {n m : Str} {v : Int} (h : n ∈ kn.map Prod.fst) : gt (upd kn n v) m = if m = n then v else gt kn m := by
  unfold gt
  rw [look_upd h]
  split <;> rfl
theorem one_name {rs : List Rg} (nd : (rs.map Rg.n).Nodup) {r r' : Rg} (h : r ∈ rs) (h' : r' ∈ rs) (e : r'.n = r.n) : r' = r := by
  induction rs with
  | nil => exact absurd h List.not_mem_nil
  | cons a rs ih =>
    rw [List.map_cons, List.nodup_cons] at nd
    rcases List.mem_cons.mp h with rfl | g <;> rcases List.mem_cons.mp h' with rfl | g'
    · rfl
    · exact absurd (List.mem_map.mpr ⟨r', g', e⟩) nd.1
    · exact absurd (List.mem_map.mpr ⟨r, g, e.symm⟩) nd.1
    · exact ih nd.2 g g'
theorem KnOk.mem {rs : List Rg} {kn : Kn} (k : KnOk rs kn) {r : Rg} (h : r ∈ rs) : r.n ∈ kn.map Prod.fst := by
  rw [k.keys]; exact List.mem_map.mpr ⟨r, h, rfl⟩
theorem KnOk.upd {rs : List Rg} {kn : Kn} (k : KnOk rs kn) (R : RsOk rs) {r : Rg} (h : r ∈ rs) {v : Int} (h1 : r.lo ≤ v) (h2 : v ≤ r.hi) : KnOk rs (upd kn r.n v) where
  keys := by rw [keys_upd]; exact k.keys
  inr := fun r' hr' => by
    rw [gt_upd (k.mem h)]
    by_cases e : r'.n = r.n
    · rw [if_pos e, one_name R.nd h hr' e]
      exact ⟨h1, h2⟩
    · rw [if_neg e]
      exact k.inr r' hr'
theorem mul_bd {f v : Int} {a b : Nat} (h1 : f.natAbs ≤ a) (h2 : v.natAbs ≤ b) : (f * v).natAbs ≤ a * b := by
  rw [Int.natAbs_mul]; exact Nat.mul_le_mul h1 h2
theorem sum_bd {b : Nat} : ∀ {xs : List Int}, (∀ x ∈ xs, x.natAbs ≤ b) → xs.sum.natAbs ≤ xs.length * b
  | [], _ => by simp
  | x :: xs, h => by
    have h1 := h x List.mem_cons_self
    have h2 := sum_bd fun y hy => h y (List.mem_cons_of_mem _ hy)
    rw [List.sum_cons, List.length_cons, Nat.succ_mul]
    omega
theorem KnOk.bd {rs : List Rg} {kn : Kn} (k : KnOk rs kn) (R : RsOk rs) {r : Rg} (h : r ∈ rs) : (gt kn r.n).natAbs ≤ 3000000 := by
  have h1 := k.inr r h
  have h2 := R.ok r h
  have := h2.l1
  have := h2.h2
  omega
theorem valS_bd {rs : List Rg} {kn : Kn} (k : KnOk rs kn) (R : RsOk rs) {ps : List (Str × Int)} (h : PsOk rs ps) (hl : ps.length ≤ 2) : (valS ps kn).natAbs ≤ 594000000 := by
  have := sum_bd (b := 99 * 3000000) (xs := ps.map fun p => p.2 * gt kn p.1) (fun x hx => by
    obtain ⟨p, hp, rfl⟩ := List.mem_map.mp hx
    obtain ⟨⟨r, hr, e⟩, h1, h2⟩ := h p hp
    refine mul_bd (by omega) ?_
    rw [← e]; exact k.bd R hr)
  rw [List.length_map] at this
  have h3 : ps.length * (99 * 3000000) ≤ 2 * (99 * 3000000) := Nat.mul_le_mul_right _ hl
  unfold valS
  omega
theorem prod_run {rs : List Rg} {kn : Kn} (k : KnOk rs kn) (R : RsOk rs) {p : Str × Int} (h : (∃ r ∈ rs, r.n = p.1) ∧ -99 ≤ p.2 ∧ p.2 ≤ 99) :
    opIx (.dct (kvD kn)) (.str p.1) = some (.val (.int (gt kn p.1))) ∧ opMulA (.int p.2) (.int (gt kn p.1)) = some (.val (.int (p.2 * gt kn p.1))) := by
  obtain ⟨⟨r, hr, e⟩, h1, h2⟩ := h
  refine ⟨ix_kv (by rw [← e]; exact k.mem hr) (by rw [k.keys]; exact R.nd), r_mulI ?_⟩
  unfold mulOk
  simp only [Bool.or_eq_true, Bool.and_eq_true, decide_eq_true_eq]
  exact .inl ⟨by omega, by omega⟩
theorem sum_comp {rs : List Rg} {kn : Kn} {ps : List (Str × Int)} {ρ : Ro} {tgt : Tgt} {elt : M R} {vs : List Nat} (hl : ps.length ≤ 100000) (h : ∀ p ∈ ps, Item tgt eYes elt vs (prD p) ρ (.int (p.2 * gt kn p.1)) ρ) :
    compN tgt eYes elt vs (ps.map prD) [] ρ = .ok ((ps.map fun p => p.2 * gt kn p.1).map .int) ρ := by
  rw [comp_T prD (fun p => .int (p.2 * gt kn p.1)) ps [] h (by have := sizeLine_eq; rw [List.length_nil]; omega), List.map_map]; rfl
theorem run_set {hs : List Int} (hne : hs ≠ []) {rs : List Rg} (R : RsOk rs) (h0 : rs ≠ []) {kn : Kn} (K : KnOk rs kn) : ∃ (n : Str) (c : Int) (ps : List (Str × Int)) (kn' : Kn) (hs' : List Int), hs' ≠ [] ∧ DdOk rs (.put n c ps) ∧ KnOk rs kn' ∧
    F__law_set [.ow true (hD hs), .fz (.lst (rs.map Rg.d)), .ow true (.dct (kvD kn))] = .ok (.val (Dd.put n c ps).d) [.ow true (hD hs'), .fz (.lst (rs.map Rg.d)), .ow true (.dct (kvD kn'))] := by
  suffices h : Gives (fun v a => ∃ (n : Str) (c : Int) (ps : List (Str × Int)) (kn' : Kn) (hs' : List Int), hs' ≠ [] ∧ DdOk rs (.put n c ps) ∧ KnOk rs kn' ∧ v = .val (Dd.put n c ps).d ∧ a = [.ow true (hD hs'), .fz (.lst (rs.map Rg.d)), .ow true (.dct (kvD kn'))]) (F__law_set [.ow true (hD hs), .fz (.lst (rs.map Rg.d)), .ow true (.dct (kvD kn))]) by
    obtain ⟨_, _, e, n, c, ps, kn', hs', h1, h2, h3, rfl, rfl⟩ := h
    exact ⟨n, c, ps, kn', hs', h1, h2, h3, e⟩
  have hlen : 0 < rs.length := List.length_pos_iff.mpr h0
  have R3 := R.len
  refine er_run ?_
  unfold d__law_set
  obtain ⟨v1, hs1, n1, a1, b1, e1⟩ := draw hs hne rs.length (by omega) (by omega)
  obtain ⟨r, hr, er, _⟩ := ixL (enc := Rg.d) (xs := rs) a1 b1
  have ro := R.ok r hr
  have hlm : (rs.map Rg.d).length = rs.length := List.length_map ..
  refine er_seq (by simp -implicitDefEqProofs [-List.map_map, -List.map_append, hlm, e1, er, Rg.d] <;> first | exact rfl | exact ⟨rfl, rfl⟩) ?_
  refine er_seq (by simp -implicitDefEqProofs [-List.map_map, -List.map_append, lst0] <;> first | exact rfl | exact ⟨rfl, rfl⟩) ?_
  obtain ⟨v2, hs2, n2, a2, b2, e2⟩ := draw hs1 n1 3 (by decide) (by decide)
  have fit := fits_of a2 (by omega)
  refine er_out (for_N (lo := 0) (n := v2.toNat) (fun i ρ => ∃ (hs : List Int) (ps : List (Str × Int)) (j7 j8 : Option D), hs ≠ [] ∧ PsOk rs ps ∧ ps.length = i ∧ ρ = [.ow true (hD hs), .fz (.lst (rs.map Rg.d)), .ow true (.dct (kvD kn)), .fz (.str r.n), .fz (.int r.lo), .fz (.int r.hi), .ow false (.lst (ps.map prD)), jk j7, jk j8, .no, .no, .no, .no, .no]) (by simp -implicitDefEqProofs [-List.map_map, -List.map_append, e2, fit] <;> first | exact rfl | exact ⟨rfl, rfl⟩) ⟨hs2, [], none, none, n2, fun p hp => absurd hp List.not_mem_nil, rfl, rfl⟩ ?_) ?_
  · rintro i hi ρ ⟨hs, ps, j7, j8, hne, hp, hl, rfl⟩
    obtain ⟨v1, hs1, n1, a1, b1, e1⟩ := draw hs hne rs.length (by omega) (by omega)
    obtain ⟨o, ho, eo, _⟩ := ixL (enc := Rg.d) (xs := rs) a1 b1
    obtain ⟨v2, hs2, n2, a2, b2, e2⟩ := draw hs1 n1 199 (by decide) (by decide)
    have app := appM (enc := prD) (xs := ps) (x := (o.n, v2 - 99)) (by omega)
    refine .nx (by simp -implicitDefEqProofs [-List.map_map, -List.map_append] <;> first | exact rfl | exact ⟨rfl, rfl⟩) (ρ2 := [.ow true (hD hs2), .fz (.lst (rs.map Rg.d)), .ow true (.dct (kvD kn)), .fz (.str r.n), .fz (.int r.lo), .fz (.int r.hi), .ow false (.lst ((ps ++ [(o.n, v2 - 99)]).map prD)), .fz (.int (0 + i)), .fz (.str o.n), .no, .no, .no, .no, .no]) ?_ ⟨hs2, _, some _, some _, n2, ?_, by simp [hl], rfl⟩
    · change moAppend _ [.tup [.str o.n, .int (v2 - 99)]] = _ at app
      have eo' : opIx (.tup [.str o.n, .int o.lo, .int o.hi]) (.int 0) = some (.val (.str o.n)) := ixT0
      simp -implicitDefEqProofs [-List.map_map, -List.map_append, x_b1__law_set, hlm, e1, eo, Rg.d, eo', e2, tup2, app]
    · intro p hp'
      rcases List.mem_append.mp hp' with h | h
      · exact hp p h
      · rw [List.mem_singleton] at h
        subst h
        exact ⟨⟨o, ho, rfl⟩, by dsimp only; omega, by dsimp only; omega⟩
  · rintro ρ ⟨hs, ps, j7, j8, hne, hp, hl, rfl⟩
    have hl2 : ps.length ≤ 2 := by omega
    obtain ⟨u, hs3, n3, a3, b3, e3⟩ := draw hs hne (r.hi - r.lo + 1) (by have := ro.h1; omega) (by have := ro.l1; have := ro.h2; omega)
    refine er_seq (by simp -implicitDefEqProofs [-List.map_map, -List.map_append, e3] <;> first | exact rfl | exact ⟨rfl, rfl⟩) ?_
    obtain ⟨L, m10, hL⟩ : ∃ L : List Int, opMulA (.lst [.int (r.lo + u)]) (.int 10) = some (.nw (.lst (L.map .int))) ∧ L = List.replicate 10 (r.lo + u) := ⟨_, by rw [r_mul1 (by decide) (by decide), List.map_replicate]; rfl, rfl⟩
    have hz := sizeLine_eq
    obtain ⟨W, ad, hW⟩ : ∃ W : List Int, opAdd (.lst (L.map .int)) (.lst [.int r.lo, .int r.lo, .int r.hi, .int r.hi, .int (r.lo - 1), .int (r.hi + 1)]) = some (.nw (.lst (W.map .int))) ∧ W = L ++ [r.lo, r.lo, r.hi, r.hi, r.lo - 1, r.hi + 1] :=
      ⟨_, by rw [r_addL (by rw [hL]; simp; omega), List.map_append]; rfl, rfl⟩
    rw [hL] at hW
    refine er_seq (by simp -implicitDefEqProofs [-List.map_map, -List.map_append, lst1, m10, lst6, ad] <;> first | exact rfl | exact ⟨rfl, rfl⟩) ?_
    obtain ⟨q, hs4, n4, a4, b4, e4⟩ := draw hs3 n3 16 (by decide) (by decide)
    have hWl : W.length = 16 := by rw [hW]; simp
    obtain ⟨w, hw, ew, _⟩ := ixL (enc := D.int) (xs := W) a4 (by omega)
    have hw1 : r.lo - 1 ≤ w ∧ w ≤ r.hi + 1 := by
      rw [hW] at hw
      have := ro.h1
      rcases List.mem_append.mp hw with h | h
      · rw [List.eq_of_mem_replicate h]; omega
      · simp only [List.mem_cons, List.not_mem_nil, or_false] at h
        rcases h with rfl | rfl | rfl | rfl | rfl | rfl <;> omega
    refine er_seq (by simp -implicitDefEqProofs [-List.map_map, -List.map_append, e4, ew] <;> first | exact rfl | exact ⟨rfl, rfl⟩) ?_
    have ec := fun (s0 s1 s3 s4 s5 s7 s8 s9 s10 s11 s12 : Sl) (b : Bool) => sum_comp (rs := rs) (kn := kn) (ps := ps) (ρ := [s0, s1, .ow true (.dct (kvD kn)), s3, s4, s5, .ln b (.lst (ps.map prD)), s7, s8, s9, s10, s11, s12, .no]) (tgt := tgName 13) (elt := e2__law_set) (vs := [13]) (by omega) (fun p hp' => ⟨_, _, _, _, (by simp -implicitDefEqProofs [-List.map_map, -List.map_append] <;> first | exact rfl | exact ⟨rfl, rfl⟩), rfl, by
      obtain ⟨p1, p2⟩ := prod_run K R (hp p hp')
      simp -implicitDefEqProofs [x_e2__law_set, prD, ixT0, ixT1, p1, p2]
      first | exact rfl | exact ⟨rfl, rfl⟩, rfl, by simp -implicitDefEqProofs⟩)
    have es := r_sum (ps.map fun p => p.2 * gt kn p.1)
    refine er_seq (by simp -implicitDefEqProofs [-List.map_map, -List.map_append, ec, es] <;> first | exact rfl | exact ⟨rfl, rfl⟩) ?_
    have hs := valS_bd K R hp hl2
    have hdd : DdOk rs (.put r.n (w - valS ps kn) ps) := ⟨⟨r, hr, rfl⟩, hp, hl2, by have := ro.l1; have := ro.h2; omega, by have := ro.l1; have := ro.h2; omega⟩
    by_cases hin : r.lo ≤ w ∧ w ≤ r.hi
    · have hset : setO (.dct (kvD kn)) (.str r.n) (.int w) = some (.dct (kvD (upd kn r.n w))) := by
        show (if (kvD kn).length < sizeLine then some (OV.dct (putD (kvD kn) (.inr r.n) (.int w))) else none) = _
        rw [if_pos, kv_put (K.mem hr)]
        have h1 : (kvD kn).length = kn.length := len_dK
        have h2 := congrArg List.length K.keys
        rw [List.length_map, List.length_map] at h2
        omega
      refine er_seq (by simp -implicitDefEqProofs [-List.map_map, -List.map_append, hin.1, hin.2, hset] <;> first | exact rfl | exact ⟨rfl, rfl⟩) ?_
      exact er_end (by simp -implicitDefEqProofs [-List.map_map, -List.map_append, tup4] <;> first | exact rfl | exact ⟨rfl, rfl⟩) ⟨r.n, _, ps, upd kn r.n w, hs4, n4, hdd, K.upd R hr hin.1 hin.2, rfl, rfl⟩
    · have hd : ∀ s s' : S, ∀ ρ, (match decide (r.lo ≤ w) with | true => Res.ok (decide (w ≤ r.hi)) ρ | false => Res.ok false ρ).ifS s s' = s' ρ := fun s s' ρ => by
        by_cases h1 : r.lo ≤ w
        · have h2 : ¬ w ≤ r.hi := fun q => hin ⟨h1, q⟩
          rw [decide_eq_true h1, decide_eq_false h2]; rfl
        · rw [decide_eq_false h1]; rfl
      refine er_seq (ρ' := [.ow true (hD hs4), .fz (.lst (rs.map Rg.d)), .ow true (.dct (kvD kn)), .fz (.str r.n), .fz (.int r.lo), .fz (.int r.hi), .ow false (.lst (ps.map prD)), jk j7, jk j8, .fz (.int (r.lo + u)), .ow false (.lst (W.map .int)), .fz (.int w), .fz (.int (w - valS ps kn)), .no]) ?_ ?_
      · by_cases h1 : r.lo ≤ w
        · have h2 : ¬ w ≤ r.hi := fun q => hin ⟨h1, q⟩
          simp -implicitDefEqProofs [h1, h2, valS]
        · simp -implicitDefEqProofs [h1, valS]
      exact er_end (by simp -implicitDefEqProofs [-List.map_map, -List.map_append, tup4] <;> first | exact rfl | exact ⟨rfl, rfl⟩) ⟨r.n, _, ps, kn, hs4, n4, hdd, K, rfl, rfl⟩
end DL

/-! K2r: k02: the drawn deeds together. -/
namespace DL
open PySem PySem.Spec
def kz (rs : List Rg) (vs : List Int) : Kn := (rs.map Rg.n).zip vs
theorem kz_snoc : ∀ {dn : List Rg} {x : Rg} {vs : List Int} {v : Int}, vs[dn.length]? = some v → kz (dn ++ [x]) vs = kz dn vs ++ [(x.n, v)]
  | [], x, [], v, h => by simp at h
  | [], x, w :: vs, v, h => by simp at h; subst h; rfl
  | d :: dn, x, [], v, h => by simp at h
  | d :: dn, x, w :: vs, v, h => by
    have := kz_snoc (dn := dn) (x := x) (vs := vs) (v := v) (by simpa using h)
    show (d.n, w) :: kz (dn ++ [x]) vs = (d.n, w) :: (kz dn vs ++ [(x.n, v)])
    rw [this]
theorem kz_keys : ∀ {rs : List Rg} {vs : List Int}, rs.length ≤ vs.length → (kz rs vs).map Prod.fst = rs.map Rg.n
  | [], _, _ => rfl
  | r :: rs, [], h => by simp at h
  | r :: rs, v :: vs, h => by
    show r.n :: (kz rs vs).map Prod.fst = _
    rw [kz_keys (by simpa using h)]; rfl
theorem kz_sub {rs : List Rg} {vs : List Int} : ∀ p ∈ kz rs vs, ∃ r ∈ rs, r.n = p.1 := fun p hp => by
  have h1 : p.1 ∈ rs.map Rg.n := (List.of_mem_zip (a := p.1) (b := p.2) hp).1
  exact List.mem_map.mp h1
theorem nodup_cut {dn td : List Rg} {x : Rg} {rs : List Rg} (e : rs = dn ++ x :: td) (nd : (rs.map Rg.n).Nodup) : ∀ r ∈ dn, r.n ≠ x.n := fun r hr q => by
  rw [e, List.map_append, List.nodup_append] at nd
  exact nd.2.2 r.n (List.mem_map.mpr ⟨r, hr, rfl⟩) x.n (by simp) q
theorem kz_put {dn td : List Rg} {x : Rg} {rs : List Rg} {vs : List Int} {v : Int} (e : rs = dn ++ x :: td) (nd : (rs.map Rg.n).Nodup) (h : vs[dn.length]? = some v) : putD (kvD (kz dn vs)) (.inr x.n) (.int v) = kvD (kz (dn ++ [x]) vs) := by
  unfold kvD
  rw [putD_new (fun p hp => by
    obtain ⟨r, hr, er⟩ := kz_sub p hp
    rw [← er]; exact nodup_cut e nd r hr), kz_snoc h]
  unfold dK
  rw [List.map_append]; rfl
theorem kz_gt : ∀ {rs : List Rg} {vs : List Int}, (rs.map Rg.n).Nodup → InR rs vs → ∀ r ∈ rs, r.lo ≤ gt (kz rs vs) r.n ∧ gt (kz rs vs) r.n ≤ r.hi
  | [], _, _, _, r, h => absurd h List.not_mem_nil
  | a :: rs, [], _, h, _, _ => h.elim
  | a :: rs, v :: vs, nd, h, r, hr => by
    rw [List.map_cons, List.nodup_cons] at nd
    have e : gt (kz (a :: rs) (v :: vs)) r.n = if r.n = a.n then v else gt (kz rs vs) r.n := by
      show (List.lookup r.n ((a.n, v) :: kz rs vs)).getD 0 = _
      rw [List.lookup_cons]
      by_cases q : r.n = a.n
      · rw [if_pos q, q]; simp
      · rw [if_neg q, beq_eq_false_iff_ne.mpr q]; rfl
    rw [e]
    rcases List.mem_cons.mp hr with rfl | hr
    · rw [if_pos rfl]; exact h.1
    · rw [if_neg (fun q : r.n = a.n => nd.1 (List.mem_map.mpr ⟨r, hr, q⟩))]
      exact kz_gt nd.2 h.2 r hr
theorem KnOk.init {rs : List Rg} (R : RsOk rs) {vs : List Int} (h : InR rs vs) : KnOk rs (kz rs vs) := ⟨kz_keys (by rw [h.len]; exact Nat.le_refl _), kz_gt R.nd h⟩
theorem set_kv {kvs : List (L2.Key × D)} {n : Str} {d : D} (h : kvs.length ≤ 100000) : setO (.dct kvs) (.str n) d = some (.dct (putD kvs (.inr n) d)) := by
  show (if kvs.length < sizeLine then some (OV.dct (putD kvs (.inr n) d)) else none) = _
  rw [if_pos (by have := sizeLine_eq; omega)]
theorem kz_len {rs : List Rg} {vs : List Int} : (kvD (kz rs vs)).length ≤ rs.length := by
  unfold kvD
  rw [len_dK]
  unfold kz
  rw [List.length_zip, List.length_map]
  exact Nat.min_le_left _ _
theorem run_plan {hs : List Int} (hne : hs ≠ []) {rs : List Rg} (R : RsOk rs) {vs : List Int} (hv : InR rs vs) {ws : List Str} (hw : ∀ w ∈ ws, Asc 9 w) (hwl : ws.length = 3) : ∃ (pl : List Dd) (hs' : List Int), hs' ≠ [] ∧ pl.length ≤ 10 ∧ (∀ d ∈ pl, DdOk rs d) ∧
    F__law_some_deeds [.ow true (hD hs), .fz (.lst (rs.map Rg.d)), .fz (.lst (vs.map .int)), .fz (.lst (ws.map .str))] = .ok (.nw (.lst (pl.map Dd.d))) [.ow true (hD hs'), .fz (.lst (rs.map Rg.d)), .fz (.lst (vs.map .int)), .fz (.lst (ws.map .str))] := by
  suffices h : Gives (fun v a => ∃ (pl : List Dd) (hs' : List Int), hs' ≠ [] ∧ pl.length ≤ 10 ∧ (∀ d ∈ pl, DdOk rs d) ∧ v = .nw (.lst (pl.map Dd.d)) ∧ a = [.ow true (hD hs'), .fz (.lst (rs.map Rg.d)), .fz (.lst (vs.map .int)), .fz (.lst (ws.map .str))]) (F__law_some_deeds [.ow true (hD hs), .fz (.lst (rs.map Rg.d)), .fz (.lst (vs.map .int)), .fz (.lst (ws.map .str))]) by
    obtain ⟨_, _, e, pl, hs', h1, h2, h3, rfl, rfl⟩ := h
    exact ⟨pl, hs', h1, h2, h3, e⟩
  have R3 := R.len
  refine er_run ?_
  unfold d__law_some_deeds
  refine er_seq (by simp -implicitDefEqProofs [-List.map_map, -List.map_append] <;> first | exact rfl | exact ⟨rfl, rfl⟩) ?_
  refine er_out (for_E Rg.d (xs := rs) (fun dn ρ => ∃ (j5 j6 : Option D), ρ = [.ow true (hD hs), .fz (.lst (rs.map Rg.d)), .fz (.lst (vs.map .int)), .fz (.lst (ws.map .str)), .ow false (.dct (kvD (kz dn vs))), jk j5, jk j6, .no]) (by simp -implicitDefEqProofs [-List.map_map, -List.map_append] <;> first | exact rfl | exact ⟨rfl, rfl⟩) ⟨none, none, rfl⟩ ?_) ?_
  · rintro dn r td e ρ ⟨j5, j6, rfl⟩
    obtain ⟨v, gv, _⟩ := hv.get (i := dn.length) (r := r) (by rw [e]; simp)
    have hd : dn.length < rs.length := by have := congrArg List.length e; simp at this; omega
    obtain ⟨v', _, ev, gv'⟩ := ixL (enc := D.int) (xs := vs) (i := (dn.length : Int)) (by omega) (by rw [hv.len]; omega)
    have : v' = v := by rw [Int.toNat_natCast, gv] at gv'; exact (Option.some.inj gv').symm
    subst this
    have st := set_kv (kvs := kvD (kz dn vs)) (n := r.n) (d := .int v') (Nat.le_trans kz_len (by omega))
    rw [kz_put e R.nd gv] at st
    refine .nx (by simp -implicitDefEqProofs [-List.map_map, -List.map_append] <;> first | exact rfl | exact ⟨rfl, rfl⟩) (ρ2 := [.ow true (hD hs), .fz (.lst (rs.map Rg.d)), .fz (.lst (vs.map .int)), .fz (.lst (ws.map .str)), .ow false (.dct (kvD (kz (dn ++ [r]) vs))), .fz (.int dn.length), .fz r.d, .no]) (by simp -implicitDefEqProofs [-List.map_map, -List.map_append, x_b1__law_some_deeds, ev, Rg.d, ixT0, st] <;> first | exact rfl | exact ⟨rfl, rfl⟩) ⟨some _, some _, rfl⟩
  rintro ρ ⟨j5, j6, rfl⟩
  have K0 := KnOk.init R hv
  refine er_seq (by simp -implicitDefEqProofs [-List.map_map, -List.map_append, lst0] <;> first | exact rfl | exact ⟨rfl, rfl⟩) ?_
  obtain ⟨q, hs1, n1, a1, b1, e1⟩ := draw hs hne 11 (by decide) (by decide)
  have md : opMod (.int (3 + q)) (.int 11) = some (.val (.int ((3 + q) % 11))) := r_modI (by decide)
  have fit := fits_of (i := (3 + q) % 11) (Int.emod_nonneg _ (by decide)) (by have := Int.emod_lt_of_pos (3 + q) (b := 11) (by decide); omega)
  have hmany : ((3 + q) % 11).toNat ≤ 10 := by have := Int.emod_lt_of_pos (3 + q) (b := 11) (by decide); omega
  refine er_out (for_N (lo := 0) (n := ((3 + q) % 11).toNat) (fun i ρ => ∃ (hs : List Int) (pl : List Dd) (kn : Kn) (j5 j6 : Option D), hs ≠ [] ∧ pl.length = i ∧ (∀ d ∈ pl, DdOk rs d) ∧ KnOk rs kn ∧ ρ = [.ow true (hD hs), .fz (.lst (rs.map Rg.d)), .fz (.lst (vs.map .int)), .fz (.lst (ws.map .str)), .ow false (.dct (kvD kn)), jk j5, jk j6, .ow false (.lst (pl.map Dd.d))]) (by simp -implicitDefEqProofs [-List.map_map, -List.map_append, e1, md, fit] <;> first | exact rfl | exact ⟨rfl, rfl⟩) ⟨hs1, [], _, j5, j6, n1, rfl, by simp, K0, rfl⟩ ?_) ?_
  · rintro i hi ρ ⟨hs, pl, kn, j5, j6, hne, hl, hok, K, rfl⟩
    -- telling
    have tell : ∀ {hs1 : List Int}, hs1 ≠ [] → ∀ ρ0 : Ro, ρ0 = [.ow true (hD hs1), .fz (.lst (rs.map Rg.d)), .fz (.lst (vs.map .int)), .fz (.lst (ws.map .str)), .ow false (.dct (kvD kn)), .fz (.int (0 + i)), jk j6, .ow false (.lst (pl.map Dd.d))] →
        ∃ (hs2 : List Int) (d : Dd), hs2 ≠ [] ∧ DdOk rs d ∧ sExpr (eMeth "list" 7 moAppend (eCons (eTup (eCons (eC (.str "tell")) (eCons (eBin opIx (eVar 3) (eCall F__law_draw (eCons (eVar 0) (eCons (eC (.int 3)) eNil)))) eNil))) eNil)) ρ0 =
          .nx [.ow true (hD hs2), .fz (.lst (rs.map Rg.d)), .fz (.lst (vs.map .int)), .fz (.lst (ws.map .str)), .ow false (.dct (kvD kn)), .fz (.int (0 + i)), jk j6, .ow false (.lst ((pl ++ [d]).map Dd.d))] := by
      rintro hs1 n1 ρ0 rfl
      obtain ⟨v, hs2, n2, a2, b2, e2⟩ := draw hs1 n1 3 (by decide) (by decide)
      obtain ⟨w, hwm, ew, _⟩ := ixL (enc := D.str) (xs := ws) a2 (by omega)
      have app := appM (enc := Dd.d) (xs := pl) (x := .tell w) (by omega)
      change moAppend _ [.tup [.str "tell", .str w]] = _ at app
      exact ⟨hs2, .tell w, n2, hw w hwm, by simp -implicitDefEqProofs [-List.map_map, -List.map_append, e2, ew, tup2, app]⟩
    have fin : ∀ {hs2 : List Int} {d : Dd} {kn' : Kn}, hs2 ≠ [] → DdOk rs d → KnOk rs kn' → ∃ (hs' : List Int) (pl' : List Dd) (kn'' : Kn) (j5 j6' : Option D), hs' ≠ [] ∧ pl'.length = i + 1 ∧ (∀ d ∈ pl', DdOk rs d) ∧ KnOk rs kn'' ∧
        [.ow true (hD hs2), .fz (.lst (rs.map Rg.d)), .fz (.lst (vs.map .int)), .fz (.lst (ws.map .str)), .ow false (.dct (kvD kn')), .fz (.int (0 + i)), jk j6, .ow false (.lst ((pl ++ [d]).map Dd.d))] = [Sl.ow true (hD hs'), .fz (.lst (rs.map Rg.d)), .fz (.lst (vs.map .int)), .fz (.lst (ws.map .str)), .ow false (.dct (kvD kn'')), jk j5, jk j6', .ow false (.lst (pl'.map Dd.d))] :=
      fun n2 hd k' => ⟨_, pl ++ [_], _, some _, j6, n2, by simp [hl], fun x hx => by
        rcases List.mem_append.mp hx with h | h
        · exact hok x h
        · rw [List.mem_singleton] at h; subst h; exact hd, k', rfl⟩
    cases rs with
    | nil =>
      obtain ⟨hs2, d, n2, hd, e2⟩ := tell hne _ rfl
      refine .nx (by simp -implicitDefEqProofs [-List.map_map, -List.map_append] <;> first | exact rfl | exact ⟨rfl, rfl⟩) (ρ2 := _) ?_ (fin n2 hd K)
      rw [x_b2__law_some_deeds, ← e2]
      simp -implicitDefEqProofs
    | cons r0 rs' =>
      obtain ⟨v, hs1, n1, a1, b1, e1⟩ := draw hs hne 3 (by decide) (by decide)
      by_cases h2 : v = 2
      · obtain ⟨hs2, d, n2, hd, e2⟩ := tell n1 _ rfl
        refine .nx (by simp -implicitDefEqProofs [-List.map_map, -List.map_append] <;> first | exact rfl | exact ⟨rfl, rfl⟩) (ρ2 := _) ?_ (fin n2 hd K)
        rw [x_b2__law_some_deeds, ← e2]
        simp -implicitDefEqProofs [e1, h2]
      · have h2' : (v == 2) = false := by simpa using h2
        obtain ⟨n, c, ps, kn', hs2, n2, hd, K', e2⟩ := run_set n1 R (by simp) K
        have app := appM (enc := Dd.d) (xs := pl) (x := .put n c ps) (by omega)
        refine .nx (by simp -implicitDefEqProofs [-List.map_map, -List.map_append] <;> first | exact rfl | exact ⟨rfl, rfl⟩) (ρ2 := _) ?_ (fin n2 hd K')
        simp only [List.map_cons] at e2
        simp -implicitDefEqProofs [-List.map_map, -List.map_append, x_b2__law_some_deeds, e1, h2', e2, app]
  · rintro ρ ⟨hs, pl, kn, j5, j6, hne, hl, hok, K, rfl⟩
    exact er_end (by simp -implicitDefEqProofs [-List.map_map, -List.map_append] <;> first | exact rfl | exact ⟨rfl, rfl⟩) ⟨pl, hs, hne, by omega, hok, rfl, rfl⟩
end DL

/-! K2s: k02: Sums. -/
namespace DL
open PySem PySem.Spec
def putK (kn : Kn) (n : Str) (v : Int) : Kn := if n ∈ kn.map Prod.fst then upd kn n v else kn ++ [(n, v)]
def addF (kn : Kn) (p : Str × Int) : Kn := putK kn p.1 (gt kn p.1 + p.2)
def facs (ps : List (Str × Int)) : Kn := ps.foldl addF []
def terms (ps : List (Str × Int)) : List (Str × Int) := ((sortS ((facs ps).map Prod.fst)).filter fun n => !(gt (facs ps) n == 0)).map fun n => (n, gt (facs ps) n)
def sumF (c : Int) (ps : List (Str × Int)) : List (Str × D) := [("constant", .int c), ("terms", .tup ((terms ps).map prD))]
def sumD (c : Int) (ps : List (Str × Int)) : D := .ins "Sum" (sumF c ps)
section
variable {kn : Kn} {n m : Str} {v : Int}
theorem kv_putK : putD (kvD kn) (.inr n) (.int v) = kvD (putK kn n v) := by
  unfold putK
  by_cases h : n ∈ kn.map Prod.fst
  · rw [if_pos h]; exact kv_put h
  · rw [if_neg h]
    unfold kvD
    rw [putD_new (fun p hp e => h (List.mem_map.mpr ⟨p, hp, e⟩))]
    unfold dK
    rw [List.map_append]; rfl
theorem look_none (h : n ∉ kn.map Prod.fst) : kn.lookup n = none := by
  induction kn with
  | nil => rfl
  | cons p kn ih =>
    rw [List.map_cons, List.mem_cons, not_or] at h
    rw [List.lookup_cons, beq_eq_false_iff_ne.mpr h.1]
    exact ih h.2
theorem gt_none (h : n ∉ kn.map Prod.fst) : gt kn n = 0 := by unfold gt; rw [look_none h]; rfl
theorem gt_putK : gt (putK kn n v) m = if m = n then v else gt kn m := by
  unfold putK
  by_cases h : n ∈ kn.map Prod.fst
  · rw [if_pos h, gt_upd h]
  · rw [if_neg h]
    induction kn with
    | nil =>
      show (List.lookup m [(n, v)]).getD 0 = _
      rw [List.lookup_cons]
      by_cases e : m = n
      · rw [if_pos e, e]; simp
      · rw [if_neg e, beq_eq_false_iff_ne.mpr e]; rfl
    | cons p kn ih =>
      rw [List.map_cons, List.mem_cons, not_or] at h
      have ih := ih h.2
      show (List.lookup m ((p.1, p.2) :: (kn ++ [(n, v)]))).getD 0 = if m = n then v else (List.lookup m ((p.1, p.2) :: kn)).getD 0
      rw [List.lookup_cons, List.lookup_cons]
      by_cases e : m = p.1
      · have : ¬ m = n := fun q => h.1 (q.symm.trans e)
        rw [if_neg this, e]; simp
      · rw [beq_eq_false_iff_ne.mpr e]; exact ih
theorem mem_putK : m ∈ (putK kn n v).map Prod.fst ↔ m ∈ kn.map Prod.fst ∨ m = n := by
  unfold putK
  by_cases h : n ∈ kn.map Prod.fst
  · rw [if_pos h, keys_upd]
    exact ⟨.inl, fun q => q.elim id fun e => e ▸ h⟩
  · rw [if_neg h, List.map_append, List.mem_append]; simp
theorem nd_putK (h : (kn.map Prod.fst).Nodup) : ((putK kn n v).map Prod.fst).Nodup := by
  unfold putK
  by_cases q : n ∈ kn.map Prod.fst
  · rw [if_pos q, keys_upd]; exact h
  · rw [if_neg q, List.map_append, List.nodup_append]
    exact ⟨h, by simp, fun a ha b hb => by
      have : b = n := by simpa using hb
      subst this
      exact fun e => q (e ▸ ha)⟩
theorem gt_fold : ∀ (ps : List (Str × Int)) (kn : Kn), gt (ps.foldl addF kn) n = gt kn n + ((ps.filter fun p => decide (p.1 = n)).map Prod.snd).sum
  | [], kn => by simp
  | p :: ps, kn => by
    rw [List.foldl_cons, gt_fold ps, List.filter_cons]
    unfold addF
    rw [gt_putK]
    by_cases e : p.1 = n
    · rw [if_pos e.symm, decide_eq_true e, if_pos rfl, List.map_cons, List.sum_cons, e]; omega
    · rw [if_neg (fun q => e q.symm), decide_eq_false e]; simp
theorem mem_fold : ∀ (ps : List (Str × Int)) (kn : Kn), n ∈ (ps.foldl addF kn).map Prod.fst ↔ n ∈ kn.map Prod.fst ∨ n ∈ ps.map Prod.fst
  | [], kn => by simp
  | p :: ps, kn => by
    rw [List.foldl_cons, mem_fold ps]
    unfold addF
    rw [mem_putK, List.map_cons, List.mem_cons, or_assoc]
theorem nd_fold : ∀ (ps : List (Str × Int)) (kn : Kn), (kn.map Prod.fst).Nodup → ((ps.foldl addF kn).map Prod.fst).Nodup
  | [], kn, h => h
  | p :: ps, kn, h => by
    rw [List.foldl_cons]
    exact nd_fold ps _ (nd_putK h)
theorem len_fold : ∀ (ps : List (Str × Int)) (kn : Kn), (ps.foldl addF kn).length ≤ kn.length + ps.length
  | [], kn => Nat.le_refl _
  | p :: ps, kn => by
    rw [List.foldl_cons]
    have h := len_fold ps (addF kn p)
    have h2 : (addF kn p).length ≤ kn.length + 1 := by
      unfold addF putK
      split
      · unfold upd; rw [List.length_map]; omega
      · rw [List.length_append]; simp
    rw [List.length_cons]; omega
/-! ### the sum over the terms -/
def dotS (g : Str → Int) (ps : List (Str × Int)) : Int := (ps.map fun p => p.2 * g p.1).sum
theorem dot_upd {g : Str → Int} : ∀ {kn : Kn}, n ∈ kn.map Prod.fst → (kn.map Prod.fst).Nodup → dotS g (upd kn n v) = dotS g kn + (v - gt kn n) * g n
  | [], h, _ => absurd h List.not_mem_nil
  | (a, b) :: kn, h, nd => by
    rw [List.map_cons, List.nodup_cons] at nd
    by_cases e : a = n
    · subst e
      have h1 : upd ((a, b) :: kn) a v = (a, v) :: kn := by
        show (if a = a then (a, v) else (a, b)) :: kn.map _ = _
        rw [if_pos rfl]
        congr 1
        refine (List.map_congr_left fun p hp => ?_).trans (List.map_id _)
        show (if p.1 = a then (p.1, v) else p) = p
        rw [if_neg (fun q => nd.1 (List.mem_map.mpr ⟨p, hp, q⟩))]
      have h2 : gt ((a, b) :: kn) a = b := by unfold gt; rw [List.lookup_cons]; simp
      rw [h1, h2]
      unfold dotS
      rw [List.map_cons, List.map_cons, List.sum_cons, List.sum_cons, Int.sub_mul]
      dsimp only
      omega
    · have h' : n ∈ kn.map Prod.fst := by
        rcases List.mem_cons.mp h with q | q
        · exact absurd q.symm e
        · exact q
      have ih := dot_upd (g := g) h' nd.2
      have h1 : upd ((a, b) :: kn) n v = (a, b) :: upd kn n v := by
        show (if a = n then (a, v) else (a, b)) :: _ = _
        rw [if_neg e]; rfl
      have h2 : gt ((a, b) :: kn) n = gt kn n := by
        unfold gt
        rw [List.lookup_cons, beq_eq_false_iff_ne.mpr (fun q => e q.symm)]
      rw [h1, h2]
      unfold dotS at ih ⊢
      rw [List.map_cons, List.map_cons, List.sum_cons, List.sum_cons, ih]
      omega
theorem dot_add {g : Str → Int} {p : Str × Int} (nd : (kn.map Prod.fst).Nodup) : dotS g (addF kn p) = dotS g kn + p.2 * g p.1 := by
  unfold addF putK
  by_cases h : p.1 ∈ kn.map Prod.fst
  · rw [if_pos h, dot_upd h nd]
    have : gt kn p.1 + p.2 - gt kn p.1 = p.2 := by omega
    rw [this]
  · rw [if_neg h, gt_none h]
    unfold dotS
    rw [List.map_append, List.sum_append]
    simp
theorem dot_fold {g : Str → Int} : ∀ (ps : List (Str × Int)) (kn : Kn), (kn.map Prod.fst).Nodup → dotS g (ps.foldl addF kn) = dotS g kn + dotS g ps
  | [], kn, _ => by simp [dotS]
  | p :: ps, kn, h => by
    have h' : ((addF kn p).map Prod.fst).Nodup := nd_putK h
    rw [List.foldl_cons, dot_fold ps _ h', dot_add h]
    show _ = dotS g kn + ((p :: ps).map fun p => p.2 * g p.1).sum
    rw [List.map_cons, List.sum_cons]
    unfold dotS
    omega
theorem dot_gt {g : Str → Int} : ∀ {kn : Kn}, (kn.map Prod.fst).Nodup → dotS g kn = ((kn.map Prod.fst).map fun n => gt kn n * g n).sum
  | [], _ => rfl
  | (a, b) :: kn, nd => by
    have nd' := nd
    rw [List.map_cons, List.nodup_cons] at nd
    have ih := dot_gt (g := g) nd.2
    have h2 : gt ((a, b) :: kn) a = b := by unfold gt; rw [List.lookup_cons]; simp
    unfold dotS at ih ⊢
    rw [List.map_cons, List.map_cons, List.map_cons, List.sum_cons, List.sum_cons, ih]
    dsimp only
    rw [h2]
    congr 2
    refine List.map_congr_left fun n hn => ?_
    have : ¬ n = a := fun q => nd.1 (q ▸ hn)
    have h3 : gt ((a, b) :: kn) n = gt kn n := by
      unfold gt
      rw [List.lookup_cons, beq_eq_false_iff_ne.mpr this]
    rw [h3]
theorem perm_sum {xs ys : List Int} (h : xs.Perm ys) : xs.sum = ys.sum := by
  induction h with
  | nil => rfl
  | cons x _ ih => rw [List.sum_cons, List.sum_cons, ih]
  | swap x y l => rw [List.sum_cons, List.sum_cons, List.sum_cons, List.sum_cons]; omega
  | trans _ _ h1 h2 => exact h1.trans h2
theorem filt_sum {g : Str → Int} {q : Str → Int} : ∀ l : List Str, ((l.filter fun n => !(q n == 0)).map fun n => q n * g n).sum = (l.map fun n => q n * g n).sum
  | [] => rfl
  | a :: l => by
    rw [List.filter_cons, List.map_cons, List.sum_cons, ← filt_sum l]
    by_cases e : q a = 0
    · simp [e]
    · have : (q a == 0) = false := beq_eq_false_iff_ne.mpr e
      simp [this]
theorem facs_nd (ps : List (Str × Int)) : ((facs ps).map Prod.fst).Nodup := nd_fold ps [] .nil
theorem dot_terms (g : Str → Int) (ps : List (Str × Int)) : dotS g (terms ps) = dotS g ps := by
  have h1 : dotS g (terms ps) = (((sortS ((facs ps).map Prod.fst)).filter fun n => !(gt (facs ps) n == 0)).map fun n => gt (facs ps) n * g n).sum := by
    unfold dotS terms
    rw [List.map_map]; rfl
  rw [h1, filt_sum, perm_sum ((sortS_perm ((facs ps).map Prod.fst)).map _), ← dot_gt (facs_nd ps)]
  unfold facs
  rw [dot_fold ps [] .nil]
  simp [dotS]
theorem gt_facs {ps : List (Str × Int)} : gt (facs ps) n = ((ps.filter fun p => decide (p.1 = n)).map Prod.snd).sum := by
  unfold facs
  rw [gt_fold]
  show (0 : Int) + _ = _
  omega
theorem facs_bd {ps : List (Str × Int)} {b k : Nat} (h : ∀ p ∈ ps, p.2.natAbs ≤ b) (hl : ps.length ≤ k) : (gt (facs ps) n).natAbs ≤ k * b := by
  rw [gt_facs]
  have := sum_bd (b := b) (xs := (ps.filter fun p => decide (p.1 = n)).map Prod.snd) (fun x hx => by
    obtain ⟨p, hp, rfl⟩ := List.mem_map.mp hx
    exact h p (List.mem_filter.mp hp).1)
  rw [List.length_map] at this
  have h1 := List.length_filter_le (fun p : Str × Int => decide (p.1 = n)) ps
  exact Nat.le_trans this (Nat.mul_le_mul_right _ (Nat.le_trans h1 hl))
theorem mem_terms {ps : List (Str × Int)} {p : Str × Int} : p ∈ terms ps ↔ p.1 ∈ ps.map Prod.fst ∧ p.2 = gt (facs ps) p.1 ∧ p.2 ≠ 0 := by
  unfold terms
  rw [List.mem_map]
  have hk : ∀ n, n ∈ (facs ps).map Prod.fst ↔ n ∈ ps.map Prod.fst := fun n => by
    unfold facs
    rw [mem_fold]; simp
  constructor
  · rintro ⟨n, hn, rfl⟩
    obtain ⟨h1, h2⟩ := List.mem_filter.mp hn
    refine ⟨(hk n).mp ((sortS_perm _).mem_iff.mp h1), rfl, fun e => ?_⟩
    dsimp only at e
    rw [e] at h2; cases h2
  · rintro ⟨h1, h2, h3⟩
    refine ⟨p.1, List.mem_filter.mpr ⟨(sortS_perm _).mem_iff.mpr ((hk p.1).mpr h1), ?_⟩, by rw [← h2]⟩
    rw [← h2, beq_eq_false_iff_ne.mpr h3]; rfl
theorem len_terms (ps : List (Str × Int)) : (terms ps).length ≤ ps.length := by
  unfold terms
  rw [List.length_map]
  refine Nat.le_trans (List.length_filter_le _ _) ?_
  rw [(sortS_perm _).length_eq, List.length_map]
  have := len_fold ps []
  unfold facs
  simpa using this
end
end DL

/-! K2t: k02: Sums, run; deeds judged. -/
namespace DL
open PySem PySem.Spec
def PsL (ps : List (Str × Int)) : Prop := (∀ p ∈ ps, LN p.1 ∧ p.2.natAbs ≤ 100) ∧ ps.length ≤ 10
theorem find_kv {kn : Kn} {n : Str} : findD (kvD kn) (.inr n) (.int 0) = .int (gt kn n) := by
  unfold findD gt
  induction kn with
  | nil => rfl
  | cons p kn ih =>
    show (match List.find? _ ((Sum.inr p.1, D.int p.2) :: kvD kn) with
      | some p => p.2
      | none => .int 0) = .int ((List.lookup n ((p.1, p.2) :: kn)).getD 0)
    rw [List.find?_cons, List.lookup_cons]
    by_cases e : n = p.1
    · subst e; rw [decide_eq_true rfl, beq_self_eq_true]; rfl
    · rw [decide_eq_false (fun q => e (Sum.inr.inj q).symm), beq_eq_false_iff_ne.mpr e]; exact ih
theorem sort_kv {kn : Kn} (h : kn.length < 64) : cSorted [.dct (kvD kn)] = some (.nw (.lst ((sortS (kn.map Prod.fst)).map .str))) := by
  have e : ∀ kn : Kn, keysOf (kvD kn) = some (kn.map Prod.fst) := fun kn => by
    induction kn with
    | nil => rfl
    | cons p kn ih => show (keysOf (kvD kn)).map (p.1 :: ·) = _; rw [ih]; rfl
  show (keysOf (kvD kn)).bind sortO = _
  rw [e]
  show (if (kn.map Prod.fst).length < 64 then _ else _) = _
  rw [if_pos (by rw [List.length_map]; exact h)]
theorem kvD_len {kn : Kn} : (kvD kn).length = kn.length := len_dK
theorem r_tupL {ds : List D} : cTuple [.lst ds] = some (.val (.tup ds)) := rfl
theorem run_init {c : Int} {ps : List (Str × Int)} (h : PsL ps) : F_Sum__init [.ow true (.ins "Sum" []), .fz (.int c), .fz (.lst (ps.map prD))] = .ok (.val .non) [.ow true (.ins "Sum" (sumF c ps)), .fz (.int c), .fz (.lst (ps.map prD))] := by
  suffices q : Gives (fun v a => v = .val .non ∧ a = [.ow true (.ins "Sum" (sumF c ps)), .fz (.int c), .fz (.lst (ps.map prD))]) (F_Sum__init [.ow true (.ins "Sum" []), .fz (.int c), .fz (.lst (ps.map prD))]) by
    obtain ⟨_, _, e, rfl, rfl⟩ := q
    exact e
  obtain ⟨h1, h2⟩ := h
  refine er_run ?_
  unfold d_Sum__init
  refine er_seq (by simp -implicitDefEqProofs [-List.map_map, -List.map_append] <;> first | exact rfl | exact ⟨rfl, rfl⟩) ?_
  refine er_out (for_T prD (xs := ps) (fun dn ρ => ∃ (j4 j5 : Option D), ρ = [.ow true (.ins "Sum" []), .fz (.int c), .fz (.lst (ps.map prD)), .ow false (.dct (kvD (dn.foldl addF []))), jk j4, jk j5]) (by simp -implicitDefEqProofs [-List.map_map, -List.map_append] <;> first | exact rfl | exact ⟨rfl, rfl⟩) ⟨none, none, rfl⟩ ?_) ?_
  · rintro dn p td e ρ ⟨j4, j5, rfl⟩
    obtain ⟨hp, hf⟩ := h1 p (by rw [e]; simp)
    have hd : dn.length < 10 := by have := congrArg List.length e; simp at this; omega
    have el := run_is_long hp.1 (by decide)
    rw [hp.2] at el
    have st := set_kv (kvs := kvD (dn.foldl addF [])) (n := p.1) (d := .int (gt (dn.foldl addF []) p.1 + p.2)) (by rw [kvD_len]; have := len_fold dn []; simp at this; omega)
    rw [kv_putK] at st
    have e2 : putK (dn.foldl addF []) p.1 (gt (dn.foldl addF []) p.1 + p.2) = (dn ++ [p]).foldl addF [] := by rw [List.foldl_append]; rfl
    rw [e2] at st
    refine .nx (by simp -implicitDefEqProofs [-List.map_map, -List.map_append, prD] <;> first | exact rfl | exact ⟨rfl, rfl⟩) (ρ2 := [.ow true (.ins "Sum" []), .fz (.int c), .fz (.lst (ps.map prD)), .ow false (.dct (kvD ((dn ++ [p]).foldl addF []))), .fz (.str p.1), .fz (.int p.2)]) ?_ ⟨some _, some _, rfl⟩
    simp -implicitDefEqProofs [-List.map_map, -List.map_append, -List.foldl_append, x_b1_Sum__init, el, find_kv, st]
  rintro ρ ⟨j4, j5, rfl⟩
  change EndsR _ _ (sSeq _ _ [.ow true (.ins "Sum" []), .fz (.int c), .fz (.lst (ps.map prD)), .ow false (.dct (kvD (facs ps))), jk j4, jk j5])
  have hfl : (facs ps).length ≤ 10 := by have := len_fold ps []; unfold facs; simp at this; omega
  have hso := sort_kv (kn := facs ps) (by omega)
  have hmem : ∀ n ∈ sortS ((facs ps).map Prod.fst), opIx (.dct (kvD (facs ps))) (.str n) = some (.val (.int (gt (facs ps) n))) := fun n hn => ix_kv ((sortS_perm _).mem_iff.mp hn) (facs_nd ps)
  refine er_seq (by simp -implicitDefEqProofs [-List.map_map, -List.map_append, putFD] <;> first | exact rfl | exact ⟨rfl, rfl⟩) ?_
  have ec := comp_F (ρ := [.ow true (.ins "Sum" [("constant", .int c)]), .fz (.int c), .fz (.lst (ps.map prD)), .ow false (.dct (kvD (facs ps))), .no, jk j5]) (tgt := tgName 4) (cond := c3_Sum__init) (elt := e2_Sum__init) (vs := [4]) D.str (fun n => prD (n, gt (facs ps) n)) (fun n => !(gt (facs ps) n == 0)) (sortS ((facs ps).map Prod.fst)) [] (fun n hn => by
    have hi := hmem n hn
    refine ⟨_, _, (by simp -implicitDefEqProofs [-List.map_map, -List.map_append] <;> first | exact rfl | exact ⟨rfl, rfl⟩), (by simp -implicitDefEqProofs [-List.map_map, -List.map_append, x_c3_Sum__init, hi] <;> first | exact rfl | exact ⟨rfl, rfl⟩), (by simp -implicitDefEqProofs [-List.map_map, -List.map_append] <;> first | exact rfl | exact ⟨rfl, rfl⟩), fun _ => ⟨_, _, (by simp -implicitDefEqProofs [-List.map_map, -List.map_append, x_e2_Sum__init, hi, tup2] <;> first | exact rfl | exact ⟨rfl, rfl⟩), rfl, (by simp -implicitDefEqProofs [-List.map_map, -List.map_append] <;> first | exact rfl | exact ⟨rfl, rfl⟩)⟩⟩) (by
    have hz := sizeLine_eq
    rw [(sortS_perm _).length_eq, List.length_map, List.length_nil]; omega)
  have et : ((sortS ((facs ps).map Prod.fst)).filter fun n => !(gt (facs ps) n == 0)).map (fun n => prD (n, gt (facs ps) n)) = (terms ps).map prD := by
    unfold terms
    rw [List.map_map]; rfl
  rw [et, List.nil_append] at ec
  refine er_end (r := .val .non) (b := [.ow true (.ins "Sum" (sumF c ps)), .fz (.int c), .fz (.lst (ps.map prD))]) ?_ ⟨rfl, rfl⟩
  have hp : putFD "terms" (.tup ((terms ps).map prD)) [("constant", .int c)] = sumF c ps := by
    show (if ("constant" : Str) = "terms" then _ else _) = _
    rw [if_neg (by decide +kernel)]; rfl
  simp -implicitDefEqProofs [-List.map_map, -List.map_append, hso, ec, hp]
theorem fld_c {c : Int} {ps : List (Str × Int)} : opFld "Sum" "constant" (sumD c ps) = some (.val (.int c)) := r_fld (by
  show List.lookup ("constant" : Str) [("constant", D.int c), ("terms", .tup ((terms ps).map prD))] = _
  rw [List.lookup_cons, beq_self_eq_true])
theorem fld_t {c : Int} {ps : List (Str × Int)} : opFld "Sum" "terms" (sumD c ps) = some (.val (.tup ((terms ps).map prD))) := r_fld (by
  show List.lookup ("terms" : Str) [("constant", D.int c), ("terms", .tup ((terms ps).map prD))] = _
  rw [List.lookup_cons, beq_eq_false_iff_ne.mpr (by decide +kernel), List.lookup_cons, beq_self_eq_true])
theorem insOk_sum {c : Int} {ps : List (Str × Int)} {m : Str} (h1 : m ≠ "constant") (h2 : m ≠ "terms") : insOk "Sum" m (some (sumD c ps)) = true := insOk_s (by
  show List.lookup m [("constant", D.int c), ("terms", .tup ((terms ps).map prD))] = _
  rw [List.lookup_cons, beq_eq_false_iff_ne.mpr h1, List.lookup_cons, beq_eq_false_iff_ne.mpr h2]; rfl)
theorem insIs_sum {c : Int} {ps : List (Str × Int)} : insIs "Sum" (some (sumD c ps)) = true := insIs_s
theorem run_value {c : Int} {ps : List (Str × Int)} (hp : PsL ps) {kn : Kn} (hk : ∀ p ∈ ps, p.1 ∈ kn.map Prod.fst) (nd : (kn.map Prod.fst).Nodup) :
    F_Sum__value [.fz (sumD c ps), .ow true (.dct (kvD kn))] = .ok (.val (.int (c + dotS (gt kn) ps))) [.fz (sumD c ps), .ow true (.dct (kvD kn))] := by
  suffices q : Gives (fun v a => v = .val (.int (c + dotS (gt kn) ps)) ∧ a = [.fz (sumD c ps), .ow true (.dct (kvD kn))]) (F_Sum__value [.fz (sumD c ps), .ow true (.dct (kvD kn))]) by
    obtain ⟨_, _, e, rfl, rfl⟩ := q
    exact e
  refine er_run ?_
  unfold d_Sum__value
  refine er_seq (by simp -implicitDefEqProofs [-List.map_map, -List.map_append, fld_c] <;> first | exact rfl | exact ⟨rfl, rfl⟩) ?_
  refine er_out (for_T prD (xs := terms ps) (fun dn ρ => ∃ (j3 j4 : Option D), ρ = [.fz (sumD c ps), .ow true (.dct (kvD kn)), .fz (.int (c + dotS (gt kn) dn)), jk j3, jk j4]) (by simp -implicitDefEqProofs [-List.map_map, -List.map_append, fld_t] <;> first | exact rfl | exact ⟨rfl, rfl⟩) ⟨none, none, by simp [dotS]; rfl⟩ ?_) ?_
  · rintro dn p td e ρ ⟨j3, j4, rfl⟩
    have hm : p ∈ terms ps := by rw [e]; simp
    obtain ⟨m1, m2, m3⟩ := mem_terms.mp hm
    obtain ⟨p0, hp0, ep⟩ := List.mem_map.mp m1
    have hin : p.1 ∈ kn.map Prod.fst := ep ▸ hk p0 hp0
    have ei := ix_kv hin nd
    have en := notin_dct (keys_dK (key := Prod.fst) (val := fun p : Str × Int => D.int p.2) (xs := kn)) p.1
    rw [decide_eq_true hin] at en
    change opNotIn (.str p.1) (.dct (kvD kn)) = _ at en
    have bd := facs_bd (n := p.1) (fun q hq => (hp.1 q hq).2) hp.2
    rw [← m2] at bd
    have em : opMulA (.int p.2) (.int (gt kn p.1)) = some (.val (.int (p.2 * gt kn p.1))) := r_mulI (by
      unfold mulOk
      simp only [Bool.or_eq_true, Bool.and_eq_true, decide_eq_true_eq]
      exact .inl ⟨by omega, by omega⟩)
    have ed : dotS (gt kn) (dn ++ [p]) = dotS (gt kn) dn + p.2 * gt kn p.1 := by
      unfold dotS
      rw [List.map_append, List.sum_append]
      simp
    exact .nx (by simp -implicitDefEqProofs [-List.map_map, -List.map_append, prD] <;> first | exact rfl | exact ⟨rfl, rfl⟩) (by simp -implicitDefEqProofs [-List.map_map, -List.map_append, x_b1_Sum__value, en, ei, em] <;> first | exact rfl | exact ⟨rfl, rfl⟩) ⟨some (.str p.1), some (.int p.2), by rw [ed, ← Int.add_assoc]; rfl⟩
  · rintro ρ ⟨j3, j4, rfl⟩
    rw [dot_terms]
    exact er_end (by simp -implicitDefEqProofs [-List.map_map, -List.map_append] <;> first | exact rfl | exact ⟨rfl, rfl⟩) ⟨rfl, rfl⟩
theorem r_all {A : Type} (f : A → Bool) (xs : List A) : cAll [.lst (xs.map fun x => .bl (f x))] = some (.val (.bl (xs.all f))) := by
  have e : ∀ xs : List A, boolsD (xs.map fun x => .bl (f x)) = some (xs.map f) := fun xs => by
    induction xs with
    | nil => rfl
    | cons x xs ih => show (boolsD (xs.map fun x => .bl (f x))).map (f x :: ·) = _; rw [ih]; rfl
  show (boolsD (xs.map fun x => .bl (f x))).bind (fun bs => vB (bs.all id)) = _
  rw [e]
  show vB ((xs.map f).all id) = _
  rw [List.all_map]; rfl
def abI (i : Int) : Int := if i < 0 then -i else i
theorem r_abI {i : Int} : cAbs [.int i] = some (.val (.int (abI i))) := rfl
theorem abI_le {i b : Int} : abI i ≤ b ↔ -b ≤ i ∧ i ≤ b := by unfold abI; split <;> omega
def smallB (c : Int) (ps : List (Str × Int)) : Bool := !decide ((8 : Int) < ((terms ps).length : Int)) && !decide (9999 < abI c) && (terms ps).all fun p => decide (abI p.2 ≤ 99)
theorem run_small {c : Int} {ps : List (Str × Int)} (hl : ps.length ≤ 10) : F_Sum__small [.fz (sumD c ps)] = .ok (.val (.bl (smallB c ps))) [.fz (sumD c ps)] := by
  unfold F_Sum__small d_Sum__small
  rw [x_run]
  have hl := Nat.le_trans (len_terms ps) hl
  have lm : ((terms ps).map prD).length = (terms ps).length := List.length_map ..
  have ec := comp_T (ρ := [.fz (sumD c ps), .no, .no]) (tgt := tgTup 2 (tgCons (tgName 1) (tgCons (tgName 2) tgNil))) (cond := eYes) (elt := e1_Sum__small) (vs := [1, 2]) prD (fun p => .bl (decide (abI p.2 ≤ 99))) (terms ps) [] (fun p _ => ⟨_, _, _, _, (by simp -implicitDefEqProofs [-List.map_map, -List.map_append, prD] <;> first | exact rfl | exact ⟨rfl, rfl⟩), rfl, (by simp -implicitDefEqProofs [-List.map_map, -List.map_append, x_e1_Sum__small, -r_abs, r_abI] <;> first | exact rfl | exact ⟨rfl, rfl⟩), rfl, (by simp -implicitDefEqProofs [-List.map_map, -List.map_append] <;> first | exact rfl | exact ⟨rfl, rfl⟩)⟩) (by have := sizeLine_eq; rw [List.length_nil]; omega)
  rw [List.nil_append] at ec
  have ea := r_all (fun p : Str × Int => decide (abI p.2 ≤ 99)) (terms ps)
  unfold smallB
  generalize hxs : (terms ps).map (fun p => D.bl (decide (abI p.2 ≤ 99))) = xs at ec ea
  by_cases h1 : (8 : Int) < ((terms ps).length : Int)
  · simp -implicitDefEqProofs [-List.map_map, -List.map_append, fld_t, lm, h1]
  · by_cases h2 : 9999 < abI c
    · simp -implicitDefEqProofs [-List.map_map, -List.map_append, fld_t, fld_c, lm, h1, h2, -r_abs, r_abI]
    · simp -implicitDefEqProofs [-List.map_map, -List.map_append, fld_t, fld_c, lm, h1, h2, -r_abs, r_abI, ec, ea]
theorem run_involved {c : Int} {ps : List (Str × Int)} (hl : ps.length ≤ 10) : F_Sum__involved [.fz (sumD c ps)] = .ok (.val (.tup ((terms ps).map fun p => .str p.1))) [.fz (sumD c ps)] := by
  unfold F_Sum__involved d_Sum__involved
  rw [x_run]
  have hl := Nat.le_trans (len_terms ps) hl
  have ec := comp_T (ρ := [.fz (sumD c ps), .no, .no]) (tgt := tgTup 2 (tgCons (tgName 1) (tgCons (tgName 2) tgNil))) (cond := eYes) (elt := e1_Sum__involved) (vs := [1, 2]) prD (fun p => .str p.1) (terms ps) [] (fun p _ => ⟨_, _, _, _, (by simp -implicitDefEqProofs [-List.map_map, -List.map_append, prD] <;> first | exact rfl | exact ⟨rfl, rfl⟩), rfl, (by simp -implicitDefEqProofs [-List.map_map, -List.map_append, x_e1_Sum__involved] <;> first | exact rfl | exact ⟨rfl, rfl⟩), rfl, (by simp -implicitDefEqProofs [-List.map_map, -List.map_append] <;> first | exact rfl | exact ⟨rfl, rfl⟩)⟩) (by have := sizeLine_eq; rw [List.length_nil]; omega)
  rw [List.nil_append] at ec
  simp -implicitDefEqProofs [-List.map_map, -List.map_append, fld_t, ec]
/-! ### deeds, judged -/
inductive G where
  | tell (w : Str) | put (n : Str) (c : Int) (ps : List (Str × Int)) | oth (k x : Str) (rest : List D)
def G.d : G → D
  | .tell w => .tup [.str "tell", .str w]
  | .put n c ps => .tup [.str "set", .str n, sumD c ps]
  | .oth k x rest => .tup (.str k :: .str x :: rest)
def GOk : G → Prop
  | .tell w => PyData.strOk w = true
  | .put n _ ps => PyData.strOk n = true ∧ PsL ps
  | .oth k x _ => k ≠ "tell" ∧ k ≠ "set" ∧ PyData.strOk k = true ∧ PyData.strOk x = true
def G.good (names words : List Str) : G → Bool
  | .tell w => decide (w ∈ words)
  | .put n c ps => decide (n ∈ names) && (smallB c ps && (terms ps).all fun p => decide (p.1 ∈ names))
  | .oth _ _ _ => false
structure Mem (L : D) (ws : List Str) : Prop where
  inn : ∀ x, PyData.strOk x = true → opIn (.str x) L = some (.val (.bl (decide (x ∈ ws))))
  nin : ∀ x, PyData.strOk x = true → opNotIn (.str x) L = some (.val (.bl (!decide (x ∈ ws))))
theorem Mem.lst {ws : List Str} (h : ∀ w ∈ ws, PyData.strOk w = true) : Mem (.lst (ws.map .str)) ws := ⟨fun _ hx => in_strs h hx, fun _ hx => notin_strsL h hx⟩
theorem any_mem (x : Str) (ws : List Str) : ((ws.map D.str).any fun z => eqF z (.str x)) = decide (x ∈ ws) := by
  rw [any_strs, Bool.eq_iff_iff, List.any_eq_true, decide_eq_true_eq]
  constructor
  · rintro ⟨w, hw, e⟩; rw [eq_of_beq e] at hw; exact hw
  · exact fun h => ⟨x, h, beq_self_eq_true x⟩
theorem Mem.tup (ws : List Str) : Mem (.tup (ws.map .str)) ws := by
  have e : ∀ x : Str, inB (.str x) (.tup (ws.map .str)) = some (decide (x ∈ ws)) := fun x => by
    have hf : (ws.map D.str).all flatD = true := List.all_eq_true.mpr fun d hd => by
      obtain ⟨w, _, rfl⟩ := List.mem_map.mp hd
      rfl
    show (if (flatD (.str x) && (ws.map D.str).all flatD) = true then some ((ws.map D.str).any fun z => eqF z (.str x)) else none) = _
    rw [hf, if_pos (by rfl), any_mem]
  exact ⟨fun x _ => by unfold opIn; rw [e]; rfl, fun x _ => by unfold opNotIn; rw [e]; rfl⟩
theorem ok_tell : PyData.strOk "tell" = true := by decide +kernel
theorem ok_set : PyData.strOk "set" = true := by decide +kernel
theorem set_tell : (("set" : Str) == "tell") = false := by decide +kernel
theorem run_is_deed {g : G} (hg : GOk g) {N W : D} {names words : List Str} (hN : Mem N names) (hW : Mem W words) : F_is_deed [.fz g.d, .fz N, .fz W] = .ok (.val (.bl (g.good names words))) [.fz g.d, .fz N, .fz W] := by
  unfold F_is_deed d_is_deed
  rw [x_run]
  cases g with
  | tell w =>
    have e1 := r_eqS ok_tell ok_tell
    rw [beq_self_eq_true] at e1
    have e2 := hW.inn w hg
    simp -implicitDefEqProofs [G.d, ixT0, ixT1, e1, e2, G.good]
  | oth k x rest =>
    obtain ⟨h1, h2, h3, h4⟩ := hg
    have e1 := r_eqS h3 ok_tell
    rw [beq_eq_false_iff_ne.mpr h1] at e1
    have e2 := r_neS h3 ok_set
    rw [beq_eq_false_iff_ne.mpr h2] at e2
    simp -implicitDefEqProofs [G.d, ixT0, e1, e2, G.good]
  | put n c ps =>
    obtain ⟨h1, h2⟩ := hg
    have e1 := r_eqS ok_set ok_tell
    rw [set_tell] at e1
    have e2 := r_neS ok_set ok_set
    rw [beq_self_eq_true] at e2
    have e3 := hN.nin n h1
    by_cases hn : n ∈ names
    · rw [decide_eq_true hn] at e3
      have es := run_small (c := c) h2.2
      have ei := run_involved (c := c) h2.2
      have ok := insOk_sum (c := c) (ps := ps) (m := "involved") (by decide +kernel) (by decide +kernel)
      have is := insIs_sum (c := c) (ps := ps)
      have hl := Nat.le_trans (len_terms ps) h2.2
      cases hs : smallB c ps with
      | false =>
        rw [hs] at es
        simp -implicitDefEqProofs [G.d, ixT0, ixT1, ixT2, e1, e2, e3, es, is, G.good, hs]
      | true =>
        rw [hs] at es
        have ec := comp_T (ρ := [.fz (G.put n c ps).d, .fz N, .fz W, .fz (sumD c ps), .no]) (tgt := tgName 4) (cond := eYes) (elt := e1_is_deed) (vs := [4]) (fun p : Str × Int => D.str p.1) (fun p => .bl (decide (p.1 ∈ names))) (terms ps) [] (fun p hp => by
          obtain ⟨m1, m2, m3⟩ := mem_terms.mp hp
          obtain ⟨p0, hp0, ep⟩ := List.mem_map.mp m1
          have := hN.inn p.1 (ep ▸ strOk_LN (h2.1 p0 hp0).1)
          exact ⟨_, _, _, _, (by simp -implicitDefEqProofs [-List.map_map, -List.map_append] <;> first | exact rfl | exact ⟨rfl, rfl⟩), rfl, (by simp -implicitDefEqProofs [-List.map_map, -List.map_append, x_e1_is_deed, this] <;> first | exact rfl | exact ⟨rfl, rfl⟩), rfl, (by simp -implicitDefEqProofs [-List.map_map, -List.map_append] <;> first | exact rfl | exact ⟨rfl, rfl⟩)⟩) (by have := sizeLine_eq; rw [List.length_nil]; omega)
        rw [List.nil_append] at ec
        have ea := r_all (fun p : Str × Int => decide (p.1 ∈ names)) (terms ps)
        generalize hxs : (terms ps).map (fun p => D.bl (decide (p.1 ∈ names))) = xs at ec ea
        simp only [G.d] at ec
        simp -implicitDefEqProofs [-List.map_map, -List.map_append, G.d, ixT0, ixT1, ixT2, e1, e2, e3, es, is, ok, ei, ec, ea, G.good, hs, hn]
    · rw [decide_eq_false hn] at e3
      simp -implicitDefEqProofs [G.d, ixT0, ixT1, e1, e2, e3, G.good, hn]
/-- a list or a tuple of deeds -/
structure Seq (L : D) (gs : List G) : Prop where
  it : itemsD L = some (gs.map G.d)
  len : cLen [L] = some (.val (.int (gs.length : Int)))
theorem Seq.lst (gs : List G) : Seq (.lst (gs.map G.d)) gs := ⟨rfl, by rw [r_len_lst, List.length_map]⟩
theorem Seq.tup (gs : List G) : Seq (.tup (gs.map G.d)) gs := ⟨rfl, by rw [r_len_tup, List.length_map]⟩
def goods (names words : List Str) (gs : List G) : Bool := decide ((gs.length : Int) ≤ 12) && gs.all (G.good names words)
theorem run_is_deeds {gs : List G} (hg : ∀ g ∈ gs, GOk g) {L N W : D} {names words : List Str} (hL : Seq L gs) (hN : Mem N names) (hW : Mem W words) : F_is_deeds [.fz L, .fz N, .fz W] = .ok (.val (.bl (goods names words gs))) [.fz L, .fz N, .fz W] := by
  unfold F_is_deeds d_is_deeds
  rw [x_run]
  obtain ⟨h1, h2⟩ := hL
  by_cases h : (gs.length : Int) ≤ 12
  · have ec := comp_T (ρ := [.fz L, .fz N, .fz W, .no]) (tgt := tgName 3) (cond := eYes) (elt := e1_is_deeds) (vs := [3]) G.d (fun g => .bl (g.good names words)) gs [] (fun g hm => by
      have := run_is_deed (hg g hm) hN hW
      exact ⟨_, _, _, _, (by simp -implicitDefEqProofs [-List.map_map, -List.map_append] <;> first | exact rfl | exact ⟨rfl, rfl⟩), rfl, (by simp -implicitDefEqProofs [-List.map_map, -List.map_append, x_e1_is_deeds, this] <;> first | exact rfl | exact ⟨rfl, rfl⟩), rfl, (by simp -implicitDefEqProofs [-List.map_map, -List.map_append] <;> first | exact rfl | exact ⟨rfl, rfl⟩)⟩) (by have := sizeLine_eq; rw [List.length_nil]; omega)
    rw [List.nil_append] at ec
    have ea := r_all (G.good names words) gs
    generalize hxs : gs.map (fun g => D.bl (g.good names words)) = xs at ec ea
    simp -implicitDefEqProofs [-List.map_map, -List.map_append, h1, h2, h, ec, ea, goods]
  · simp -implicitDefEqProofs [-List.map_map, -List.map_append, h2, h, goods]
end DL

/-! K2u: k02: the runs of deeds, the law's and the program's. -/
namespace DL
open PySem PySem.Spec
section
variable {A : Type} {ρ ρ0 : Ro} {f : M Iter} {tgt : Tgt} {body : S}
/-- a loop that may return -/
theorem for_ER (enc : A → D) {xs : List A} (J : List A → Ro → Prop) (Z : R → Ro → Prop) (hf : f ρ = .ok (itVals (enumD (xs.map enc))) ρ0) (h0 : J [] ρ0)
    (hs : ∀ dn x td, xs = dn ++ x :: td → ∀ ρ, J dn ρ → Turn tgt body (.tup [.int dn.length, enc x]) ρ (J (dn ++ [x])) ∨ ∃ ρ1, tgt (.tup [.int dn.length, enc x]) ρ = some ρ1 ∧ ∃ r ρ2, body ρ1 = .ret r ρ2 ∧ Z r ρ2) :
    (∃ ρ', sFor f tgt body ρ = .nx ρ' ∧ J xs ρ') ∨ ∃ r ρ', sFor f tgt body ρ = .ret r ρ' ∧ Z r ρ' := by
  have go : ∀ (td dn : List A) (ρ : Ro), xs = dn ++ td → J dn ρ → (∃ ρ', loopF tgt body ((td.zipIdx dn.length).map fun p => D.tup [.int (p.2 : Nat), enc p.1]) ρ = .nx ρ' ∧ J xs ρ') ∨ ∃ r ρ', loopF tgt body ((td.zipIdx dn.length).map fun p => D.tup [.int (p.2 : Nat), enc p.1]) ρ = .ret r ρ' ∧ Z r ρ' := by
    intro td
    induction td with
    | nil => exact fun dn ρ e j => .inl ⟨ρ, rfl, by rw [List.append_nil] at e; rw [e]; exact j⟩
    | cons x td ih =>
      intro dn ρ e j
      rcases hs dn x td e ρ j with ⟨ρ1, h1, ρ2, h2, j2⟩ | ⟨ρ1, h1, r, ρ2, h2, z⟩
      · have ih := ih (dn ++ [x]) ρ2 (by rw [e, List.append_assoc]; rfl) j2
        rw [List.length_append, List.length_singleton] at ih
        have e2 : loopF tgt body (((x :: td).zipIdx dn.length).map fun p => D.tup [.int (p.2 : Nat), enc p.1]) ρ = loopF tgt body ((td.zipIdx (dn.length + 1)).map fun p => D.tup [.int (p.2 : Nat), enc p.1]) ρ2 := by
          rw [List.zipIdx_cons, List.map_cons, loop_cons, h1, goK_s]
          rcases h2 with h2 | h2
          · rw [h2, lo_nx]
          · rw [h2, lo_cnt]
        rw [e2]; exact ih
      · refine .inr ⟨r, ρ2, ?_, z⟩
        rw [List.zipIdx_cons, List.map_cons, loop_cons, h1, goK_s, h2, lo_ret]
  have e1 : sFor f tgt body ρ = loopF tgt body ((xs.zipIdx 0).map fun p => D.tup [.int (p.2 : Nat), enc p.1]) ρ0 := by
    rw [x_for, hf, andS_ok, x_forV]
    exact congrArg (fun z => loopF tgt body z ρ0) (enum_map enc xs 0)
  rw [e1]
  exact go xs [] ρ0 rfl h0
end
theorem er_seqR {a ρ ρ' : Ro} {s t : S} {P : R → Ro → Prop} {r : R} (h : s ρ = .ret r ρ') (k : EndsR a P (.ret r ρ')) : EndsR a P (sSeq s t ρ) := by
  unfold EndsR; rw [x_seq, h, oand_ret]; exact k
/-! ### what a run is -/
def rgOf (rs : List Rg) (n : Str) : Rg := (rs.find? fun r => decide (r.n = n)).getD ⟨n, 0, 0⟩
theorem rgOf_mem {rs : List Rg} {r : Rg} (nd : (rs.map Rg.n).Nodup) (h : r ∈ rs) : rgOf rs r.n = r := by
  unfold rgOf
  cases e : rs.find? fun q => decide (q.n = r.n) with
  | none =>
    have := List.find?_eq_none.mp e r h
    simp at this
  | some q =>
    have h1 := List.mem_of_find?_eq_some e
    have h2 := List.find?_some e
    exact one_name nd h h1 (of_decide_eq_true h2)
def go (rs : List Rg) : List Dd → Nat → Kn → List Str → Kn × List Str × Option (Nat × Int)
  | [], _, kn, ws => (kn, ws, none)
  | .tell w :: r, i, kn, ws => go rs r (i + 1) kn (ws ++ [w])
  | .put n c ps :: r, i, kn, ws =>
    if (rgOf rs n).lo ≤ c + dotS (gt kn) ps ∧ c + dotS (gt kn) ps ≤ (rgOf rs n).hi then go rs r (i + 1) (upd kn n (c + dotS (gt kn) ps)) ws else (kn, ws, some (i, c + dotS (gt kn) ps))
def resD (rs : List Rg) (vs : List Int) : Kn × List Str × Option (Nat × Int) → D
  | (kn, ws, none) => .tup [.tup (rs.map fun r => .int (gt kn r.n)), .tup (ws.map .str), .non]
  | (_, _, some (i, v)) => .tup [.tup (vs.map .int), .tup [], .tup [.int i, .int v]]
def DdW (rs : List Rg) : Dd → Prop
  | .tell w => Asc 9 w
  | .put n c ps => (∃ r ∈ rs, r.n = n) ∧ PsOk rs ps ∧ ps.length ≤ 2 ∧ -1000000000 ≤ c ∧ c ≤ 1000000000
theorem psok_keys {rs : List Rg} {kn : Kn} (k : KnOk rs kn) {ps : List (Str × Int)} (h : PsOk rs ps) : ∀ p ∈ ps, p.1 ∈ kn.map Prod.fst := fun p hp => by
  obtain ⟨⟨r, hr, e⟩, _⟩ := h p hp
  rw [← e]; exact k.mem hr
theorem PsOk.L {rs : List Rg} (R : RsOk rs) {ps : List (Str × Int)} (h : PsOk rs ps) (hl : ps.length ≤ 2) : PsL ps := ⟨fun p hp => by
  obtain ⟨⟨r, hr, e⟩, h1, h2⟩ := h p hp
  exact ⟨e ▸ (R.ok r hr).ln, by omega⟩, by omega⟩
theorem KnOk.nd {rs : List Rg} {kn : Kn} (k : KnOk rs kn) (R : RsOk rs) : (kn.map Prod.fst).Nodup := by rw [k.keys]; exact R.nd
theorem ok_deeds : PyData.strOk "tell" = true ∧ PyData.strOk "set" = true ∧ (("set" : Str) == "tell") = false := by decide +kernel
theorem eq_tell : opEq (.str "tell") (.str "tell") = some (.val (.bl true)) := by
  have := r_eqS ok_tell ok_tell
  rw [beq_self_eq_true] at this; exact this
theorem eq_settell : opEq (.str "set") (.str "tell") = some (.val (.bl false)) := by
  have := r_eqS ok_set ok_tell
  rw [set_tell] at this; exact this
theorem run_sum_of {rs : List Rg} (R : RsOk rs) {kn : Kn} (K : KnOk rs kn) {n : Str} {c : Int} {ps : List (Str × Int)} (hp : PsOk rs ps) (hl : ps.length ≤ 2) :
    F__law_sum_of [.fz (Dd.put n c ps).d, .ow true (.dct (kvD kn))] = .ok (.val (.int (c + dotS (gt kn) ps))) [.fz (Dd.put n c ps).d, .ow true (.dct (kvD kn))] := by
  unfold F__law_sum_of d__law_sum_of
  rw [x_run]
  have ec := sum_comp (rs := rs) (kn := kn) (ps := ps) (ρ := [.fz (Dd.put n c ps).d, .ow true (.dct (kvD kn)), .no]) (tgt := tgName 2) (elt := e1__law_sum_of) (vs := [2]) (by omega) (fun p hp' => ⟨_, _, _, _, (by simp -implicitDefEqProofs [-List.map_map, -List.map_append] <;> first | exact rfl | exact ⟨rfl, rfl⟩ | exact ⟨rfl, rfl, rfl⟩ | exact ⟨rfl, rfl, rfl, rfl⟩), rfl, by
    obtain ⟨p1, p2⟩ := prod_run K R (hp p hp')
    simp -implicitDefEqProofs [x_e1__law_sum_of, prD, ixT0, ixT1, p1, p2]
    first | exact rfl | exact ⟨rfl, rfl⟩, rfl, by simp -implicitDefEqProofs⟩)
  have es := r_sum (ps.map fun p => p.2 * gt kn p.1)
  simp only [Dd.d] at ec ⊢
  simp -implicitDefEqProofs [-List.map_map, -List.map_append, ixT2, ixT3, ec, es, dotS]
theorem append_cut {A : Type} {xs dn td : List A} {x : A} (e : xs = dn ++ x :: td) : xs.drop dn.length = x :: td ∧ xs.drop (dn ++ [x]).length = td := by
  subst e
  rw [List.length_append, List.length_singleton]
  constructor
  · rw [List.drop_left]
  · rw [List.drop_append]; simp
theorem rg_vals (rs : List Rg) (kn : Kn) {ρ : Ro} {tgt : Tgt} {elt : M R} {vs : List Nat} (hl : rs.length ≤ 100000) (h : ∀ r ∈ rs, Item tgt eYes elt vs r.d ρ (.int (gt kn r.n)) ρ) : compN tgt eYes elt vs (rs.map Rg.d) [] ρ = .ok (rs.map fun r => .int (gt kn r.n)) ρ := by
  rw [comp_T Rg.d (fun r => .int (gt kn r.n)) rs [] h (by have := sizeLine_eq; rw [List.length_nil]; omega)]; rfl
theorem dK_snoc {A : Type} {key : A → Str} {val : A → D} {xs : List A} {x : A} (h : ∀ y ∈ xs, key y ≠ key x) : putD (dK key val xs) (.inr (key x)) (val x) = dK key val (xs ++ [x]) := by
  rw [putD_new h]
  unfold dK
  rw [List.map_append]; rfl
theorem run_law_run {rs : List Rg} (R : RsOk rs) {vs : List Int} (hv : InR rs vs) {pl : List Dd} (hp : ∀ d ∈ pl, DdOk rs d) (hpl : pl.length ≤ 20) :
    F__law_run [.fz (.lst (pl.map Dd.d)), .fz (.lst (rs.map Rg.d)), .fz (.lst (vs.map .int))] = .ok (.val (resD rs vs (go rs pl 0 (kz rs vs) []))) [.fz (.lst (pl.map Dd.d)), .fz (.lst (rs.map Rg.d)), .fz (.lst (vs.map .int))] := by
  suffices q : Gives (fun v a => v = .val (resD rs vs (go rs pl 0 (kz rs vs) [])) ∧ a = [.fz (.lst (pl.map Dd.d)), .fz (.lst (rs.map Rg.d)), .fz (.lst (vs.map .int))]) (F__law_run [.fz (.lst (pl.map Dd.d)), .fz (.lst (rs.map Rg.d)), .fz (.lst (vs.map .int))]) by
    obtain ⟨_, _, e, rfl, rfl⟩ := q
    exact e
  have R3 := R.len
  refine er_run ?_
  unfold d__law_run
  refine er_seq (by simp -implicitDefEqProofs [-List.map_map, -List.map_append] <;> first | exact rfl | exact ⟨rfl, rfl⟩ | exact ⟨rfl, rfl, rfl⟩ | exact ⟨rfl, rfl, rfl, rfl⟩) ?_
  refine er_seq (by simp -implicitDefEqProofs [-List.map_map, -List.map_append] <;> first | exact rfl | exact ⟨rfl, rfl⟩ | exact ⟨rfl, rfl, rfl⟩ | exact ⟨rfl, rfl, rfl, rfl⟩) ?_
  refine er_out (for_E Rg.d (xs := rs) (fun dn ρ => ∃ (j5 j6 : Option D), ρ = [.fz (.lst (pl.map Dd.d)), .fz (.lst (rs.map Rg.d)), .fz (.lst (vs.map .int)), .ow false (.dct (kvD (kz dn vs))), .ow false (.dct (dK Rg.n Rg.d dn)), jk j5, jk j6, .no, .no, .no, .no]) (by simp -implicitDefEqProofs [-List.map_map, -List.map_append] <;> first | exact rfl | exact ⟨rfl, rfl⟩ | exact ⟨rfl, rfl, rfl⟩ | exact ⟨rfl, rfl, rfl, rfl⟩) ⟨none, none, rfl⟩ ?_) ?_
  · rintro dn r td e ρ ⟨j5, j6, rfl⟩
    obtain ⟨v, gv, _⟩ := hv.get (i := dn.length) (r := r) (by rw [e]; simp)
    have hd : dn.length < rs.length := by have := congrArg List.length e; simp at this; omega
    obtain ⟨v', _, ev, gv'⟩ := ixL (enc := D.int) (xs := vs) (i := (dn.length : Int)) (by omega) (by rw [hv.len]; omega)
    have : v' = v := by rw [Int.toNat_natCast, gv] at gv'; exact (Option.some.inj gv').symm
    subst this
    have st := set_kv (kvs := kvD (kz dn vs)) (n := r.n) (d := .int v') (Nat.le_trans kz_len (by omega))
    rw [kz_put e R.nd gv] at st
    have st2 := set_kv (kvs := dK Rg.n Rg.d dn) (n := r.n) (d := r.d) (by rw [len_dK]; omega)
    rw [dK_snoc (nodup_cut e R.nd)] at st2
    simp only [Rg.d] at st2
    exact .nx (by simp -implicitDefEqProofs [-List.map_map, -List.map_append] <;> first | exact rfl | exact ⟨rfl, rfl⟩ | exact ⟨rfl, rfl, rfl⟩ | exact ⟨rfl, rfl, rfl, rfl⟩) (by simp -implicitDefEqProofs [-List.map_map, -List.map_append, x_b1__law_run, ev, Rg.d, ixT0, st, st2] <;> first | exact rfl | exact ⟨rfl, rfl⟩ | exact ⟨rfl, rfl, rfl⟩ | exact ⟨rfl, rfl, rfl, rfl⟩) ⟨some (.int dn.length), some r.d, rfl⟩
  rintro ρ ⟨j5, j6, rfl⟩
  have K0 := KnOk.init R hv
  refine er_seq (by simp -implicitDefEqProofs [-List.map_map, -List.map_append, lst0] <;> first | exact rfl | exact ⟨rfl, rfl⟩ | exact ⟨rfl, rfl, rfl⟩ | exact ⟨rfl, rfl, rfl, rfl⟩) ?_
  rcases for_ER (f := itEnum (itN 0)) (tgt := tgTup 2 (tgCons (tgName 8) (tgCons (tgName 9) tgNil))) (body := b2__law_run) (ρ := [.fz (.lst (pl.map Dd.d)), .fz (.lst (rs.map Rg.d)), .fz (.lst (vs.map .int)), .ow false (.dct (kvD (kz rs vs))), .ow false (.dct (dK Rg.n Rg.d rs)), jk j5, jk j6, .ow false (.lst []), .no, .no, .no]) Dd.d (xs := pl)
    (fun dn ρ => ∃ (kn : Kn) (ws : List Str) (j8 j9 j10 : Option D), KnOk rs kn ∧ ws.length ≤ dn.length ∧ go rs pl 0 (kz rs vs) [] = go rs (pl.drop dn.length) dn.length kn ws ∧ ρ = [.fz (.lst (pl.map Dd.d)), .fz (.lst (rs.map Rg.d)), .fz (.lst (vs.map .int)), .ow false (.dct (kvD kn)), .ow false (.dct (dK Rg.n Rg.d rs)), jk j5, jk j6, .ow false (.lst (ws.map .str)), jk j8, jk j9, jk j10])
    (fun r ρ => r = .val (resD rs vs (go rs pl 0 (kz rs vs) [])) ∧ ∃ x, ρ = [.fz (.lst (pl.map Dd.d)), .fz (.lst (rs.map Rg.d)), .fz (.lst (vs.map .int))] ++ x)
    (by simp -implicitDefEqProofs [-List.map_map, -List.map_append] <;> first | exact rfl | exact ⟨rfl, rfl⟩ | exact ⟨rfl, rfl, rfl⟩ | exact ⟨rfl, rfl, rfl, rfl⟩) ⟨_, [], none, none, none, K0, Nat.le_refl _, rfl, rfl⟩ (by
      rintro dn d td e ρ ⟨kn, ws, j8, j9, j10, K, hwl, eg, rfl⟩
      obtain ⟨c1, c2⟩ := append_cut e
      have hd : dn.length < 20 := by have := congrArg List.length e; simp at this; omega
      have hdd := hp d (by rw [e]; simp)
      rw [c1] at eg
      cases d with
      | tell w =>
        have app := appM (enc := D.str) (xs := ws) (x := w) (by omega)
        refine .inl (.ct (ρ2 := [.fz (.lst (pl.map Dd.d)), .fz (.lst (rs.map Rg.d)), .fz (.lst (vs.map .int)), .ow false (.dct (kvD kn)), .ow false (.dct (dK Rg.n Rg.d rs)), jk j5, jk j6, .ow false (.lst ((ws ++ [w]).map .str)), .fz (.int dn.length), .fz (Dd.tell w).d, jk j10]) (by simp -implicitDefEqProofs [-List.map_map, -List.map_append] <;> first | exact rfl | exact ⟨rfl, rfl⟩ | exact ⟨rfl, rfl, rfl⟩ | exact ⟨rfl, rfl, rfl, rfl⟩) ?_ ⟨kn, ws ++ [w], some _, some _, j10, K, by simp; omega, ?_, rfl⟩)
        · simp -implicitDefEqProofs [-List.map_map, -List.map_append, x_b2__law_run, Dd.d, ixT0, ixT1, eq_tell, app]
        · rw [c2, eg]; simp [go]
      | put n c ps =>
        obtain ⟨⟨r, hr, rfl⟩, hps, hl2, hc1, hc2⟩ := hdd
        have es := run_sum_of R K (n := r.n) (c := c) hps hl2
        have ei : opIx (.dct (dK Rg.n Rg.d rs)) (.str r.n) = some (.val r.d) := ix_dK hr R.nd
        have hrg := rgOf_mem R.nd hr
        generalize hv : c + dotS (gt kn) ps = v at es
        by_cases hin : r.lo ≤ v ∧ v ≤ r.hi
        · have st := set_kv (kvs := kvD kn) (n := r.n) (d := .int v) (by rw [kvD_len]; have := congrArg List.length K.keys; simp at this; omega)
          rw [kv_put (K.mem hr)] at st
          refine .inl (.nx (ρ2 := [.fz (.lst (pl.map Dd.d)), .fz (.lst (rs.map Rg.d)), .fz (.lst (vs.map .int)), .ow false (.dct (kvD (upd kn r.n v))), .ow false (.dct (dK Rg.n Rg.d rs)), jk j5, jk j6, .ow false (.lst (ws.map .str)), .fz (.int dn.length), .fz (Dd.put r.n c ps).d, .fz (.int v)]) (by simp -implicitDefEqProofs [-List.map_map, -List.map_append] <;> first | exact rfl | exact ⟨rfl, rfl⟩ | exact ⟨rfl, rfl, rfl⟩ | exact ⟨rfl, rfl, rfl, rfl⟩) ?_ ⟨upd kn r.n v, ws, some _, some _, some _, K.upd R hr hin.1 hin.2, by simp; omega, ?_, rfl⟩)
          · simp only [Dd.d] at es
            simp -implicitDefEqProofs [-List.map_map, -List.map_append, x_b2__law_run, Dd.d, ixT0, ixT1, ixT2, eq_settell, es, ei, Rg.d, hin.1, hin.2, st]
          · rw [c2, eg]
            simp [go, hrg, hv, hin.1, hin.2]
        · refine .inr ⟨[.fz (.lst (pl.map Dd.d)), .fz (.lst (rs.map Rg.d)), .fz (.lst (vs.map .int)), .ow false (.dct (kvD kn)), .ow false (.dct (dK Rg.n Rg.d rs)), jk j5, jk j6, .ow false (.lst (ws.map .str)), .fz (.int dn.length), .fz (Dd.put r.n c ps).d, jk j10], (by simp -implicitDefEqProofs [-List.map_map, -List.map_append] <;> first | exact rfl | exact ⟨rfl, rfl⟩ | exact ⟨rfl, rfl, rfl⟩ | exact ⟨rfl, rfl, rfl, rfl⟩), .val (resD rs vs (go rs pl 0 (kz rs vs) [])), [.fz (.lst (pl.map Dd.d)), .fz (.lst (rs.map Rg.d)), .fz (.lst (vs.map .int)), .ow false (.dct (kvD kn)), .ow false (.dct (dK Rg.n Rg.d rs)), jk j5, jk j6, .ow false (.lst (ws.map .str)), .fz (.int dn.length), .fz (Dd.put r.n c ps).d, .fz (.int v)], ?_, rfl, ⟨_, rfl⟩⟩
          have eg2 : go rs pl 0 (kz rs vs) [] = (kn, ws, some (dn.length, v)) := by
            rw [eg]
            show (if _ then _ else _) = _
            rw [hrg, hv, if_neg hin]
          rw [eg2]
          simp only [Dd.d] at es
          by_cases h1 : r.lo ≤ v
          · have h2 : ¬ v ≤ r.hi := fun q => hin ⟨h1, q⟩
            simp -implicitDefEqProofs [-List.map_map, -List.map_append, x_b2__law_run, Dd.d, ixT0, ixT1, ixT2, eq_settell, es, ei, Rg.d, h1, h2, tup0, tup2, tup3, resD]
          · simp -implicitDefEqProofs [-List.map_map, -List.map_append, x_b2__law_run, Dd.d, ixT0, ixT1, ixT2, eq_settell, es, ei, Rg.d, h1, tup0, tup2, tup3, resD]) with ⟨ρ', e, h⟩ | ⟨r, ρ', e, rfl, x, rfl⟩
  · obtain ⟨kn, ws, j8, j9, j10, K, hwl, eg, rfl⟩ := h
    refine er_seq e ?_
    rw [List.drop_length] at eg
    have ec := fun (s0 s1 s2 s4 s5 s7 s8 s9 s10 : Sl) => rg_vals rs kn (ρ := [s0, s1, s2, .ow false (.dct (kvD kn)), s4, s5, .no, s7, s8, s9, s10]) (tgt := tgName 6) (elt := e3__law_run) (vs := [6]) (by omega) (fun r hr => ⟨_, _, _, _, (by simp -implicitDefEqProofs [-List.map_map, -List.map_append] <;> first | exact rfl | exact ⟨rfl, rfl⟩ | exact ⟨rfl, rfl, rfl⟩ | exact ⟨rfl, rfl, rfl, rfl⟩), rfl, by
      have := ix_kv (K.mem hr) (K.nd R)
      simp -implicitDefEqProofs [x_e3__law_run, Rg.d, ixT0, this]
      first | exact rfl | exact ⟨rfl, rfl⟩, rfl, by simp -implicitDefEqProofs⟩)
    rw [eg]
    exact er_end (by simp -implicitDefEqProofs [-List.map_map, -List.map_append, ec, tup3] <;> first | exact rfl | exact ⟨rfl, rfl⟩ | exact ⟨rfl, rfl, rfl⟩ | exact ⟨rfl, rfl, rfl, rfl⟩) ⟨rfl, rfl⟩
  · refine er_seqR e ?_
    exact er_end (by simp -implicitDefEqProofs [-List.map_map, -List.map_append] <;> first | exact rfl | exact ⟨rfl, rfl⟩ | exact ⟨rfl, rfl, rfl⟩ | exact ⟨rfl, rfl, rfl, rfl⟩) ⟨rfl, rfl⟩
end DL

/-! K2v: k02: run_deeds. -/
namespace DL
open PySem PySem.Spec
def Dd.g : Dd → G
  | .tell w => .tell w
  | .put n c ps => .put n c ps
def sq (b : Bool) (ds : List D) : D := if b then .tup ds else .lst ds
theorem items_sq {b : Bool} {ds : List D} : itemsD (sq b ds) = some ds := by cases b <;> rfl
theorem vals_sq {b : Bool} {ds : List D} : cTuple [sq b ds] = some (.val (.tup ds)) := by cases b <;> rfl
theorem zip_sq {b : Bool} {ds es : List D} {ρ : Ro} : zipK [.val (sq b ds), .val (sq b es)] ρ = .ok (itVals (zipD ds es)) ρ := by cases b <;> rfl
def zvD (p : Rg × Int) : D := .tup [p.1.d, .int p.2]
theorem zip_map : ∀ (rs : List Rg) (vs : List Int), zipD (rs.map Rg.d) (vs.map .int) = (rs.zip vs).map zvD
  | [], _ => rfl
  | _ :: _, [] => rfl
  | r :: rs, v :: vs => by
    show D.tup [r.d, .int v] :: zipD (rs.map Rg.d) (vs.map .int) = zvD (r, v) :: (rs.zip vs).map zvD
    rw [zip_map rs vs]; rfl
theorem zip_fst : ∀ {rs : List Rg} {vs : List Int}, vs.length = rs.length → (rs.zip vs).map Prod.fst = rs
  | [], _, _ => rfl
  | r :: rs, [], h => by simp at h
  | r :: rs, v :: vs, h => by
    show r :: (rs.zip vs).map Prod.fst = _
    rw [zip_fst (by simpa using h)]
theorem zip_kz (rs : List Rg) (vs : List Int) : (rs.zip vs).map (fun p => (p.1.n, p.2)) = kz rs vs := by
  unfold kz
  rw [List.zip_map_left]; rfl
def bD (r : Rg) : D := .tup [.int r.lo, .int r.hi]
theorem run_run_deeds {rs : List Rg} (R : RsOk rs) {vs : List Int} (hv : InR rs vs) {pl : List Dd} (hp : ∀ d ∈ pl, DdOk rs d) (hpl : pl.length ≤ 20) (b b' : Bool) :
    F_run_deeds [.fz (sq b' (pl.map fun d => d.g.d)), .fz (sq b (rs.map Rg.d)), .fz (sq b (vs.map .int))] = .ok (.val (resD rs vs (go rs pl 0 (kz rs vs) []))) [.fz (sq b' (pl.map fun d => d.g.d)), .fz (sq b (rs.map Rg.d)), .fz (sq b (vs.map .int))] := by
  generalize hDL : sq b' (pl.map fun d => d.g.d) = DL
  generalize hRL : sq b (rs.map Rg.d) = RL
  generalize hVL : sq b (vs.map D.int) = VL
  have iD : itemsD DL = some (pl.map fun d => d.g.d) := hDL ▸ items_sq
  have iR : itemsD RL = some (rs.map Rg.d) := hRL ▸ items_sq
  have tV : cTuple [VL] = some (.val (.tup (vs.map .int))) := hVL ▸ vals_sq
  have zz : ∀ ρ, zipK [.val RL, .val VL] ρ = .ok (itVals ((rs.zip vs).map zvD)) ρ := fun ρ => by rw [← hRL, ← hVL, zip_sq, zip_map]
  clear hDL hRL hVL
  suffices q : Gives (fun v a => v = .val (resD rs vs (go rs pl 0 (kz rs vs) [])) ∧ a = [.fz DL, .fz RL, .fz VL]) (F_run_deeds [.fz DL, .fz RL, .fz VL]) by
    obtain ⟨_, _, e, rfl, rfl⟩ := q
    exact e
  have R3 := R.len
  refine er_run ?_
  unfold d_run_deeds
  refine er_seq (by simp -implicitDefEqProofs [-List.map_map, -List.map_append] <;> first | exact rfl | exact ⟨rfl, rfl⟩ | exact ⟨rfl, rfl, rfl⟩ | exact ⟨rfl, rfl, rfl, rfl⟩) ?_
  refine er_seq (by simp -implicitDefEqProofs [-List.map_map, -List.map_append] <;> first | exact rfl | exact ⟨rfl, rfl⟩ | exact ⟨rfl, rfl, rfl⟩ | exact ⟨rfl, rfl, rfl, rfl⟩) ?_
  refine er_out (for_T zvD (xs := rs.zip vs) (fun dn ρ => ∃ (j5 j6 j7 j8 : Option D), ρ = [.fz DL, .fz RL, .fz VL, .ow false (.dct (kvD (dn.map fun p => (p.1.n, p.2)))), .ow false (.dct (dK Rg.n bD (dn.map Prod.fst))), jk j5, jk j6, jk j7, jk j8, .no, .no, .no]) (by simp -implicitDefEqProofs [-List.map_map, -List.map_append, zz] <;> first | exact rfl | exact ⟨rfl, rfl⟩ | exact ⟨rfl, rfl, rfl⟩ | exact ⟨rfl, rfl, rfl, rfl⟩) ⟨none, none, none, none, rfl⟩ ?_) ?_
  · rintro dn ⟨r, v⟩ td e ρ ⟨j5, j6, j7, j8, rfl⟩
    have hz := zip_fst hv.len
    have hd : dn.length < 3 := by
      have h1 := congrArg List.length e
      have h2 := congrArg List.length hz
      rw [List.length_append, List.length_cons] at h1
      rw [List.length_map] at h2
      omega
    have e2 : rs = dn.map Prod.fst ++ r :: td.map Prod.fst := by rw [← hz, e, List.map_append]; rfl
    have hno : ∀ y ∈ dn.map Prod.fst, y.n ≠ r.n := nodup_cut e2 R.nd
    have st := set_kv (kvs := kvD (dn.map fun p => (p.1.n, p.2))) (n := r.n) (d := .int v) (by rw [kvD_len, List.length_map]; omega)
    have p1 : putD (kvD (dn.map fun p => (p.1.n, p.2))) (.inr r.n) (.int v) = kvD ((dn ++ [(r, v)]).map fun p => (p.1.n, p.2)) := by
      unfold kvD
      rw [putD_new (fun q hq q2 => by
        obtain ⟨p, hp, rfl⟩ := List.mem_map.mp hq
        exact hno p.1 (List.mem_map.mpr ⟨p, hp, rfl⟩) q2), List.map_append]
      unfold dK
      rw [List.map_append]; rfl
    rw [p1] at st
    have st2 := set_kv (kvs := dK Rg.n bD (dn.map Prod.fst)) (n := r.n) (d := bD r) (by rw [len_dK, List.length_map]; omega)
    have p2 : putD (dK Rg.n bD (dn.map Prod.fst)) (.inr r.n) (bD r) = dK Rg.n bD ((dn ++ [(r, v)]).map Prod.fst) := by
      rw [dK_snoc hno, List.map_append]; rfl
    rw [p2] at st2
    simp only [bD] at st2
    exact .nx (by simp -implicitDefEqProofs [-List.map_map, -List.map_append, zvD, Rg.d] <;> first | exact rfl | exact ⟨rfl, rfl⟩ | exact ⟨rfl, rfl, rfl⟩ | exact ⟨rfl, rfl, rfl, rfl⟩) (by simp -implicitDefEqProofs [-List.map_map, -List.map_append, x_b1_run_deeds, st, st2, tup2] <;> first | exact rfl | exact ⟨rfl, rfl⟩ | exact ⟨rfl, rfl, rfl⟩ | exact ⟨rfl, rfl, rfl, rfl⟩) ⟨some (.str r.n), some (.int r.lo), some (.int r.hi), some (.int v), rfl⟩
  rintro ρ ⟨j5, j6, j7, j8, rfl⟩
  rw [zip_kz, zip_fst hv.len]
  have K0 := KnOk.init R hv
  refine er_seq (by simp -implicitDefEqProofs [-List.map_map, -List.map_append, lst0] <;> first | exact rfl | exact ⟨rfl, rfl⟩ | exact ⟨rfl, rfl, rfl⟩ | exact ⟨rfl, rfl, rfl, rfl⟩) ?_
  rcases for_ER (f := itEnum (itN 0)) (tgt := tgTup 2 (tgCons (tgName 10) (tgCons (tgName 11) tgNil))) (body := b2_run_deeds) (ρ := [.fz DL, .fz RL, .fz VL, .ow false (.dct (kvD (kz rs vs))), .ow false (.dct (dK Rg.n bD rs)), jk j5, jk j6, jk j7, jk j8, .ow false (.lst []), .no, .no]) (fun d : Dd => d.g.d) (xs := pl)
    (fun dn ρ => ∃ (kn : Kn) (ws : List Str) (j6 j7 j8 j10 j11 : Option D), KnOk rs kn ∧ ws.length ≤ dn.length ∧ go rs pl 0 (kz rs vs) [] = go rs (pl.drop dn.length) dn.length kn ws ∧ ρ = [.fz DL, .fz RL, .fz VL, .ow false (.dct (kvD kn)), .ow false (.dct (dK Rg.n bD rs)), jk j5, jk j6, jk j7, jk j8, .ow false (.lst (ws.map .str)), jk j10, jk j11])
    (fun r ρ => r = .val (resD rs vs (go rs pl 0 (kz rs vs) [])) ∧ ∃ x, ρ = [.fz DL, .fz RL, .fz VL] ++ x)
    (by simp -implicitDefEqProofs [-List.map_map, -List.map_append, iD] <;> first | exact rfl | exact ⟨rfl, rfl⟩ | exact ⟨rfl, rfl, rfl⟩ | exact ⟨rfl, rfl, rfl, rfl⟩) ⟨_, [], j6, j7, j8, none, none, K0, Nat.le_refl _, rfl, rfl⟩ (by
      rintro dn d td e ρ ⟨kn, ws, j6, j7, j8, j10, j11, K, hwl, eg, rfl⟩
      obtain ⟨c1, c2⟩ := append_cut e
      have hd : dn.length < 20 := by have := congrArg List.length e; simp at this; omega
      have hdd := hp d (by rw [e]; simp)
      rw [c1] at eg
      cases d with
      | tell w =>
        have app := appM (enc := D.str) (xs := ws) (x := w) (by omega)
        refine .inl (.nx (ρ2 := [.fz DL, .fz RL, .fz VL, .ow false (.dct (kvD kn)), .ow false (.dct (dK Rg.n bD rs)), jk j5, jk j6, jk j7, jk j8, .ow false (.lst ((ws ++ [w]).map .str)), .fz (.int dn.length), .fz (G.tell w).d]) (by simp -implicitDefEqProofs [-List.map_map, -List.map_append] <;> first | exact rfl | exact ⟨rfl, rfl⟩ | exact ⟨rfl, rfl, rfl⟩ | exact ⟨rfl, rfl, rfl, rfl⟩) ?_ ⟨kn, ws ++ [w], j6, j7, j8, some _, some _, K, by simp; omega, ?_, rfl⟩)
        · simp -implicitDefEqProofs [-List.map_map, -List.map_append, x_b2_run_deeds, Dd.g, G.d, ixT0, ixT1, eq_tell, app]
        · rw [c2, eg]; simp [go]
      | put n c ps =>
        obtain ⟨⟨r, hr, rfl⟩, hps, hl2, hc1, hc2⟩ := hdd
        have es := run_value (c := c) (hps.L R hl2) (psok_keys K hps) (K.nd R)
        have ok := insOk_sum (c := c) (ps := ps) (m := "value") (by decide +kernel) (by decide +kernel)
        have ei : opIx (.dct (dK Rg.n bD rs)) (.str r.n) = some (.val (bD r)) := ix_dK hr R.nd
        have hrg := rgOf_mem R.nd hr
        generalize hv : c + dotS (gt kn) ps = v at es
        by_cases hin : r.lo ≤ v ∧ v ≤ r.hi
        · have st := set_kv (kvs := kvD kn) (n := r.n) (d := .int v) (by rw [kvD_len]; have := congrArg List.length K.keys; simp at this; omega)
          rw [kv_put (K.mem hr)] at st
          refine .inl (.nx (ρ2 := [.fz DL, .fz RL, .fz VL, .ow false (.dct (kvD (upd kn r.n v))), .ow false (.dct (dK Rg.n bD rs)), jk j5, .fz (.int r.lo), .fz (.int r.hi), .fz (.int v), .ow false (.lst (ws.map .str)), .fz (.int dn.length), .fz (G.put r.n c ps).d]) (by simp -implicitDefEqProofs [-List.map_map, -List.map_append] <;> first | exact rfl | exact ⟨rfl, rfl⟩ | exact ⟨rfl, rfl, rfl⟩ | exact ⟨rfl, rfl, rfl, rfl⟩) ?_ ⟨upd kn r.n v, ws, some _, some _, some _, some _, some _, K.upd R hr hin.1 hin.2, by simp; omega, ?_, rfl⟩)
          · simp -implicitDefEqProofs [-List.map_map, -List.map_append, x_b2_run_deeds, Dd.g, G.d, ixT0, ixT1, ixT2, eq_settell, es, ok, ei, bD, hin.1, hin.2, st]
          · rw [c2, eg]
            simp [go, hrg, hv, hin.1, hin.2]
        · refine .inr ⟨[.fz DL, .fz RL, .fz VL, .ow false (.dct (kvD kn)), .ow false (.dct (dK Rg.n bD rs)), jk j5, jk j6, jk j7, jk j8, .ow false (.lst (ws.map .str)), .fz (.int dn.length), .fz (G.put r.n c ps).d], (by simp -implicitDefEqProofs [-List.map_map, -List.map_append, Dd.g] <;> first | exact rfl | exact ⟨rfl, rfl⟩ | exact ⟨rfl, rfl, rfl⟩ | exact ⟨rfl, rfl, rfl, rfl⟩), .val (resD rs vs (go rs pl 0 (kz rs vs) [])), [.fz DL, .fz RL, .fz VL, .ow false (.dct (kvD kn)), .ow false (.dct (dK Rg.n bD rs)), jk j5, .fz (.int r.lo), .fz (.int r.hi), .fz (.int v), .ow false (.lst (ws.map .str)), .fz (.int dn.length), .fz (G.put r.n c ps).d], ?_, rfl, ⟨_, rfl⟩⟩
          have eg2 : go rs pl 0 (kz rs vs) [] = (kn, ws, some (dn.length, v)) := by
            rw [eg]
            show (if _ then _ else _) = _
            rw [hrg, hv, if_neg hin]
          rw [eg2]
          by_cases h1 : r.lo ≤ v
          · have h2 : ¬ v ≤ r.hi := fun q => hin ⟨h1, q⟩
            simp -implicitDefEqProofs [-List.map_map, -List.map_append, x_b2_run_deeds, G.d, ixT0, ixT1, ixT2, eq_settell, es, ok, ei, bD, h1, h2, tV, tup0, tup2, tup3, resD]
          · simp -implicitDefEqProofs [-List.map_map, -List.map_append, x_b2_run_deeds, G.d, ixT0, ixT1, ixT2, eq_settell, es, ok, ei, bD, h1, tV, tup0, tup2, tup3, resD]) with ⟨ρ', e, h⟩ | ⟨r, ρ', e, rfl, x, rfl⟩
  · obtain ⟨kn, ws, j6, j7, j8, j10, j11, K, hwl, eg, rfl⟩ := h
    refine er_seq e ?_
    rw [List.drop_length] at eg
    have ec := fun (s0 s1 s2 s4 s8 s9 s10 s11 : Sl) => rg_vals rs kn (ρ := [s0, s1, s2, .ow false (.dct (kvD kn)), s4, .no, .no, .no, s8, s9, s10, s11]) (tgt := tgTup 3 (tgCons (tgName 5) (tgCons (tgName 6) (tgCons (tgName 7) tgNil)))) (elt := e3_run_deeds) (vs := [5, 6, 7]) (by omega) (fun r hr => ⟨_, _, _, _, (by simp -implicitDefEqProofs [-List.map_map, -List.map_append, Rg.d] <;> first | exact rfl | exact ⟨rfl, rfl⟩ | exact ⟨rfl, rfl, rfl⟩ | exact ⟨rfl, rfl, rfl, rfl⟩), rfl, by
      have := ix_kv (K.mem hr) (K.nd R)
      simp -implicitDefEqProofs [x_e3_run_deeds, this]
      first | exact rfl | exact ⟨rfl, rfl⟩, rfl, by simp -implicitDefEqProofs⟩)
    rw [eg]
    exact er_end (by simp -implicitDefEqProofs [-List.map_map, -List.map_append, iR, ec, tup3] <;> first | exact rfl | exact ⟨rfl, rfl⟩ | exact ⟨rfl, rfl, rfl⟩ | exact ⟨rfl, rfl, rfl, rfl⟩) ⟨rfl, rfl⟩
  · refine er_seqR e ?_
    exact er_end (by simp -implicitDefEqProofs [-List.map_map, -List.map_append] <;> first | exact rfl | exact ⟨rfl, rfl⟩ | exact ⟨rfl, rfl, rfl⟩ | exact ⟨rfl, rfl, rfl, rfl⟩) ⟨rfl, rfl⟩
/-! ### what is given -/
theorem run_given {rs : List Rg} (R : RsOk rs) {pl : List Dd} (hp : ∀ d ∈ pl, DdOk rs d) (hpl : pl.length ≤ 20) : F__law_given [.fz (.lst (pl.map Dd.d))] = .ok (.nw (.lst (pl.map fun d => d.g.d))) [.fz (.lst (pl.map Dd.d))] := by
  suffices q : Gives (fun v a => v = .nw (.lst (pl.map fun d => d.g.d)) ∧ a = [.fz (.lst (pl.map Dd.d))]) (F__law_given [.fz (.lst (pl.map Dd.d))]) by
    obtain ⟨_, _, e, rfl, rfl⟩ := q
    exact e
  refine er_run ?_
  unfold d__law_given
  refine er_seq (by simp -implicitDefEqProofs [-List.map_map, -List.map_append, lst0] <;> first | exact rfl | exact ⟨rfl, rfl⟩ | exact ⟨rfl, rfl, rfl⟩ | exact ⟨rfl, rfl, rfl, rfl⟩) ?_
  refine er_out (for_T Dd.d (xs := pl) (fun dn ρ => ∃ j2 : Option D, ρ = [.fz (.lst (pl.map Dd.d)), .ow false (.lst (dn.map fun d => d.g.d)), jk j2]) (by simp -implicitDefEqProofs [-List.map_map, -List.map_append] <;> first | exact rfl | exact ⟨rfl, rfl⟩ | exact ⟨rfl, rfl, rfl⟩ | exact ⟨rfl, rfl, rfl, rfl⟩) ⟨none, rfl⟩ ?_) ?_
  · rintro dn d td e ρ ⟨j2, rfl⟩
    have hd : dn.length < 20 := by have := congrArg List.length e; simp at this; omega
    have hdd := hp d (by rw [e]; simp)
    cases d with
    | tell w =>
      have app := appM (enc := fun d : Dd => d.g.d) (xs := dn) (x := .tell w) (by omega)
      change moAppend _ [.tup [.str "tell", .str w]] = _ at app
      exact .nx (by simp -implicitDefEqProofs [-List.map_map, -List.map_append] <;> first | exact rfl | exact ⟨rfl, rfl⟩ | exact ⟨rfl, rfl, rfl⟩ | exact ⟨rfl, rfl, rfl, rfl⟩) (by simp -implicitDefEqProofs [-List.map_map, -List.map_append, x_b1__law_given, Dd.d, ixT0, eq_tell, app] <;> first | exact rfl | exact ⟨rfl, rfl⟩ | exact ⟨rfl, rfl, rfl⟩ | exact ⟨rfl, rfl, rfl, rfl⟩) ⟨some (Dd.tell w).d, rfl⟩
    | put n c ps =>
      obtain ⟨⟨r, hr, rfl⟩, hps, hl2, hc1, hc2⟩ := hdd
      have ei := run_init (c := c) (hps.L R hl2)
      have app := appM (enc := fun d : Dd => d.g.d) (xs := dn) (x := .put r.n c ps) (by omega)
      change moAppend _ [.tup [.str "set", .str r.n, .ins "Sum" (sumF c ps)]] = _ at app
      exact .nx (by simp -implicitDefEqProofs [-List.map_map, -List.map_append] <;> first | exact rfl | exact ⟨rfl, rfl⟩ | exact ⟨rfl, rfl, rfl⟩ | exact ⟨rfl, rfl, rfl, rfl⟩) (by simp -implicitDefEqProofs [-List.map_map, -List.map_append, x_b1__law_given, Dd.d, ixT0, ixT1, ixT2, ixT3, eq_settell, ei, tup3, app] <;> first | exact rfl | exact ⟨rfl, rfl⟩ | exact ⟨rfl, rfl, rfl⟩ | exact ⟨rfl, rfl, rfl, rfl⟩) ⟨some (Dd.put r.n c ps).d, rfl⟩
  · rintro ρ ⟨j2, rfl⟩
    exact er_end (by simp -implicitDefEqProofs [-List.map_map, -List.map_append] <;> first | exact rfl | exact ⟨rfl, rfl⟩ | exact ⟨rfl, rfl, rfl⟩ | exact ⟨rfl, rfl, rfl, rfl⟩) ⟨rfl, rfl⟩
end DL

/-! K2x: k02: the law's runs are the program's. -/
namespace DL
open PySem PySem.Spec
section
variable {A : Type} {ρ ρ0 : Ro} {f : M Iter} {tgt : Tgt} {body : S} {j : Nat} {u k : Bool}
theorem for_L (enc : A → D) {xs : List A} (J : List A → Ro → Prop) (hf : f ρ = .ok (itLent j u) ρ0) (hj : ρ0[j]? = some (.ln k (.lst (xs.map enc)))) (h0 : J [] ρ0) (hs : ∀ dn x td, xs = dn ++ x :: td → ∀ ρ, J dn ρ → Turn tgt body (enc x) ρ (J (dn ++ [x]))) :
    ∃ ρ', sFor f tgt body ρ = .nx (undoR [(j, u)] ρ') ∧ J xs ρ' := by
  obtain ⟨ρ', e, q⟩ := loop_T enc J hs xs [] ρ0 rfl h0
  refine ⟨ρ', ?_, q⟩
  rw [x_for, hf, andS_ok, x_forL, hj, lnK_ln, if_pos rfl, lnI_s, forK_s, e, omap_nx]
end
theorem cut_take {ds : List D} {n : Nat} : cutD ds none (some (n : Int)) = ds.take n := by
  unfold cutD
  show (ds.drop 0).take ((if (n : Int) < 0 then ((n : Int) + ds.length).toNat else min (n : Int).toNat ds.length) - 0) = _
  rw [if_neg (by omega), List.drop_zero, Int.toNat_natCast, Nat.sub_zero]
  by_cases h : n ≤ ds.length
  · rw [Nat.min_eq_left h]
  · rw [Nat.min_eq_right (by omega), List.take_of_length_le (Nat.le_refl _), List.take_of_length_le (by omega)]
theorem cut_drop {ds : List D} {n : Nat} : cutD ds (some (n : Int)) none = ds.drop n := by
  unfold cutD
  show (ds.drop (if (n : Int) < 0 then ((n : Int) + ds.length).toNat else min (n : Int).toNat ds.length)).take (ds.length - (if (n : Int) < 0 then ((n : Int) + ds.length).toNat else min (n : Int).toNat ds.length)) = _
  rw [if_neg (by omega), Int.toNat_natCast]
  by_cases h : n ≤ ds.length
  · rw [Nat.min_eq_left h, List.take_of_length_le (by rw [List.length_drop]; omega)]
  · rw [Nat.min_eq_right (by omega)]
    rw [List.drop_of_length_le (Nat.le_refl _), List.drop_of_length_le (by omega)]; simp
theorem dot_bd {rs : List Rg} {kn : Kn} (k : KnOk rs kn) (R : RsOk rs) {ps : List (Str × Int)} (h : PsOk rs ps) (hl : ps.length ≤ 2) : (dotS (gt kn) ps).natAbs ≤ 594000000 := valS_bd k R h hl
theorem go_ok {rs : List Rg} (R : RsOk rs) : ∀ (pl : List Dd) (i : Nat) (kn : Kn) (ws : List Str), (∀ d ∈ pl, DdOk rs d) → KnOk rs kn → (∀ w ∈ ws, Asc 9 w) →
    KnOk rs (go rs pl i kn ws).1 ∧ (∀ w ∈ (go rs pl i kn ws).2.1, Asc 9 w) ∧ (go rs pl i kn ws).2.1.length ≤ ws.length + pl.length ∧ ∀ j v, (go rs pl i kn ws).2.2 = some (j, v) → j < i + pl.length ∧ v.natAbs ≤ 2000000000
  | [], i, kn, ws, _, K, hw => ⟨K, hw, Nat.le_refl _, fun j v e => by cases e⟩
  | .tell w :: pl, i, kn, ws, hp, K, hw => by
    have hd : Asc 9 w := hp _ List.mem_cons_self
    obtain ⟨h1, h2, h3, h4⟩ := go_ok R pl (i + 1) kn (ws ++ [w]) (fun d h => hp d (List.mem_cons_of_mem _ h)) K (fun x hx => by
      rcases List.mem_append.mp hx with h | h
      · exact hw x h
      · rw [List.mem_singleton] at h; subst h; exact hd)
    refine ⟨h1, h2, ?_, fun j v e => ?_⟩
    · rw [List.length_append, List.length_singleton] at h3
      rw [List.length_cons]
      show (go rs pl (i + 1) kn (ws ++ [w])).2.1.length ≤ _
      omega
    · have := h4 j v e
      rw [List.length_cons]; omega
  | .put n c ps :: pl, i, kn, ws, hp, K, hw => by
    obtain ⟨⟨r, hr, rfl⟩, hps, hl2, hc1, hc2⟩ := hp (.put n c ps) List.mem_cons_self
    have hb := dot_bd K R hps hl2
    have hrg := rgOf_mem R.nd hr
    by_cases hin : (rgOf rs r.n).lo ≤ c + dotS (gt kn) ps ∧ c + dotS (gt kn) ps ≤ (rgOf rs r.n).hi
    · have e : go rs (.put r.n c ps :: pl) i kn ws = go rs pl (i + 1) (upd kn r.n (c + dotS (gt kn) ps)) ws := if_pos hin
      rw [e]
      rw [hrg] at hin
      obtain ⟨h1, h2, h3, h4⟩ := go_ok R pl (i + 1) (upd kn r.n (c + dotS (gt kn) ps)) ws (fun d h => hp d (List.mem_cons_of_mem _ h)) (K.upd R hr hin.1 hin.2) hw
      refine ⟨h1, h2, by rw [List.length_cons]; omega, fun j v e => ?_⟩
      have := h4 j v e
      rw [List.length_cons]; omega
    · have e : go rs (.put r.n c ps :: pl) i kn ws = (kn, ws, some (i, c + dotS (gt kn) ps)) := if_neg hin
      rw [e]
      refine ⟨K, hw, by dsimp only; omega, fun j v e => ?_⟩
      cases e
      rw [List.length_cons]
      omega
theorem InR.bd {rs : List Rg} {vs : List Int} (R : ∀ r ∈ rs, RgOk r) (h : InR rs vs) : ∀ v ∈ vs, v.natAbs ≤ 3000000 := fun v hv => by
  obtain ⟨i, hi, e⟩ := List.getElem_of_mem hv
  have hl := h.len
  obtain ⟨w, hw, h1, h2⟩ := h.get (i := i) (r := rs[i]) (List.getElem?_eq_getElem (by omega))
  rw [List.getElem?_eq_getElem hi] at hw
  have hw := Option.some.inj hw
  have := R rs[i] (List.getElem_mem _)
  have := this.l1
  have := (R rs[i] (List.getElem_mem _)).h2
  omega
theorem InR.knd {rs : List Rg} {kn : Kn} (h : ∀ r ∈ rs, r.lo ≤ gt kn r.n ∧ gt kn r.n ≤ r.hi) : InR rs (rs.map fun r => gt kn r.n) := by
  induction rs with
  | nil => trivial
  | cons r rs ih => exact ⟨h r List.mem_cons_self, ih fun q hq => h q (List.mem_cons_of_mem _ hq)⟩
theorem Tm.ints {vs : List Int} {n : Nat} (h : ∀ v ∈ vs, v.natAbs ≤ 2000000000) (hl : vs.length ≤ n) : Tm 1 (n * 41) (.tup (vs.map .int)) :=
  Tm.tup (k := 0) (w := 40) (fun d hd => by
    obtain ⟨v, hv, rfl⟩ := List.mem_map.mp hd
    have := h v hv
    exact Tm.int (by omega) (by omega)) (by rw [List.length_map]; exact hl)
theorem Tm.intsL {vs : List Int} {n : Nat} (h : ∀ v ∈ vs, v.natAbs ≤ 2000000000) (hl : vs.length ≤ n) : Tm 1 (n * 41) (.lst (vs.map .int)) :=
  Tm.lst (k := 0) (w := 40) (fun d hd => by
    obtain ⟨v, hv, rfl⟩ := List.mem_map.mp hd
    have := h v hv
    exact Tm.int (by omega) (by omega)) (by rw [List.length_map]; exact hl)
theorem tm3 {k w : Nat} {a b c : D} (h1 : Tm k w a) (h2 : Tm k w b) (h3 : Tm k w c) : Tm (k + 1) (3 * (w + 1)) (.tup [a, b, c]) :=
  Tm.tup (fun d hd => by
    simp only [List.mem_cons, List.not_mem_nil, or_false] at hd
    rcases hd with rfl | rfl | rfl <;> assumption) (Nat.le_refl _)
theorem tm_res {rs : List Rg} (R : RsOk rs) {vs : List Int} (hv : InR rs vs) {kn : Kn} (K : KnOk rs kn) {ws : List Str} (hw : ∀ w ∈ ws, Asc 9 w) (hwl : ws.length ≤ 20) {o : Option (Nat × Int)} (ho : ∀ j v, o = some (j, v) → j < 20 ∧ v.natAbs ≤ 2000000000) :
    Tm 2 1000 (resD rs vs (kn, ws, o)) ∧ cRepr [resD rs vs (kn, ws, o)] = some (.val (.str (resD rs vs (kn, ws, o)).py.shown)) := by
  have R3 := R.len
  have bd := hv.bd R.ok
  cases o with
  | none =>
    have t1 : Tm 1 200 (.tup (rs.map fun r => .int (gt kn r.n))) := by
      have := Tm.ints (vs := rs.map fun r => gt kn r.n) (n := 3) (fun v hv => by
        obtain ⟨r, hr, rfl⟩ := List.mem_map.mp hv
        have := K.bd R hr
        omega) (by rw [List.length_map]; exact R3)
      rw [List.map_map] at this
      exact this.mono (Nat.le_refl _) (by decide)
    have t2 : Tm 1 200 (.tup (ws.map .str)) := (Tm.tup (k := 0) (w := 9) (n := 20) (fun d hd => by
      obtain ⟨w, hw', rfl⟩ := List.mem_map.mp hd
      exact Tm.str (hw w hw')) (by rw [List.length_map]; exact hwl)).mono (Nat.le_refl _) (by decide)
    have t := (tm3 t1 t2 (Tm.non.mono (by decide) (by decide))).mono (Nat.le_refl _) (show 3 * (200 + 1) ≤ 1000 by decide)
    exact ⟨t, t.rT (by decide) (by decide)⟩
  | some iv =>
    obtain ⟨i, v⟩ := iv
    obtain ⟨h1, h2⟩ := ho i v rfl
    have t1 : Tm 1 200 (.tup (vs.map .int)) := (Tm.ints (n := 3) (fun v hv => by have := bd v hv; omega) (by rw [hv.len]; exact R3)).mono (Nat.le_refl _) (by decide)
    have t2 : Tm 1 200 (.tup []) := (Tm.tup (k := 0) (w := 0) (n := 0) (by simp) (Nat.le_refl _)).mono (Nat.le_refl _) (by decide)
    have t3 : Tm 1 200 (.tup [.int i, .int v]) := (Tm.ints (vs := [(i : Int), v]) (n := 2) (fun x hx => by
      simp only [List.mem_cons, List.not_mem_nil, or_false] at hx
      rcases hx with rfl | rfl <;> omega) (Nat.le_refl _)).mono (Nat.le_refl _) (by decide)
    have t := (tm3 t1 t2 t3).mono (Nat.le_refl _) (show 3 * (200 + 1) ≤ 1000 by decide)
    exact ⟨t, t.rT (by decide) (by decide)⟩
theorem res_facts {rs : List Rg} (R : RsOk rs) {vs : List Int} (hv : InR rs vs) {pl : List Dd} (hp : ∀ d ∈ pl, DdOk rs d) (hpl : pl.length ≤ 20) :
    Tm 2 1000 (resD rs vs (go rs pl 0 (kz rs vs) [])) ∧ cRepr [resD rs vs (go rs pl 0 (kz rs vs) [])] = some (.val (.str (resD rs vs (go rs pl 0 (kz rs vs) [])).py.shown)) := by
  obtain ⟨h1, h2, h3, h4⟩ := go_ok R pl 0 (kz rs vs) [] hp (KnOk.init R hv) (by simp)
  generalize go rs pl 0 (kz rs vs) [] = g at h1 h2 h3 h4
  obtain ⟨kn, ws, o⟩ := g
  dsimp only at h1 h2 h3 h4
  rw [List.length_nil] at h3
  exact tm_res R hv h1 h2 (by omega) (fun j v e => by have := h4 j v e; omega)
theorem tm_rs {rs : List Rg} (R : RsOk rs) : Tm 2 1000 (.lst (rs.map Rg.d)) :=
  (Tm.lst (k := 1) (w := 123) (n := 3) (fun d hd => by
    obtain ⟨r, hr, rfl⟩ := List.mem_map.mp hd
    have ro := R.ok r hr
    have := ro.l1; have := ro.l2; have := ro.h1; have := ro.h2
    exact tm3 (w := 40) ((Tm.str ro.ln.1).mono (Nat.le_refl _) (by decide)) (Tm.int (by omega) (by omega)) (Tm.int (by omega) (by omega))) (by rw [List.length_map]; exact R.len)).mono (Nat.le_refl _) (by decide)
theorem run_did {rs : List Rg} (R : RsOk rs) {vs : List Int} (hv : InR rs vs) {pl : List Dd} (hp : ∀ d ∈ pl, DdOk rs d) (hpl : pl.length ≤ 20) :
    F__law_did [.fz (.lst (pl.map Dd.d)), .fz (.lst (rs.map Rg.d)), .fz (.lst (vs.map .int))] = .ok (.val (.bl true)) [.fz (.lst (pl.map Dd.d)), .fz (.lst (rs.map Rg.d)), .fz (.lst (vs.map .int))] := by
  suffices q : Gives (fun v a => v = .val (.bl true) ∧ a = [.fz (.lst (pl.map Dd.d)), .fz (.lst (rs.map Rg.d)), .fz (.lst (vs.map .int))]) (F__law_did [.fz (.lst (pl.map Dd.d)), .fz (.lst (rs.map Rg.d)), .fz (.lst (vs.map .int))]) by
    obtain ⟨_, _, e, rfl, rfl⟩ := q
    exact e
  obtain ⟨t1, t2⟩ := res_facts R hv hp hpl
  have e1 := run_law_run R hv hp hpl
  have e2 := run_given R hp hpl
  have e3 := fun b b' => run_run_deeds R hv hp hpl b b'
  generalize resD rs vs (go rs pl 0 (kz rs vs) []) = Z at t1 t2 e1 e3
  have es := ne_str t1.sok
  have es2 := eq_str t1.sok
  have e4 := e3 false false
  have e5 := e3 true false
  have e6 := e3 false true
  simp only [sq, Bool.false_eq_true, if_false, if_true] at e4 e5 e6
  have n1 := (tm_rs R).ne (by decide)
  have n2 := (Tm.intsL (n := 3) (fun v h => by have := hv.bd R.ok v h; omega) (by rw [hv.len]; exact R.len)).ne (by decide)
  refine er_run ?_
  unfold d__law_did
  refine er_seq (by simp -implicitDefEqProofs [-List.map_map, -List.map_append, e1, t2] <;> first | exact rfl | exact ⟨rfl, rfl⟩ | exact ⟨rfl, rfl, rfl⟩ | exact ⟨rfl, rfl, rfl, rfl⟩) ?_
  refine er_seq (by simp -implicitDefEqProofs [-List.map_map, -List.map_append, e2] <;> first | exact rfl | exact ⟨rfl, rfl⟩ | exact ⟨rfl, rfl, rfl⟩ | exact ⟨rfl, rfl, rfl, rfl⟩) ?_
  refine er_seq (by simp -implicitDefEqProofs [-List.map_map, -List.map_append] <;> first | exact rfl | exact ⟨rfl, rfl⟩ | exact ⟨rfl, rfl, rfl⟩ | exact ⟨rfl, rfl, rfl, rfl⟩) ?_
  refine er_seq (by simp -implicitDefEqProofs [-List.map_map, -List.map_append] <;> first | exact rfl | exact ⟨rfl, rfl⟩ | exact ⟨rfl, rfl, rfl⟩ | exact ⟨rfl, rfl, rfl, rfl⟩) ?_
  refine er_seq (by simp -implicitDefEqProofs [-List.map_map, -List.map_append, e4] <;> first | exact rfl | exact ⟨rfl, rfl⟩ | exact ⟨rfl, rfl, rfl⟩ | exact ⟨rfl, rfl, rfl, rfl⟩) ?_
  refine er_seq (by simp -implicitDefEqProofs [-List.map_map, -List.map_append, t2, es, n1, n2] <;> first | exact rfl | exact ⟨rfl, rfl⟩ | exact ⟨rfl, rfl, rfl⟩ | exact ⟨rfl, rfl, rfl, rfl⟩) ?_
  refine er_seq (by simp -implicitDefEqProofs [-List.map_map, -List.map_append, e5, t2, es] <;> first | exact rfl | exact ⟨rfl, rfl⟩ | exact ⟨rfl, rfl, rfl⟩ | exact ⟨rfl, rfl, rfl, rfl⟩) ?_
  exact er_end (by simp -implicitDefEqProofs [-List.map_map, -List.map_append, e6, t2, es2] <;> first | exact rfl | exact ⟨rfl, rfl⟩ | exact ⟨rfl, rfl, rfl⟩ | exact ⟨rfl, rfl, rfl, rfl⟩) ⟨rfl, rfl⟩
end DL

/-! K2y: k02: the runs. -/
namespace DL
open PySem PySem.Spec
def ends (r : Rg) : List Dd := [.put r.n r.lo [], .put r.n r.hi []]
def odds (r : Rg) : List Dd := [.put r.n (r.lo - 1) [], .put r.n (r.hi + 1) []]
theorem put_ok {rs : List Rg} (R : RsOk rs) {r : Rg} (h : r ∈ rs) {c : Int} (h1 : r.lo - 1 ≤ c) (h2 : c ≤ r.hi + 1) : DdOk rs (.put r.n c []) := by
  have ro := R.ok r h
  have := ro.l1; have := ro.h2
  exact ⟨⟨r, h, rfl⟩, fun p hp => absurd hp List.not_mem_nil, Nat.zero_le _, by omega, by omega⟩
theorem ends_ok {rs : List Rg} (R : RsOk rs) {r : Rg} (h : r ∈ rs) : ∀ d ∈ ends r, DdOk rs d := fun d hd => by
  have ro := (R.ok r h).h1
  simp only [ends, List.mem_cons, List.not_mem_nil, or_false] at hd
  rcases hd with rfl | rfl <;> exact put_ok R h (by omega) (by omega)
theorem odds_ok {rs : List Rg} (R : RsOk rs) {r : Rg} (h : r ∈ rs) : ∀ d ∈ odds r, DdOk rs d := fun d hd => by
  have ro := (R.ok r h).h1
  simp only [odds, List.mem_cons, List.not_mem_nil, or_false] at hd
  rcases hd with rfl | rfl <;> exact put_ok R h (by omega) (by omega)
theorem app_ok {rs : List Rg} {p q : List Dd} (h : ∀ d ∈ p, DdOk rs d) (k : ∀ d ∈ q, DdOk rs d) : ∀ d ∈ p ++ q, DdOk rs d := fun d hd => (List.mem_append.mp hd).elim (h d) (k d)
theorem addM {A : Type} {enc : A → D} {xs ys : List A} (h : xs.length + ys.length ≤ 100000) : opAdd (.lst (xs.map enc)) (.lst (ys.map enc)) = some (.nw (.lst ((xs ++ ys).map enc))) := by
  rw [r_addL (by rw [List.length_map, List.length_map]; have := sizeLine_eq; omega), List.map_append]
def lsD (p : List Dd) : D := .lst (p.map Dd.d)
theorem run_runs {rs : List Rg} (R : RsOk rs) {vs : List Int} (hv : InR rs vs) {pl : List Dd} (hp : ∀ d ∈ pl, DdOk rs d) (hpl : pl.length ≤ 10) :
    F__law_runs [.fz (.lst (pl.map Dd.d)), .fz (.lst (rs.map Rg.d)), .fz (.lst (vs.map .int))] = .ok (.val (.bl true)) [.fz (.lst (pl.map Dd.d)), .fz (.lst (rs.map Rg.d)), .fz (.lst (vs.map .int))] := by
  suffices q : Gives (fun v a => v = .val (.bl true) ∧ a = [.fz (.lst (pl.map Dd.d)), .fz (.lst (rs.map Rg.d)), .fz (.lst (vs.map .int))]) (F__law_runs [.fz (.lst (pl.map Dd.d)), .fz (.lst (rs.map Rg.d)), .fz (.lst (vs.map .int))]) by
    obtain ⟨_, _, e, rfl, rfl⟩ := q
    exact e
  have e1 := run_did R hv hp (by omega)
  have e2 := run_law_run R hv hp (by omega)
  refine er_run ?_
  unfold d__law_runs
  refine er_seq (by simp -implicitDefEqProofs [-List.map_map, -List.map_append, e1] <;> first | exact rfl | exact ⟨rfl, rfl⟩ | exact ⟨rfl, rfl, rfl⟩ | exact ⟨rfl, rfl, rfl, rfl⟩) ?_
  refine er_seq (by simp -implicitDefEqProofs [-List.map_map, -List.map_append, e2] <;> first | exact rfl | exact ⟨rfl, rfl⟩ | exact ⟨rfl, rfl, rfl⟩ | exact ⟨rfl, rfl, rfl, rfl⟩) ?_
  -- the good ones
  refine er_out (Q := fun ρ => ∃ (gd : List Dd) (x : D), (∀ d ∈ gd, DdOk rs d) ∧ gd.length ≤ 10 ∧ ρ = [.fz (.lst (pl.map Dd.d)), .fz (.lst (rs.map Rg.d)), .fz (.lst (vs.map .int)), .fz x, .fz (.lst (gd.map Dd.d)), .no, .no, .no, .no, .no, .no, .no, .no, .no]) ?_ ?_
  · cases hg : go rs pl 0 (kz rs vs) [] with
    | mk kn y =>
      obtain ⟨ws, o⟩ := y
      cases o with
      | none => exact ⟨_, (by simp -implicitDefEqProofs [-List.map_map, -List.map_append, resD, ixT2] <;> first | exact rfl | exact ⟨rfl, rfl⟩ | exact ⟨rfl, rfl, rfl⟩ | exact ⟨rfl, rfl, rfl, rfl⟩), pl, _, hp, hpl, rfl⟩
      | some iv =>
        obtain ⟨i, v⟩ := iv
        exact ⟨_, (by simp -implicitDefEqProofs [-List.map_map, -List.map_append, resD, ixT0, ixT2, cut_take, ← List.map_take] <;> first | exact rfl | exact ⟨rfl, rfl⟩ | exact ⟨rfl, rfl, rfl⟩ | exact ⟨rfl, rfl, rfl, rfl⟩), pl.take i, _, fun d hd => hp d (List.mem_of_mem_take hd), by rw [List.length_take]; omega, rfl⟩
  rintro ρ ⟨gd, x, hgd, hgl, rfl⟩
  have e3 := run_law_run R hv hgd (by omega)
  refine er_seq (by simp -implicitDefEqProofs [-List.map_map, -List.map_append, e3] <;> first | exact rfl | exact ⟨rfl, rfl⟩ | exact ⟨rfl, rfl, rfl⟩ | exact ⟨rfl, rfl, rfl, rfl⟩) ?_
  obtain ⟨us, hu, eu⟩ : ∃ us : List Int, InR rs us ∧ opIx (resD rs vs (go rs gd 0 (kz rs vs) [])) (.int 0) = some (.val (.tup (us.map .int))) := by
    obtain ⟨h1, h2, h3, h4⟩ := go_ok R gd 0 (kz rs vs) [] hgd (KnOk.init R hv) (by simp)
    generalize go rs gd 0 (kz rs vs) [] = g at h1
    obtain ⟨kn, ws, o⟩ := g
    cases o with
    | none => exact ⟨rs.map fun r => gt kn r.n, InR.knd h1.inr, by rw [List.map_map]; exact ixT0⟩
    | some iv => exact ⟨vs, hv, ixT0⟩
  refine er_out (for_T (fun us : List Int => .lst (us.map .int)) (xs := [vs, us]) (fun dn ρ => ∃ (j6 : Option D), ρ = [.fz (.lst (pl.map Dd.d)), .fz (.lst (rs.map Rg.d)), .fz (.lst (vs.map .int)), .fz x, .fz (.lst (gd.map Dd.d)), .fz (resD rs vs (go rs gd 0 (kz rs vs) [])), jk j6, .no, .no, .no, .no, .no, .no, .no]) (by simp -implicitDefEqProofs [-List.map_map, -List.map_append, eu, lst2] <;> first | exact rfl | exact ⟨rfl, rfl⟩ | exact ⟨rfl, rfl, rfl⟩ | exact ⟨rfl, rfl, rfl, rfl⟩) ⟨none, rfl⟩ ?_) ?_
  · rintro dn ss td e ρ ⟨j6, rfl⟩
    have hss : InR rs ss := by
      have : ss ∈ [vs, us] := by rw [e]; simp
      simp only [List.mem_cons, List.not_mem_nil, or_false] at this
      rcases this with rfl | rfl <;> assumption
    have e4 := run_did R hss hgd (by omega)
    exact .nx (by simp -implicitDefEqProofs [-List.map_map, -List.map_append] <;> first | exact rfl | exact ⟨rfl, rfl⟩ | exact ⟨rfl, rfl, rfl⟩ | exact ⟨rfl, rfl, rfl, rfl⟩) (by simp -implicitDefEqProofs [-List.map_map, -List.map_append, x_b1__law_runs, e4] <;> first | exact rfl | exact ⟨rfl, rfl⟩ | exact ⟨rfl, rfl, rfl⟩ | exact ⟨rfl, rfl, rfl, rfl⟩) ⟨some _, rfl⟩
  rintro ρ ⟨j6, rfl⟩
  refine er_out (for_T Rg.d (xs := rs) (fun dn ρ => ∃ (j7 j8 j9 j10 j11 j13 : Option D) (s12 : Sl), (okS (some s12) = true) ∧ ρ = [.fz (.lst (pl.map Dd.d)), .fz (.lst (rs.map Rg.d)), .fz (.lst (vs.map .int)), .fz x, .fz (.lst (gd.map Dd.d)), .fz (resD rs vs (go rs gd 0 (kz rs vs) [])), jk j6, jk j7, jk j8, jk j9, jk j10, jk j11, s12, jk j13]) (by simp -implicitDefEqProofs [-List.map_map, -List.map_append] <;> first | exact rfl | exact ⟨rfl, rfl⟩ | exact ⟨rfl, rfl, rfl⟩ | exact ⟨rfl, rfl, rfl, rfl⟩) ⟨none, none, none, none, none, none, .no, rfl, rfl⟩ ?_) ?_
  · rintro dn r td e ρ ⟨j7, j8, j9, j10, j11, j13, s12, ok12, rfl⟩
    have hr : r ∈ rs := by rw [e]; simp
    have oe := ends_ok R hr
    have oo := odds_ok R hr
    have a1 := addM (enc := Dd.d) (xs := gd) (ys := ends r) (by simp [ends]; omega)
    have a2 := addM (enc := Dd.d) (xs := gd) (ys := odds r) (by simp [odds]; omega)
    have a3 := addM (enc := Dd.d) (xs := (odds r).drop 1) (ys := gd) (by simp [odds]; omega)
    have a4 := addM (enc := Dd.d) (xs := gd) (ys := (odds r).take 1) (by simp [odds]; omega)
    have a5 := addM (enc := Dd.d) (xs := gd ++ (odds r).take 1) (ys := (ends r).take 1) (by simp [odds, ends]; omega)
    have he : lsD (ends r) = .lst [.tup [.str "set", .str r.n, .int r.lo, .lst []], .tup [.str "set", .str r.n, .int r.hi, .lst []]] := rfl
    have ho : lsD (odds r) = .lst [.tup [.str "set", .str r.n, .int (r.lo - 1), .lst []], .tup [.str "set", .str r.n, .int (r.hi + 1), .lst []]] := rfl
    have c1 : opSl (lsD (odds r)) (some 1) none = some (.nw (.lst (((odds r).drop 1).map Dd.d))) := by
      show some (DL.R.nw (.lst (cutD _ (some ((1 : Nat) : Int)) none))) = _
      rw [cut_drop, List.map_drop]
    have c2 : opSl (lsD (odds r)) none (some 1) = some (.nw (.lst (((odds r).take 1).map Dd.d))) := by
      show some (DL.R.nw (.lst (cutD _ none (some ((1 : Nat) : Int))))) = _
      rw [cut_take, List.map_take]
    have c3 : opSl (lsD (ends r)) none (some 1) = some (.nw (.lst (((ends r).take 1).map Dd.d))) := by
      show some (DL.R.nw (.lst (cutD _ none (some ((1 : Nat) : Int))))) = _
      rw [cut_take, List.map_take]
    obtain ⟨T, hT⟩ : ∃ T : List (List Dd), T = [gd ++ ends r, gd ++ odds r, (odds r).drop 1 ++ gd] := ⟨_, rfl⟩
    obtain ⟨t4, ht4⟩ : ∃ t, t = gd ++ (odds r).take 1 ++ (ends r).take 1 := ⟨_, rfl⟩
    rw [← ht4] at a5
    have app := appM (enc := lsD) (xs := T) (x := t4) (by rw [hT]; simp)
    have hTD : OV.lst (T.map lsD) = .lst [.lst ((gd ++ ends r).map Dd.d), .lst ((gd ++ odds r).map Dd.d), .lst (((odds r).drop 1 ++ gd).map Dd.d)] := by rw [hT]; rfl
    have okT : ∀ p ∈ T ++ [t4], (∀ d ∈ p, DdOk rs d) ∧ p.length ≤ 20 := fun p hp => by
      have k1 := app_ok hgd oe
      have k2 := app_ok hgd oo
      have k3 := app_ok (fun d hd => oo d (List.mem_of_mem_drop hd) : ∀ d ∈ (odds r).drop 1, DdOk rs d) hgd
      have k4 := app_ok (app_ok hgd (fun d hd => oo d (List.mem_of_mem_take hd) : ∀ d ∈ (odds r).take 1, DdOk rs d)) (fun d hd => oe d (List.mem_of_mem_take hd) : ∀ d ∈ (ends r).take 1, DdOk rs d)
      rw [hT, ht4] at hp
      simp only [List.mem_append, List.mem_cons, List.not_mem_nil, or_false] at hp
      rcases hp with (rfl | rfl | rfl) | rfl
      · exact ⟨k1, by simp [ends]; omega⟩
      · exact ⟨k2, by simp [odds]; omega⟩
      · exact ⟨k3, by simp [odds]; omega⟩
      · exact ⟨k4, by simp [odds, ends]; omega⟩
    generalize (odds r).drop 1 = od1 at c1 a3 hT hTD
    generalize (odds r).take 1 = ot1 at c2 a4 a5 ht4
    generalize (ends r).take 1 = et1 at c3 a5 ht4
    refine .runs (by simp -implicitDefEqProofs [-List.map_map, -List.map_append, Rg.d] <;> first | exact rfl | exact ⟨rfl, rfl⟩ | exact ⟨rfl, rfl, rfl⟩ | exact ⟨rfl, rfl, rfl, rfl⟩) ?_
    unfold b3__law_runs
    refine rn_seq (ρ1 := [.fz (.lst (pl.map Dd.d)), .fz (.lst (rs.map Rg.d)), .fz (.lst (vs.map .int)), .fz x, .fz (.lst (gd.map Dd.d)), .fz (resD rs vs (go rs gd 0 (kz rs vs) [])), jk j6, .fz (.str r.n), .fz (.int r.lo), .fz (.int r.hi), .fz (lsD (ends r)), jk j11, s12, jk j13]) (by rw [he]; simp -implicitDefEqProofs [lst0, tup4, lst2]) ?_
    refine rn_seq (ρ1 := [.fz (.lst (pl.map Dd.d)), .fz (.lst (rs.map Rg.d)), .fz (.lst (vs.map .int)), .fz x, .fz (.lst (gd.map Dd.d)), .fz (resD rs vs (go rs gd 0 (kz rs vs) [])), jk j6, .fz (.str r.n), .fz (.int r.lo), .fz (.int r.hi), .fz (lsD (ends r)), .fz (lsD (odds r)), s12, jk j13]) (by rw [ho]; simp -implicitDefEqProofs [lst0, tup4, lst2]) ?_
    refine rn_seq (ρ1 := [.fz (.lst (pl.map Dd.d)), .fz (.lst (rs.map Rg.d)), .fz (.lst (vs.map .int)), .fz x, .fz (.lst (gd.map Dd.d)), .fz (resD rs vs (go rs gd 0 (kz rs vs) [])), jk j6, .fz (.str r.n), .fz (.int r.lo), .fz (.int r.hi), .fz (lsD (ends r)), .fz (lsD (odds r)), .ow false (.lst (T.map lsD)), jk j13]) (by
      rw [hTD]
      have a1' : opAdd (.lst (gd.map Dd.d)) (lsD (ends r)) = _ := a1
      have a2' : opAdd (.lst (gd.map Dd.d)) (lsD (odds r)) = _ := a2
      simp -implicitDefEqProofs [-List.map_map, -List.map_append, a1', a2', c1, a3, lst3, ok12]) ?_
    refine rn_seq (ρ1 := [.fz (.lst (pl.map Dd.d)), .fz (.lst (rs.map Rg.d)), .fz (.lst (vs.map .int)), .fz x, .fz (.lst (gd.map Dd.d)), .fz (resD rs vs (go rs gd 0 (kz rs vs) [])), jk j6, .fz (.str r.n), .fz (.int r.lo), .fz (.int r.hi), .fz (lsD (ends r)), .fz (lsD (odds r)), .ow false (.lst ((T ++ [t4]).map lsD)), jk j13]) (by
      have app' : moAppend (.lst (T.map lsD)) [.lst (t4.map Dd.d)] = _ := app
      simp -implicitDefEqProofs [-List.map_map, -List.map_append, c2, c3, a4, a5, app']) ?_
    obtain ⟨ρ', e', j13', rfl⟩ := for_L (f := itN 12) (tgt := tgName 13) (body := b2__law_runs) (ρ := [.fz (.lst (pl.map Dd.d)), .fz (.lst (rs.map Rg.d)), .fz (.lst (vs.map .int)), .fz x, .fz (.lst (gd.map Dd.d)), .fz (resD rs vs (go rs gd 0 (kz rs vs) [])), jk j6, .fz (.str r.n), .fz (.int r.lo), .fz (.int r.hi), .fz (lsD (ends r)), .fz (lsD (odds r)), .ow false (.lst ((T ++ [t4]).map lsD)), jk j13]) lsD (xs := T ++ [t4])
      (fun dn ρ => ∃ j13 : Option D, ρ = [.fz (.lst (pl.map Dd.d)), .fz (.lst (rs.map Rg.d)), .fz (.lst (vs.map .int)), .fz x, .fz (.lst (gd.map Dd.d)), .fz (resD rs vs (go rs gd 0 (kz rs vs) [])), jk j6, .fz (.str r.n), .fz (.int r.lo), .fz (.int r.hi), .fz (lsD (ends r)), .fz (lsD (odds r)), .ln false (.lst ((T ++ [t4]).map lsD)), jk j13]) (by simp -implicitDefEqProofs [-List.map_map, -List.map_append] <;> first | exact rfl | exact ⟨rfl, rfl⟩ | exact ⟨rfl, rfl, rfl⟩ | exact ⟨rfl, rfl, rfl, rfl⟩) rfl ⟨j13, rfl⟩ (by
        rintro dn p td e ρ ⟨j13, rfl⟩
        obtain ⟨o1, o2⟩ := okT p (by rw [e]; simp)
        have e4 := run_did R hv o1 o2
        have e4' : F__law_did [.fz (lsD p), .fz (.lst (rs.map Rg.d)), .fz (.lst (vs.map .int))] = _ := e4
        exact .nx (by simp -implicitDefEqProofs [-List.map_map, -List.map_append] <;> first | exact rfl | exact ⟨rfl, rfl⟩ | exact ⟨rfl, rfl, rfl⟩ | exact ⟨rfl, rfl, rfl, rfl⟩) (by simp -implicitDefEqProofs [-List.map_map, -List.map_append, x_b2__law_runs, e4'] <;> first | exact rfl | exact ⟨rfl, rfl⟩ | exact ⟨rfl, rfl, rfl⟩ | exact ⟨rfl, rfl, rfl, rfl⟩) ⟨some _, rfl⟩)
    refine rn_one e' ⟨some (.str r.n), some (.int r.lo), some (.int r.hi), some (lsD (ends r)), some (lsD (odds r)), j13', .ow false (.lst ((T ++ [t4]).map lsD)), rfl, ?_⟩
    simp -implicitDefEqProofs [-List.map_map, -List.map_append]
    exact ⟨rfl, rfl, rfl, rfl, rfl⟩
  · rintro ρ ⟨j7, j8, j9, j10, j11, j13, s12, ok12, rfl⟩
    exact er_end (by simp -implicitDefEqProofs [-List.map_map, -List.map_append] <;> first | exact rfl | exact ⟨rfl, rfl⟩ | exact ⟨rfl, rfl, rfl⟩ | exact ⟨rfl, rfl, rfl, rfl⟩) ⟨rfl, rfl⟩
end DL

/-! K2za: k02: what the law judges of its own deeds. -/
namespace DL
open PySem PySem.Spec
section
variable {A : Type} {ρ ρ0 : Ro} {f : M Iter} {tgt : Tgt} {body : S}
theorem for_TR (enc : A → D) {xs : List A} (J : List A → Ro → Prop) (Z : R → Ro → Prop) (hf : f ρ = .ok (itVals (xs.map enc)) ρ0) (h0 : J [] ρ0)
    (hs : ∀ dn x td, xs = dn ++ x :: td → ∀ ρ, J dn ρ → Turn tgt body (enc x) ρ (J (dn ++ [x])) ∨ ∃ ρ1, tgt (enc x) ρ = some ρ1 ∧ ∃ r ρ2, body ρ1 = .ret r ρ2 ∧ Z r ρ2) :
    (∃ ρ', sFor f tgt body ρ = .nx ρ' ∧ J xs ρ') ∨ ∃ r ρ', sFor f tgt body ρ = .ret r ρ' ∧ Z r ρ' := by
  have go : ∀ (td dn : List A) (ρ : Ro), xs = dn ++ td → J dn ρ → (∃ ρ', loopF tgt body (td.map enc) ρ = .nx ρ' ∧ J xs ρ') ∨ ∃ r ρ', loopF tgt body (td.map enc) ρ = .ret r ρ' ∧ Z r ρ' := by
    intro td
    induction td with
    | nil => exact fun dn ρ e j => .inl ⟨ρ, rfl, by rw [List.append_nil] at e; rw [e]; exact j⟩
    | cons x td ih =>
      intro dn ρ e j
      rcases hs dn x td e ρ j with ⟨ρ1, h1, ρ2, h2, j2⟩ | ⟨ρ1, h1, r, ρ2, h2, z⟩
      · have ih := ih (dn ++ [x]) ρ2 (by rw [e, List.append_assoc]; rfl) j2
        have e2 : loopF tgt body ((x :: td).map enc) ρ = loopF tgt body (td.map enc) ρ2 := by
          rw [List.map_cons, loop_cons, h1, goK_s]
          rcases h2 with h2 | h2
          · rw [h2, lo_nx]
          · rw [h2, lo_cnt]
        rw [e2]; exact ih
      · refine .inr ⟨r, ρ2, ?_, z⟩
        rw [List.map_cons, loop_cons, h1, goK_s, h2, lo_ret]
  have e1 : sFor f tgt body ρ = loopF tgt body (xs.map enc) ρ0 := by
    rw [x_for, hf, andS_ok, x_forV]
  rw [e1]
  exact go xs [] ρ0 rfl h0
end
theorem run_right (a b : Bool) : F__law_right [.fz (.bl a), .fz (.bl b)] = .ok (.val (.bl (a == b))) [.fz (.bl a), .fz (.bl b)] := by
  unfold F__law_right d__law_right
  rw [x_run]
  cases a <;> cases b <;> simp
/-! ### reduced -/
theorem sort_l {xs : List Str} (h : xs.length < 64) : cSorted [.lst (xs.map .str)] = some (.nw (.lst ((sortS xs).map .str))) := by
  have e : ∀ xs : List Str, strsOf (xs.map .str) = some xs := fun xs => by
    induction xs with
    | nil => rfl
    | cons p kn ih => show (strsOf (kn.map .str)).map (p :: ·) = _; rw [ih]; rfl
  show (strsOf (xs.map .str)).bind sortO = _
  rw [e]
  show (if xs.length < 64 then _ else _) = _
  rw [if_pos h]
theorem eqF_pr (p q : Str × Int) : eqF (prD q) (prD p) = decide (q = p) := by
  show ((q.1 == p.1) && ((q.2 == p.2) && true)) = _
  rw [Bool.and_true, Bool.eq_iff_iff, Bool.and_eq_true, decide_eq_true_eq, beq_iff_eq, beq_iff_eq]
  exact ⟨fun ⟨a, b⟩ => Prod.ext a b, fun e => by rw [e]; exact ⟨rfl, rfl⟩⟩
def PrT (p : Str × Int) : Prop := Asc 20 p.1 ∧ p.2.natAbs ≤ 2000000
theorem PrT.tm {p : Str × Int} (h : PrT p) : Tm 1 200 (prD p) := (Tm.tup (k := 0) (w := 40) (n := 2) (fun d hd => by
  simp only [List.mem_cons, List.not_mem_nil, or_false] at hd
  rcases hd with rfl | rfl
  · exact (Tm.str h.1).mono (Nat.le_refl _) (by decide)
  · have := h.2; exact Tm.int (by omega) (by omega)) (Nat.le_refl _)).mono (Nat.le_refl _) (by decide)
theorem notin_pr {rows : List (Str × Int)} {p : Str × Int} (h : ∀ q ∈ rows, PrT q) (hp : PrT p) : opNotIn (prD p) (.lst (rows.map prD)) = some (.val (.bl (!decide (p ∈ rows)))) := by
  unfold opNotIn
  have tl : Tm 2 _ (.lst (rows.map prD)) := Tm.lst (k := 1) (w := 200) (fun d hd => by
    obtain ⟨q, hq, rfl⟩ := List.mem_map.mp hd
    exact (h q hq).tm) (Nat.le_refl _)
  have : inB (prD p) (.lst (rows.map prD)) = some ((rows.map prD).any fun z => eqF z (prD p)) := by
    show (if (pyOk (prD p) && pyOk (.lst (rows.map prD))) = true then some _ else none) = _
    rw [hp.tm.pyOk (by decide), tl.pyOk (by decide), if_pos (by rfl)]
  rw [this]
  have e : ((rows.map prD).any fun z => eqF z (prD p)) = decide (p ∈ rows) := by
    rw [List.any_map, Bool.eq_iff_iff, List.any_eq_true, decide_eq_true_eq]
    constructor
    · rintro ⟨q, hq, e⟩
      have e : eqF (prD q) (prD p) = true := e
      rw [eqF_pr, decide_eq_true_eq] at e
      exact e ▸ hq
    · intro h
      refine ⟨p, h, ?_⟩
      show eqF (prD p) (prD p) = true
      rw [eqF_pr]; exact decide_eq_true rfl
  rw [e]; rfl
theorem run_reduced {ps : List (Str × Int)} (hp : PsL ps) : ∃ rows : List (Str × Int), (∀ p, p ∈ rows ↔ p ∈ terms ps) ∧ rows.length ≤ 10 ∧ F__law_reduced [.fz (.lst (ps.map prD))] = .ok (.val (.tup (rows.map prD))) [.fz (.lst (ps.map prD))] := by
  suffices q : Gives (fun v a => ∃ rows : List (Str × Int), (∀ p, p ∈ rows ↔ p ∈ terms ps) ∧ rows.length ≤ 10 ∧ v = .val (.tup (rows.map prD)) ∧ a = [.fz (.lst (ps.map prD))]) (F__law_reduced [.fz (.lst (ps.map prD))]) by
    obtain ⟨_, _, e, rows, h, hl, rfl, rfl⟩ := q
    exact ⟨rows, h, hl, e⟩
  have hl := hp.2
  have hz := sizeLine_eq
  refine er_run ?_
  unfold d__law_reduced
  refine er_seq (by simp -implicitDefEqProofs [-List.map_map, -List.map_append, lst0] <;> first | exact rfl | exact ⟨rfl, rfl⟩ | exact ⟨rfl, rfl, rfl⟩ | exact ⟨rfl, rfl, rfl, rfl⟩) ?_
  have ec := comp_T (ρ := [.fz (.lst (ps.map prD)), .ow false (.lst []), .no, .no, .no]) (tgt := tgName 4) (cond := eYes) (elt := e1__law_reduced) (vs := [4]) prD (fun p => .str p.1) ps [] (fun p _ => ⟨_, _, _, _, (by simp -implicitDefEqProofs [-List.map_map, -List.map_append] <;> first | exact rfl | exact ⟨rfl, rfl⟩ | exact ⟨rfl, rfl, rfl⟩ | exact ⟨rfl, rfl, rfl, rfl⟩), rfl, (by simp -implicitDefEqProofs [-List.map_map, -List.map_append, x_e1__law_reduced, prD, ixT0] <;> first | exact rfl | exact ⟨rfl, rfl⟩ | exact ⟨rfl, rfl, rfl⟩ | exact ⟨rfl, rfl, rfl, rfl⟩), rfl, (by simp -implicitDefEqProofs [-List.map_map, -List.map_append] <;> first | exact rfl | exact ⟨rfl, rfl⟩ | exact ⟨rfl, rfl, rfl⟩ | exact ⟨rfl, rfl, rfl, rfl⟩)⟩) (by rw [List.length_nil]; omega)
  have em : ps.map (fun p => D.str p.1) = (ps.map Prod.fst).map .str := by rw [List.map_map]; rfl
  rw [List.nil_append, em] at ec
  have so := sort_l (xs := ps.map Prod.fst) (by rw [List.length_map]; omega)
  have hlen : (sortS (ps.map Prod.fst)).length = ps.length := by rw [(sortS_perm _).length_eq, List.length_map]
  have gtr : ∀ n, gt (facs ps) n = ((ps.filter fun p => decide (p.1 = n)).map Prod.snd).sum := fun n => gt_facs
  have prt : ∀ n ∈ ps.map Prod.fst, PrT (n, gt (facs ps) n) := fun n hn => by
    obtain ⟨p, h, rfl⟩ := List.mem_map.mp hn
    have := facs_bd (n := p.1) (fun q hq => (hp.1 q hq).2) hp.2
    exact ⟨(hp.1 p h).1.1.mono (by decide), by dsimp only; omega⟩
  refine er_out (for_T D.str (xs := sortS (ps.map Prod.fst)) (fun dn ρ => ∃ (rows : List (Str × Int)) (j2 j3 : Option D), (∀ p, p ∈ rows ↔ p.1 ∈ dn ∧ p.2 = gt (facs ps) p.1 ∧ p.2 ≠ 0) ∧ rows.length ≤ dn.length ∧ ρ = [.fz (.lst (ps.map prD)), .ow false (.lst (rows.map prD)), jk j2, jk j3, .no]) (by simp -implicitDefEqProofs [-List.map_map, -List.map_append, ec, so] <;> first | exact rfl | exact ⟨rfl, rfl⟩ | exact ⟨rfl, rfl, rfl⟩ | exact ⟨rfl, rfl, rfl, rfl⟩) ⟨[], none, none, by simp, Nat.le_refl _, rfl⟩ ?_) ?_
  · rintro dn n td e ρ ⟨rows, j2, j3, hr, hrl, rfl⟩
    have hd : dn.length < 10 := by have := congrArg List.length e; rw [hlen] at this; simp at this; omega
    have hn : n ∈ ps.map Prod.fst := (sortS_perm _).mem_iff.mp (by rw [e]; simp)
    have lnn : PyData.strOk n = true := (prt n hn).1.ok
    have ec := comp_F (ρ := [.fz (.lst (ps.map prD)), .ow false (.lst (rows.map prD)), .fz (.str n), jk j3, .no]) (tgt := tgName 4) (cond := c3__law_reduced) (elt := e2__law_reduced) (vs := [4]) prD (fun p => .int p.2) (fun p => decide (p.1 = n)) ps [] (fun p hm => by
      have he := r_eqS (strOk_LN (hp.1 p hm).1) lnn
      have hb : (p.1 == n) = decide (p.1 = n) := rfl
      rw [hb] at he
      exact ⟨_, _, (by simp -implicitDefEqProofs [-List.map_map, -List.map_append] <;> first | exact rfl | exact ⟨rfl, rfl⟩ | exact ⟨rfl, rfl, rfl⟩ | exact ⟨rfl, rfl, rfl, rfl⟩), (by simp -implicitDefEqProofs [-List.map_map, -List.map_append, x_c3__law_reduced, prD, ixT0, he] <;> first | exact rfl | exact ⟨rfl, rfl⟩ | exact ⟨rfl, rfl, rfl⟩ | exact ⟨rfl, rfl, rfl, rfl⟩), (by simp -implicitDefEqProofs [-List.map_map, -List.map_append] <;> first | exact rfl | exact ⟨rfl, rfl⟩ | exact ⟨rfl, rfl, rfl⟩ | exact ⟨rfl, rfl, rfl, rfl⟩), fun _ => ⟨_, _, (by simp -implicitDefEqProofs [-List.map_map, -List.map_append, x_e2__law_reduced, prD, ixT1] <;> first | exact rfl | exact ⟨rfl, rfl⟩ | exact ⟨rfl, rfl, rfl⟩ | exact ⟨rfl, rfl, rfl, rfl⟩), rfl, (by simp -implicitDefEqProofs [-List.map_map, -List.map_append] <;> first | exact rfl | exact ⟨rfl, rfl⟩ | exact ⟨rfl, rfl, rfl⟩ | exact ⟨rfl, rfl, rfl, rfl⟩)⟩⟩) (by rw [List.length_nil]; omega)
    have em : (ps.filter fun p => decide (p.1 = n)).map (fun p => D.int p.2) = ((ps.filter fun p => decide (p.1 = n)).map Prod.snd).map .int := by rw [List.map_map]; rfl
    rw [List.nil_append, em] at ec
    have es := r_sum ((ps.filter fun p => decide (p.1 = n)).map Prod.snd)
    rw [← gtr n] at es
    generalize hxs : ((ps.filter fun p => decide (p.1 = n)).map Prod.snd).map D.int = xs at ec es
    have hrt : ∀ q ∈ rows, PrT q := fun q hq => by
      obtain ⟨h1, h2, h3⟩ := (hr q).mp hq
      have : q.1 ∈ ps.map Prod.fst := (sortS_perm _).mem_iff.mp (by rw [e]; exact List.mem_append_left _ h1)
      have := prt q.1 this
      rw [← h2] at this
      exact this
    have en := notin_pr hrt (prt n hn)
    simp only [prD] at en
    change opNotIn _ (.lst (rows.map prD)) = _ at en
    have fin : ∀ rows' : List (Str × Int), (∀ p, p ∈ rows' ↔ p ∈ rows ∨ (p = (n, gt (facs ps) n) ∧ gt (facs ps) n ≠ 0)) → ∀ p, p ∈ rows' ↔ p.1 ∈ dn ++ [n] ∧ p.2 = gt (facs ps) p.1 ∧ p.2 ≠ 0 := fun rows' h p => by
      rw [h p, hr p, List.mem_append, List.mem_singleton]
      constructor
      · rintro (⟨h1, h2, h3⟩ | ⟨rfl, h⟩)
        · exact ⟨.inl h1, h2, h3⟩
        · exact ⟨.inr rfl, rfl, h⟩
      · rintro ⟨h1 | h1, h2, h3⟩
        · exact .inl ⟨h1, h2, h3⟩
        · refine .inr ⟨Prod.ext h1 (h2.trans (by rw [h1])), ?_⟩
          rw [← h1, ← h2]; exact h3
    by_cases h0 : gt (facs ps) n = 0
    · refine .nx (by simp -implicitDefEqProofs [-List.map_map, -List.map_append] <;> first | exact rfl | exact ⟨rfl, rfl⟩ | exact ⟨rfl, rfl, rfl⟩ | exact ⟨rfl, rfl, rfl, rfl⟩) (ρ2 := [.fz (.lst (ps.map prD)), .ow false (.lst (rows.map prD)), .fz (.str n), .fz (.int (gt (facs ps) n)), .no]) ?_ ⟨rows, some _, some _, fin rows fun p => ⟨.inl, fun q => q.elim id fun q => absurd h0 q.2⟩, by simp; omega, rfl⟩
      simp -implicitDefEqProofs [-List.map_map, -List.map_append, x_b4__law_reduced, ec, es, h0]
    · have h0' : (gt (facs ps) n == 0) = false := beq_eq_false_iff_ne.mpr h0
      by_cases hm : (n, gt (facs ps) n) ∈ rows
      · rw [decide_eq_true hm] at en
        refine .nx (by simp -implicitDefEqProofs [-List.map_map, -List.map_append] <;> first | exact rfl | exact ⟨rfl, rfl⟩ | exact ⟨rfl, rfl, rfl⟩ | exact ⟨rfl, rfl, rfl, rfl⟩) (ρ2 := [.fz (.lst (ps.map prD)), .ow false (.lst (rows.map prD)), .fz (.str n), .fz (.int (gt (facs ps) n)), .no]) ?_ ⟨rows, some _, some _, fin rows fun p => ⟨.inl, fun q => q.elim id fun q => q.1 ▸ hm⟩, by simp; omega, rfl⟩
        simp -implicitDefEqProofs [-List.map_map, -List.map_append, x_b4__law_reduced, ec, es, h0', tup2, en]
      · rw [decide_eq_false hm] at en
        have app := appM (enc := prD) (xs := rows) (x := (n, gt (facs ps) n)) (by omega)
        change moAppend _ [.tup [.str n, .int (gt (facs ps) n)]] = _ at app
        refine .nx (by simp -implicitDefEqProofs [-List.map_map, -List.map_append] <;> first | exact rfl | exact ⟨rfl, rfl⟩ | exact ⟨rfl, rfl, rfl⟩ | exact ⟨rfl, rfl, rfl, rfl⟩) (ρ2 := [.fz (.lst (ps.map prD)), .ow false (.lst ((rows ++ [(n, gt (facs ps) n)]).map prD)), .fz (.str n), .fz (.int (gt (facs ps) n)), .no]) ?_ ⟨rows ++ [(n, gt (facs ps) n)], some _, some _, fin _ fun p => by rw [List.mem_append, List.mem_singleton]; exact ⟨fun q => q.imp id fun q => ⟨q, h0⟩, fun q => q.imp id fun q => q.1⟩, by simp; omega, rfl⟩
        simp -implicitDefEqProofs [-List.map_map, -List.map_append, x_b4__law_reduced, ec, es, h0', tup2, en, app]
  · rintro ρ ⟨rows, j2, j3, hr, hrl, rfl⟩
    refine er_end (by simp -implicitDefEqProofs [-List.map_map, -List.map_append] <;> first | exact rfl | exact ⟨rfl, rfl⟩ | exact ⟨rfl, rfl, rfl⟩ | exact ⟨rfl, rfl, rfl, rfl⟩) ⟨rows, fun p => ?_, by omega, rfl, rfl⟩
    rw [hr p, mem_terms, (sortS_perm _).mem_iff]
end DL

/-! K2zb: k02: fits. -/
namespace DL
open PySem PySem.Spec
theorem good_put {names words : List Str} {n : Str} {c : Int} {ps rows : List (Str × Int)} (hl : ps.length ≤ 2) (hr : ∀ p, p ∈ rows ↔ p ∈ terms ps) : G.good names words (.put n c ps) = true ↔ (∀ x ∈ n :: rows.map Prod.fst, x ∈ names) ∧ ¬ 9999 < abI c ∧ ∀ p ∈ rows, ¬ 99 < abI p.2 := by
  have h8 : ¬ (8 : Int) < ((terms ps).length : Int) := by have := len_terms ps; omega
  show (decide (n ∈ names) && (smallB c ps && (terms ps).all fun p => decide (p.1 ∈ names))) = true ↔ _
  unfold smallB
  rw [decide_eq_false h8]
  simp only [Bool.and_eq_true, decide_eq_true_eq, List.all_eq_true, Bool.not_false, true_and, Bool.not_eq_true', decide_eq_false_iff_not]
  constructor
  · rintro ⟨h1, ⟨h2, h3⟩, h4⟩
    refine ⟨fun x hx => ?_, h2, fun p hp => ?_⟩
    · rcases List.mem_cons.mp hx with rfl | hx
      · exact h1
      · obtain ⟨p, hp, rfl⟩ := List.mem_map.mp hx
        exact h4 p ((hr p).mp hp)
    · have := h3 p ((hr p).mp hp); omega
  · rintro ⟨h1, h2, h3⟩
    refine ⟨h1 n List.mem_cons_self, ⟨h2, fun p hp => ?_⟩, fun p hp => h1 p.1 (List.mem_cons_of_mem _ (List.mem_map.mpr ⟨p, (hr p).mpr hp, rfl⟩))⟩
    have := h3 p ((hr p).mpr hp); omega
theorem Dd.tell_d {w : Str} : (Dd.tell w).d = .tup [.str "tell", .str w] := rfl
theorem run_fits {rs : List Rg} (R : RsOk rs) {pl : List Dd} (hp : ∀ d ∈ pl, DdOk rs d) (hpl : pl.length ≤ 10) {names words : List Str} (hN : ∀ w ∈ names, PyData.strOk w = true) (hW : ∀ w ∈ words, PyData.strOk w = true) :
    F__law_fits [.fz (.lst (pl.map Dd.d)), .fz (.lst (names.map .str)), .fz (.lst (words.map .str))] = .ok (.val (.bl (goods names words (pl.map Dd.g)))) [.fz (.lst (pl.map Dd.d)), .fz (.lst (names.map .str)), .fz (.lst (words.map .str))] := by
  suffices q : Gives (fun v a => v = .val (.bl (goods names words (pl.map Dd.g))) ∧ a = [.fz (.lst (pl.map Dd.d)), .fz (.lst (names.map .str)), .fz (.lst (words.map .str))]) (F__law_fits [.fz (.lst (pl.map Dd.d)), .fz (.lst (names.map .str)), .fz (.lst (words.map .str))]) by
    obtain ⟨_, _, e, rfl, rfl⟩ := q
    exact e
  have hz := sizeLine_eq
  have h12 : (pl.length : Int) ≤ 12 := by omega
  have hgs : goods names words (pl.map Dd.g) = pl.all fun d => G.good names words d.g := by
    unfold goods
    rw [List.length_map, decide_eq_true (by omega), Bool.true_and, List.all_map]; rfl
  refine er_run ?_
  unfold d__law_fits
  rcases for_TR (f := itN 0) (tgt := tgName 3) (body := b6__law_fits) (ρ := [.fz (.lst (pl.map Dd.d)), .fz (.lst (names.map .str)), .fz (.lst (words.map .str)), .no, .no, .no, .no, .no]) Dd.d (xs := pl)
    (fun dn ρ => (∀ d ∈ dn, G.good names words d.g = true) ∧ ∃ (j3 j4 j5 : Option D), ρ = [.fz (.lst (pl.map Dd.d)), .fz (.lst (names.map .str)), .fz (.lst (words.map .str)), jk j3, jk j4, jk j5, .no, .no])
    (fun r ρ => r = .val (.bl false) ∧ (∃ d ∈ pl, G.good names words d.g = false) ∧ ∃ x, ρ = [.fz (.lst (pl.map Dd.d)), .fz (.lst (names.map .str)), .fz (.lst (words.map .str))] ++ x)
    (by simp -implicitDefEqProofs [-List.map_map, -List.map_append] <;> first | exact rfl | exact ⟨rfl, rfl⟩ | exact ⟨rfl, rfl, rfl⟩ | exact ⟨rfl, rfl, rfl, rfl⟩) ⟨by simp, none, none, none, rfl⟩ (by
      rintro dn d td e ρ ⟨hg, j3, j4, j5, rfl⟩
      have hm : d ∈ pl := by rw [e]; simp
      have hdd := hp d hm
      have snoc : G.good names words d.g = true → ∀ x ∈ dn ++ [d], G.good names words x.g = true := fun h x hx => by
        rcases List.mem_append.mp hx with q | q
        · exact hg x q
        · rw [List.mem_singleton] at q; subst q; exact h
      cases d with
      | tell w =>
        have wok : PyData.strOk w = true := Asc.ok (show Asc 9 w from hdd)
        have en := notin_strsL hW wok
        by_cases hw : w ∈ words
        · rw [decide_eq_true hw] at en
          exact .inl (.ct (by simp -implicitDefEqProofs [-List.map_map, -List.map_append] <;> first | exact rfl | exact ⟨rfl, rfl⟩ | exact ⟨rfl, rfl, rfl⟩ | exact ⟨rfl, rfl, rfl, rfl⟩) (by simp -implicitDefEqProofs [-List.map_map, -List.map_append, x_b6__law_fits, Dd.d, ixT0, ixT1, eq_tell, en] <;> first | exact rfl | exact ⟨rfl, rfl⟩ | exact ⟨rfl, rfl, rfl⟩ | exact ⟨rfl, rfl, rfl, rfl⟩) ⟨snoc (decide_eq_true hw), some (Dd.tell w).d, j4, j5, rfl⟩)
        · rw [decide_eq_false hw] at en
          exact .inr ⟨_, (by simp -implicitDefEqProofs [-List.map_map, -List.map_append] <;> first | exact rfl | exact ⟨rfl, rfl⟩ | exact ⟨rfl, rfl, rfl⟩ | exact ⟨rfl, rfl, rfl, rfl⟩), _, _, (by simp -implicitDefEqProofs [-List.map_map, -List.map_append, x_b6__law_fits, Dd.d, ixT0, ixT1, eq_tell, en] <;> first | exact rfl | exact ⟨rfl, rfl⟩ | exact ⟨rfl, rfl, rfl⟩ | exact ⟨rfl, rfl, rfl, rfl⟩), rfl, ⟨.tell w, hm, decide_eq_false hw⟩, _, rfl⟩
      | put n c ps =>
        obtain ⟨⟨r, hr, rfl⟩, hps, hl2, hc1, hc2⟩ := hdd
        have hpl2 := hps.L R hl2
        obtain ⟨rows, hrw, hrl, er⟩ := run_reduced hpl2
        have gp := good_put (names := names) (words := words) (n := r.n) (c := c) hl2 hrw
        have lnr : ∀ p ∈ rows, PyData.strOk p.1 = true := fun p hp' => by
          obtain ⟨m1, _, _⟩ := mem_terms.mp ((hrw p).mp hp')
          obtain ⟨q, hq, eq⟩ := List.mem_map.mp m1
          exact eq ▸ strOk_LN (hpl2.1 q hq).1
        have ec1 := fun (s0 s1 s2 s3 s5 : Sl) => comp_T (ρ := [s0, s1, s2, s3, .fz (.tup (rows.map prD)), s5, .no, .no]) (tgt := tgName 6) (cond := eYes) (elt := e1__law_fits) (vs := [6]) prD (fun p => .str p.1) rows [] (fun p _ => ⟨_, _, _, _, (by simp -implicitDefEqProofs [-List.map_map, -List.map_append] <;> first | exact rfl | exact ⟨rfl, rfl⟩ | exact ⟨rfl, rfl, rfl⟩ | exact ⟨rfl, rfl, rfl, rfl⟩), rfl, (by simp -implicitDefEqProofs [-List.map_map, -List.map_append, x_e1__law_fits, prD, ixT0] <;> first | exact rfl | exact ⟨rfl, rfl⟩ | exact ⟨rfl, rfl, rfl⟩ | exact ⟨rfl, rfl, rfl, rfl⟩), rfl, (by simp -implicitDefEqProofs [-List.map_map, -List.map_append] <;> first | exact rfl | exact ⟨rfl, rfl⟩ | exact ⟨rfl, rfl, rfl⟩ | exact ⟨rfl, rfl, rfl, rfl⟩)⟩) (by rw [List.length_nil]; omega)
        have em : rows.map (fun p => D.str p.1) = (rows.map Prod.fst).map .str := by rw [List.map_map]; rfl
        simp only [List.nil_append, em] at ec1
        have ea := addM (enc := D.str) (xs := [r.n]) (ys := rows.map Prod.fst) (by simp; omega)
        obtain ⟨us, hus⟩ : ∃ us, us = [r.n] ++ rows.map Prod.fst := ⟨_, rfl⟩
        rw [← hus] at ea
        have usok : ∀ x ∈ us, PyData.strOk x = true := fun x hx => by
          rw [hus] at hx
          rcases List.mem_append.mp hx with h | h
          · rw [List.mem_singleton] at h; subst h; exact strOk_LN (R.ok r hr).ln
          · obtain ⟨p, hp', rfl⟩ := List.mem_map.mp h
            exact lnr p hp'
        have usl : us.length ≤ 20 := by rw [hus]; simp; omega
        have ec2 := fun (s0 s2 s3 s4 s5 : Sl) => comp_F (ρ := [s0, .fz (.lst (names.map .str)), s2, s3, s4, s5, .no, .no]) (tgt := tgName 7) (cond := c3__law_fits) (elt := e2__law_fits) (vs := [7]) D.str D.str (fun x => !decide (x ∈ names)) us [] (fun x hx => by
          have := notin_strsL hN (usok x hx)
          exact ⟨_, _, (by simp -implicitDefEqProofs [-List.map_map, -List.map_append] <;> first | exact rfl | exact ⟨rfl, rfl⟩ | exact ⟨rfl, rfl, rfl⟩ | exact ⟨rfl, rfl, rfl, rfl⟩), (by simp -implicitDefEqProofs [-List.map_map, -List.map_append, x_c3__law_fits, this] <;> first | exact rfl | exact ⟨rfl, rfl⟩ | exact ⟨rfl, rfl, rfl⟩ | exact ⟨rfl, rfl, rfl, rfl⟩), (by simp -implicitDefEqProofs [-List.map_map, -List.map_append] <;> first | exact rfl | exact ⟨rfl, rfl⟩ | exact ⟨rfl, rfl, rfl⟩ | exact ⟨rfl, rfl, rfl, rfl⟩), fun _ => ⟨_, _, (by simp -implicitDefEqProofs [-List.map_map, -List.map_append, x_e2__law_fits] <;> first | exact rfl | exact ⟨rfl, rfl⟩ | exact ⟨rfl, rfl, rfl⟩ | exact ⟨rfl, rfl, rfl, rfl⟩), rfl, (by simp -implicitDefEqProofs [-List.map_map, -List.map_append] <;> first | exact rfl | exact ⟨rfl, rfl⟩ | exact ⟨rfl, rfl, rfl⟩ | exact ⟨rfl, rfl, rfl, rfl⟩)⟩⟩) (by rw [List.length_nil]; omega)
        have ec3 := fun (s0 s1 s2 s3 s4 s5 : Sl) => comp_F (ρ := [s0, s1, s2, s3, s4, s5, .no, .no]) (tgt := tgName 6) (cond := c5__law_fits) (elt := e4__law_fits) (vs := [6]) prD prD (fun p => decide (99 < abI p.2)) rows [] (fun p hp' => by
          exact ⟨_, _, (by simp -implicitDefEqProofs [-List.map_map, -List.map_append] <;> first | exact rfl | exact ⟨rfl, rfl⟩ | exact ⟨rfl, rfl, rfl⟩ | exact ⟨rfl, rfl, rfl, rfl⟩), (by simp -implicitDefEqProofs [-List.map_map, -List.map_append, x_c5__law_fits, prD, ixT1, -r_abs, r_abI] <;> first | exact rfl | exact ⟨rfl, rfl⟩ | exact ⟨rfl, rfl, rfl⟩ | exact ⟨rfl, rfl, rfl, rfl⟩), (by simp -implicitDefEqProofs [-List.map_map, -List.map_append] <;> first | exact rfl | exact ⟨rfl, rfl⟩ | exact ⟨rfl, rfl, rfl⟩ | exact ⟨rfl, rfl, rfl, rfl⟩), fun _ => ⟨_, _, (by simp -implicitDefEqProofs [-List.map_map, -List.map_append, x_e4__law_fits, prD] <;> first | exact rfl | exact ⟨rfl, rfl⟩ | exact ⟨rfl, rfl, rfl⟩ | exact ⟨rfl, rfl, rfl, rfl⟩), rfl, (by simp -implicitDefEqProofs [-List.map_map, -List.map_append] <;> first | exact rfl | exact ⟨rfl, rfl⟩ | exact ⟨rfl, rfl, rfl⟩ | exact ⟨rfl, rfl, rfl, rfl⟩)⟩⟩) (by rw [List.length_nil]; omega)
        simp only [List.nil_append] at ec2 ec3
        have hgd : G.good names words (.put r.n c ps) = true ↔ (us.filter fun x => !decide (x ∈ names)) = [] ∧ ¬ 9999 < abI c ∧ (rows.filter fun p => decide (99 < abI p.2)) = [] := by
          rw [gp, List.filter_eq_nil_iff, List.filter_eq_nil_iff, hus]
          simp only [List.singleton_append, Bool.not_eq_true', decide_eq_false_iff_not, Classical.not_not, decide_eq_true_eq]
        generalize (us.filter fun x => !decide (x ∈ names)) = U at ec2 hgd
        generalize (rows.filter fun p => decide (99 < abI p.2)) = V at ec3 hgd
        have no : ¬ (U = [] ∧ ¬ 9999 < abI c ∧ V = []) → G.good names words (.put r.n c ps) = false := fun h => by
          cases q : G.good names words (.put r.n c ps) with
          | false => rfl
          | true => exact absurd (hgd.mp q) h
        have ea' : opAdd (.lst [.str r.n]) (.lst ((rows.map Prod.fst).map .str)) = some (.nw (.lst (us.map .str))) := ea
        cases U with
        | cons u U =>
          exact .inr ⟨_, (by simp -implicitDefEqProofs [-List.map_map, -List.map_append] <;> first | exact rfl | exact ⟨rfl, rfl⟩ | exact ⟨rfl, rfl, rfl⟩ | exact ⟨rfl, rfl, rfl, rfl⟩), _, _, (by simp -implicitDefEqProofs [-List.map_map, -List.map_append, x_b6__law_fits, Dd.d, ixT0, ixT1, ixT2, ixT3, eq_settell, er, ec1, lst1, ea', ec2] <;> first | exact rfl | exact ⟨rfl, rfl⟩ | exact ⟨rfl, rfl, rfl⟩ | exact ⟨rfl, rfl, rfl, rfl⟩), rfl, ⟨.put r.n c ps, hm, no (fun h => by cases h.1)⟩, _, rfl⟩
        | nil =>
          by_cases hc : 9999 < abI c
          · exact .inr ⟨_, (by simp -implicitDefEqProofs [-List.map_map, -List.map_append] <;> first | exact rfl | exact ⟨rfl, rfl⟩ | exact ⟨rfl, rfl, rfl⟩ | exact ⟨rfl, rfl, rfl, rfl⟩), _, _, (by simp -implicitDefEqProofs [-List.map_map, -List.map_append, x_b6__law_fits, Dd.d, ixT0, ixT1, ixT2, ixT3, eq_settell, er, ec1, lst1, ea', ec2, -r_abs, r_abI, hc] <;> first | exact rfl | exact ⟨rfl, rfl⟩ | exact ⟨rfl, rfl, rfl⟩ | exact ⟨rfl, rfl, rfl, rfl⟩), rfl, ⟨.put r.n c ps, hm, no (fun h => h.2.1 hc)⟩, _, rfl⟩
          · cases V with
            | cons v V =>
              exact .inr ⟨_, (by simp -implicitDefEqProofs [-List.map_map, -List.map_append] <;> first | exact rfl | exact ⟨rfl, rfl⟩ | exact ⟨rfl, rfl, rfl⟩ | exact ⟨rfl, rfl, rfl, rfl⟩), _, _, (by simp -implicitDefEqProofs [-List.map_map, -List.map_append, x_b6__law_fits, Dd.d, ixT0, ixT1, ixT2, ixT3, eq_settell, er, ec1, lst1, ea', ec2, -r_abs, r_abI, hc, ec3] <;> first | exact rfl | exact ⟨rfl, rfl⟩ | exact ⟨rfl, rfl, rfl⟩ | exact ⟨rfl, rfl, rfl, rfl⟩), rfl, ⟨.put r.n c ps, hm, no (fun h => by cases h.2.2)⟩, _, rfl⟩
            | nil =>
              exact .inl (.nx (by simp -implicitDefEqProofs [-List.map_map, -List.map_append] <;> first | exact rfl | exact ⟨rfl, rfl⟩ | exact ⟨rfl, rfl, rfl⟩ | exact ⟨rfl, rfl, rfl, rfl⟩) (by simp -implicitDefEqProofs [-List.map_map, -List.map_append, x_b6__law_fits, Dd.d, ixT0, ixT1, ixT2, ixT3, eq_settell, er, ec1, lst1, ea', ec2, -r_abs, r_abI, hc, ec3] <;> first | exact rfl | exact ⟨rfl, rfl⟩ | exact ⟨rfl, rfl, rfl⟩ | exact ⟨rfl, rfl, rfl, rfl⟩) ⟨snoc (hgd.mpr ⟨rfl, hc, rfl⟩), some (Dd.put r.n c ps).d, some (.tup (rows.map prD)), some (.lst (us.map .str)), rfl⟩)) with ⟨ρ', e, hg, j3, j4, j5, rfl⟩ | ⟨r, ρ', e, rfl, ⟨d, hm, hd⟩, x, rfl⟩
  · refine er_seq e ?_
    have : (pl.all fun d => G.good names words d.g) = true := List.all_eq_true.mpr hg
    rw [hgs, this]
    exact er_end (by simp -implicitDefEqProofs [-List.map_map, -List.map_append, h12] <;> first | exact rfl | exact ⟨rfl, rfl⟩ | exact ⟨rfl, rfl, rfl⟩ | exact ⟨rfl, rfl, rfl, rfl⟩) ⟨rfl, rfl⟩
  · refine er_seqR e ?_
    have : (pl.all fun d => G.good names words d.g) = false := List.all_eq_false.mpr ⟨d, hm, by rw [hd]; simp⟩
    rw [hgs, this]
    exact er_end (by simp -implicitDefEqProofs [-List.map_map, -List.map_append] <;> first | exact rfl | exact ⟨rfl, rfl⟩ | exact ⟨rfl, rfl, rfl⟩ | exact ⟨rfl, rfl, rfl, rfl⟩) ⟨rfl, rfl⟩
end DL

/-! K2zc: k02: judged. -/
namespace DL
open PySem PySem.Spec
instance {x : Str} : Decidable (LN x) := inferInstanceAs (Decidable (_ ∧ _))
def nineP : List (Str × Int) := (List.range 9).map fun k => ("n" ++ Sn (k + 1), 1)
theorem nine_ln : ∀ p ∈ nineP, LN p.1 ∧ p.2.natAbs ≤ 100 := by decide +kernel
theorem fixed_ln : LN "n1" ∧ LN "n2" ∧ LN "n9" ∧ LN "unknownname1" ∧ LN "sparename123" := by decide +kernel
theorem psl1 {m : Str} {f : Int} (h : LN m) (k : f.natAbs ≤ 100) : PsL [(m, f)] := ⟨fun p hp => by rw [List.mem_singleton] at hp; subst hp; exact ⟨h, k⟩, by simp⟩
theorem psl0 : PsL [] := ⟨fun p hp => absurd hp List.not_mem_nil, Nat.zero_le _⟩
theorem psl9 : PsL nineP := ⟨nine_ln, by decide⟩
theorem psl8 : PsL (nineP.take 8) := ⟨fun p hp => nine_ln p (List.mem_of_mem_take hp), by decide⟩
theorem term1 {m : Str} {f : Int} : ∀ p ∈ terms [(m, f)], p = (m, f) := fun p hp => by
  obtain ⟨h1, h2, _⟩ := mem_terms.mp hp
  have h1 : p.1 = m := by simpa using h1
  rw [h1, gt_facs] at h2
  simp at h2
  exact Prod.ext h1 h2
theorem good_of {names words : List Str} {n : Str} {c : Int} {ps : List (Str × Int)} (h1 : n ∈ names) (h2 : -9999 ≤ c ∧ c ≤ 9999) (h3 : ps.length ≤ 8) (h4 : ∀ p ∈ terms ps, p.1 ∈ names ∧ -99 ≤ p.2 ∧ p.2 ≤ 99) : G.good names words (.put n c ps) = true := by
  show (decide (n ∈ names) && (smallB c ps && (terms ps).all fun p => decide (p.1 ∈ names))) = true
  have h8 : ¬ (8 : Int) < ((terms ps).length : Int) := by have := len_terms ps; omega
  have hc : ¬ 9999 < abI c := by unfold abI; split <;> omega
  unfold smallB
  simp only [Bool.and_eq_true, decide_eq_true_eq, List.all_eq_true, Bool.not_eq_true', decide_eq_false_iff_not]
  exact ⟨h1, ⟨⟨h8, hc⟩, fun p hp => abI_le.mpr (h4 p hp).2⟩, fun p hp => (h4 p hp).1⟩
theorem good_mono {names wide words : List Str} (h : ∀ x ∈ names, x ∈ wide) {g : G} (hg : g.good names words = true) : g.good wide words = true := by
  cases g with
  | tell w => exact hg
  | oth k x r => exact hg
  | put n c ps =>
    change (decide (n ∈ names) && (smallB c ps && (terms ps).all fun p => decide (p.1 ∈ names))) = true at hg
    show (decide (n ∈ wide) && (smallB c ps && (terms ps).all fun p => decide (p.1 ∈ wide))) = true
    simp only [Bool.and_eq_true, decide_eq_true_eq, List.all_eq_true] at hg ⊢
    exact ⟨h _ hg.1, hg.2.1, fun p hp => h _ (hg.2.2 p hp)⟩
theorem set_last {gs : List G} {x y : G} {i : Int} (hi : i = gs.length) : setO (.lst ((gs ++ [x]).map G.d)) (.int i) y.d = some (.lst ((gs ++ [y]).map G.d)) := by
  show (L2.ixN ((gs ++ [x]).map G.d).length i).map (fun j => OV.lst (((gs ++ [x]).map G.d).set j y.d)) = _
  have : L2.ixN ((gs ++ [x]).map G.d).length i = some gs.length := by
    unfold L2.ixN
    rw [hi]
    simp
    omega
  rw [this]
  show some (OV.lst (((gs ++ [x]).map G.d).set gs.length y.d)) = _
  congr 2
  rw [List.map_append, List.map_append]
  have e : gs.length = (gs.map G.d).length + 0 := by simp
  rw [e, List.set_append_right _ _ (by simp)]
  simp
structure NW (names words : List Str) : Prop where
  ln : ∀ w ∈ names, LN w
  no : ("unknownname1" : Str) ∉ names
  ne : names ≠ []
  len : names.length ≤ 4
  ws : ∀ w ∈ words, Asc 9 w
  wl : words.length = 3
def wide (names : List Str) : List Str := names ++ nineP.map Prod.fst
theorem unk_nine : ("unknownname1" : Str) ∉ nineP.map Prod.fst := by decide +kernel
theorem n1_nine : ("n1" : Str) ∈ nineP.map Prod.fst ∧ ("n2" : Str) ∈ nineP.map Prod.fst ∧ ("n9" : Str) ∈ nineP.map Prod.fst := by decide +kernel
theorem nine_terms : ∀ p ∈ terms (nineP.take 8), p.1 ∈ nineP.map Prod.fst ∧ -99 ≤ p.2 ∧ p.2 ≤ 99 := by decide +kernel
theorem nine_small : smallB 0 nineP = false := by decide +kernel
theorem odd_small : smallB 10000 [] = false ∧ smallB (-10000) [] = false ∧ smallB 0 [("n2", 100)] = false ∧ smallB 0 [("n2", -100)] = false := by decide +kernel
theorem unk_terms : terms [("unknownname1", 1)] = [(("unknownname1" : Str), (1 : Int))] := by decide +kernel
theorem unk_word : (9 : Nat) < ("unknownword1" : Str).length := by decide +kernel
def oddG (n0 w0 w1 : Str) : List G := [.put n0 (-9999) [(n0, -99)], .tell w1, .put "n1" 9999 (nineP.take 8), .put "n9" 0 [("n1", 99)], .put "unknownname1" 0 [], .put "n1" 0 nineP, .put "n1" 0 [("unknownname1", 1)], .tell "unknownword1", .put "n1" 10000 [], .put "n1" (-10000) [], .put "n1" 0 [("n2", 100)], .put "n1" 0 [("n2", -100)], .oth "put" "n1" [sumD 0 []], .oth "say" w0 [], .oth "Set" "n1" [sumD 0 []]]
theorem odd_good {names words : List Str} (h : NW names words) {n0 w0 w1 : Str} (h0 : n0 ∈ names) (h1 : w1 ∈ words) : ∀ (i : Nat) (g : G), (oddG n0 w0 w1)[i]? = some g → g.good (wide names) words = decide ((i : Int) < 4) := by
  obtain ⟨q1, q2, q9⟩ := n1_nine
  have m : ∀ x, x ∈ nineP.map Prod.fst → x ∈ wide names := fun x hx => List.mem_append_right _ hx
  have m0 : n0 ∈ wide names := List.mem_append_left _ h0
  have un : ("unknownname1" : Str) ∉ wide names := fun hx => (List.mem_append.mp hx).elim h.no unk_nine
  have bad : ∀ n c ps, smallB c ps = false → G.good (wide names) words (.put n c ps) = false := fun n c ps hs => by
    show (decide (n ∈ wide names) && (smallB c ps && _)) = false
    rw [hs]; simp
  intro i g e
  have hi : i < 15 := (List.getElem?_eq_some_iff.mp e).1
  match i, hi with
  | 0, _ => cases e; exact good_of m0 (by decide) (by simp) fun p hp => by rw [term1 p hp]; exact ⟨m0, by show (-99 : Int) ≤ -99 ∧ (-99 : Int) ≤ 99; decide⟩
  | 1, _ => cases e; exact decide_eq_true h1
  | 2, _ => cases e; exact good_of (m _ q1) (by decide) (by decide) fun p hp => let ⟨a, b⟩ := nine_terms p hp; ⟨m _ a, b⟩
  | 3, _ => cases e; exact good_of (m _ q9) (by decide) (by simp) fun p hp => by rw [term1 p hp]; exact ⟨m _ q1, by decide⟩
  | 4, _ =>
    cases e
    show (decide (("unknownname1" : Str) ∈ wide names) && _) = false
    rw [decide_eq_false un]; rfl
  | 5, _ => cases e; exact bad _ _ _ nine_small
  | 6, _ =>
    cases e
    show (decide (_ ∈ wide names) && (smallB _ _ && (terms [("unknownname1", 1)]).all fun p => decide (p.1 ∈ wide names))) = false
    rw [unk_terms]
    simp [un]
  | 7, _ =>
    cases e
    exact decide_eq_false fun hx => by have := (h.ws _ hx).1; have := unk_word; omega
  | 8, _ => cases e; exact bad _ _ _ odd_small.1
  | 9, _ => cases e; exact bad _ _ _ odd_small.2.1
  | 10, _ => cases e; exact bad _ _ _ odd_small.2.2.1
  | 11, _ => cases e; exact bad _ _ _ odd_small.2.2.2
  | 12, _ => cases e; rfl
  | 13, _ => cases e; rfl
  | 14, _ => cases e; rfl
  | n + 15, h => exact absurd h (by omega)
theorem kinds_ok : PyData.strOk "put" = true ∧ PyData.strOk "say" = true ∧ PyData.strOk "Set" = true ∧ PyData.strOk "unknownword1" = true ∧ (("put" : Str) ≠ "tell" ∧ ("put" : Str) ≠ "set") ∧ (("say" : Str) ≠ "tell" ∧ ("say" : Str) ≠ "set") ∧ (("Set" : Str) ≠ "tell" ∧ ("Set" : Str) ≠ "set") := by decide +kernel
theorem odd_ok {names words : List Str} (h : NW names words) {n0 w0 w1 : Str} (h0 : n0 ∈ names) (hw0 : w0 ∈ words) (h1 : w1 ∈ words) : ∀ g ∈ oddG n0 w0 w1, GOk g := by
  obtain ⟨f1, f2, f9, fu, _⟩ := fixed_ln
  obtain ⟨k1, k2, k3, k4, k5, k6, k7⟩ := kinds_ok
  intro g hg
  have l0 := h.ln _ h0
  simp only [oddG, List.mem_cons, List.not_mem_nil, or_false] at hg
  rcases hg with rfl | rfl | rfl | rfl | rfl | rfl | rfl | rfl | rfl | rfl | rfl | rfl | rfl | rfl | rfl
  · exact ⟨strOk_LN l0, psl1 l0 (by decide)⟩
  · exact (h.ws _ h1).ok
  · exact ⟨strOk_LN f1, psl8⟩
  · exact ⟨strOk_LN f9, psl1 f1 (by decide)⟩
  · exact ⟨strOk_LN fu, psl0⟩
  · exact ⟨strOk_LN f1, psl9⟩
  · exact ⟨strOk_LN f1, psl1 fu (by decide)⟩
  · exact k4
  · exact ⟨strOk_LN f1, psl0⟩
  · exact ⟨strOk_LN f1, psl0⟩
  · exact ⟨strOk_LN f1, psl1 f2 (by decide)⟩
  · exact ⟨strOk_LN f1, psl1 f2 (by decide)⟩
  · exact ⟨k5.1, k5.2, k1, strOk_LN f1⟩
  · exact ⟨k6.1, k6.2, k2, (h.ws _ hw0).ok⟩
  · exact ⟨k7.1, k7.2, k3, strOk_LN f1⟩
end DL

/-! K2zd: k02: the judging, run. -/
namespace DL
open PySem PySem.Spec
theorem cut_mid {ds : List D} {p q : Nat} : cutD ds (some (p : Int)) (some (q : Int)) = (ds.drop (min p ds.length)).take (min q ds.length - min p ds.length) := by
  unfold cutD
  show (ds.drop (if (p : Int) < 0 then ((p : Int) + ds.length).toNat else min (p : Int).toNat ds.length)).take ((if (q : Int) < 0 then ((q : Int) + ds.length).toNat else min (q : Int).toNat ds.length) - (if (p : Int) < 0 then ((p : Int) + ds.length).toNat else min (p : Int).toNat ds.length)) = _
  rw [if_neg (by omega), if_neg (by omega), Int.toNat_natCast, Int.toNat_natCast]
theorem addE {x y : List D} (h : x.length + y.length ≤ 1000) : opAdd (.lst x) (.lst y) = some (.nw (.lst (x ++ y))) := r_addL (by have := sizeLine_eq; omega)
theorem nine_items : nineP.map prD = (List.range 9).map fun k => D.tup [.str ("n" ++ Sn (k + 1)), .int 1] := by
  unfold nineP
  rw [List.map_map]; rfl
theorem n_asc : Asc 1 "n" := by decide +kernel
theorem goods_all {names words : List Str} {gs : List G} (h : ∀ g ∈ gs, g.good names words = true) : goods names words gs = decide ((gs.length : Int) ≤ 12) := by
  unfold goods
  rw [List.all_eq_true.mpr h, Bool.and_true]
theorem run_judged {hs : List Int} (hne : hs ≠ []) {names words : List Str} (h : NW names words) : ∃ hs' : List Int, F__law_judged [.ow true (hD hs), .fz (.lst (names.map .str)), .fz (.lst (words.map .str))] = .ok (.val (.bl true)) [.ow true (hD hs'), .fz (.lst (names.map .str)), .fz (.lst (words.map .str))] := by
  suffices q : Gives (fun v a => ∃ hs' : List Int, v = .val (.bl true) ∧ a = [.ow true (hD hs'), .fz (.lst (names.map .str)), .fz (.lst (words.map .str))]) (F__law_judged [.ow true (hD hs), .fz (.lst (names.map .str)), .fz (.lst (words.map .str))]) by
    obtain ⟨_, _, e, hs', rfl, rfl⟩ := q
    exact ⟨hs', e⟩
  have hz := sizeLine_eq
  have hnl := h.len
  have hn0 : 0 < names.length := List.length_pos_iff.mpr h.ne
  have hwl := h.wl
  have lm : (names.map D.str).length = names.length := List.length_map ..
  refine er_run ?_
  unfold d__law_judged
  refine er_seq (by simp -implicitDefEqProofs [-List.map_map, -List.map_append, lst0] <;> first | exact rfl | exact ⟨rfl, rfl⟩ | exact ⟨rfl, rfl, rfl⟩ | exact ⟨rfl, rfl, rfl, rfl⟩) ?_
  refine er_out (for_N (lo := 0) (n := 13) (fun i ρ => ∃ (hs : List Int) (gs : List G) (j4 j5 j6 : Option D), hs ≠ [] ∧ gs.length = i ∧ (∀ g ∈ gs, GOk g ∧ g.good names words = true) ∧ ρ = [.ow true (hD hs), .fz (.lst (names.map .str)), .fz (.lst (words.map .str)), .ow false (.lst (gs.map G.d)), jk j4, jk j5, jk j6, .no, .no, .no, .no, .no, .no, .no, .no]) (by simp -implicitDefEqProofs [show fits62 13 = true by decide] <;> first | exact rfl | exact ⟨rfl, rfl⟩ | exact ⟨rfl, rfl, rfl⟩) ⟨hs, [], none, none, none, hne, rfl, by simp, rfl⟩ ?_) ?_
  · rintro i hi ρ ⟨hs, gs, j4, j5, j6, hne, hl, hg, rfl⟩
    obtain ⟨v1, hs1, n1, a1, b1, e1⟩ := draw hs hne names.length (by omega) (by omega)
    obtain ⟨nm, hnm, en, _⟩ := ixL (enc := D.str) (xs := names) a1 b1
    obtain ⟨v2, hs2, n2, a2, b2, e2⟩ := draw hs1 n1 names.length (by omega) (by omega)
    obtain ⟨mm, hmm, em, _⟩ := ixL (enc := D.str) (xs := names) a2 b2
    obtain ⟨v3, hs3, n3, a3, b3, e3⟩ := draw hs2 n2 199 (by decide) (by decide)
    obtain ⟨v4, hs4, n4, a4, b4, e4⟩ := draw hs3 n3 3 (by decide) (by decide)
    obtain ⟨w, hw, ew, _⟩ := ixL (enc := D.str) (xs := words) a4 (by omega)
    obtain ⟨v5, hs5, n5, a5, b5, e5⟩ := draw hs4 n4 3 (by decide) (by decide)
    have app := appM (enc := G.d) (xs := gs) (x := .tell w) (by omega)
    change moAppend _ [.tup [.str "tell", .str w]] = _ at app
    by_cases h2 : v5 < 2
    · obtain ⟨v6, hs6, n6, a6, b6, e6⟩ := draw hs5 n5 19999 (by decide) (by decide)
      have ei : F_Sum__init [.ow true (.ins "Sum" []), .fz (.int (9999 - v6)), .fz (.lst [.tup [.str mm, .int (99 - v3)]])] = .ok (.val .non) [.ow true (.ins "Sum" (sumF (9999 - v6) [(mm, 99 - v3)])), .fz (.int (9999 - v6)), .fz (.lst [.tup [.str mm, .int (99 - v3)]])] := run_init (c := 9999 - v6) (psl1 (m := mm) (f := 99 - v3) (h.ln _ hmm) (by omega))
      have st := set_last (gs := gs) (x := .tell w) (y := .put nm (9999 - v6) [(mm, 99 - v3)]) (i := (i : Int)) (by rw [hl])
      change setO _ _ (.tup [.str "set", .str nm, .ins "Sum" (sumF (9999 - v6) [(mm, 99 - v3)])]) = _ at st
      refine .nx (by simp -implicitDefEqProofs [-List.map_map, -List.map_append] <;> first | exact rfl | exact ⟨rfl, rfl⟩ | exact ⟨rfl, rfl, rfl⟩ | exact ⟨rfl, rfl, rfl, rfl⟩) (ρ2 := [.ow true (hD hs6), .fz (.lst (names.map .str)), .fz (.lst (words.map .str)), .ow false (.lst ((gs ++ [G.put nm (9999 - v6) [(mm, 99 - v3)]]).map G.d)), .fz (.int (0 + i)), .fz (.str nm), .fz (.lst [.tup [.str mm, .int (99 - v3)]]), .no, .no, .no, .no, .no, .no, .no, .no]) ?_ ⟨hs6, _, some _, some _, some _, n6, by simp [hl], ?_, rfl⟩
      · simp -implicitDefEqProofs [-List.map_map, -List.map_append, x_b1__law_judged, lm, e1, en, e2, em, e3, e4, ew, e5, e6, h2, tup2, tup3, lst1, app, ei, st]
      · intro g hg'
        rcases List.mem_append.mp hg' with q | q
        · exact hg g q
        · rw [List.mem_singleton] at q
          subst q
          exact ⟨⟨strOk_LN (h.ln _ hnm), psl1 (h.ln _ hmm) (by omega)⟩, good_of hnm (by omega) (by simp) fun p hp => by rw [term1 p hp]; exact ⟨hmm, by dsimp only; omega⟩⟩
    · refine .nx (by simp -implicitDefEqProofs [-List.map_map, -List.map_append] <;> first | exact rfl | exact ⟨rfl, rfl⟩ | exact ⟨rfl, rfl, rfl⟩ | exact ⟨rfl, rfl, rfl, rfl⟩) (ρ2 := [.ow true (hD hs5), .fz (.lst (names.map .str)), .fz (.lst (words.map .str)), .ow false (.lst ((gs ++ [G.tell w]).map G.d)), .fz (.int (0 + i)), .fz (.str nm), .fz (.lst [.tup [.str mm, .int (99 - v3)]]), .no, .no, .no, .no, .no, .no, .no, .no]) ?_ ⟨hs5, _, some _, some _, some _, n5, by simp [hl], ?_, rfl⟩
      · simp -implicitDefEqProofs [-List.map_map, -List.map_append, x_b1__law_judged, lm, e1, en, e2, em, e3, e4, ew, e5, h2, tup2, lst1, app]
      · intro g hg'
        rcases List.mem_append.mp hg' with q | q
        · exact hg g q
        · rw [List.mem_singleton] at q
          subst q
          exact ⟨(h.ws _ hw).ok, decide_eq_true hw⟩
  rintro ρ ⟨hs, gs, j4, j5, j6, hne, hgl, hg, rfl⟩
  have nok : ∀ w ∈ names, PyData.strOk w = true := fun w hw => strOk_LN (h.ln w hw)
  have wok : ∀ w ∈ words, PyData.strOk w = true := fun w hw => (h.ws w hw).ok
  have mN := Mem.lst nok
  have mN' := Mem.tup names
  have mW := Mem.lst wok
  have mW' := Mem.tup words
  refine er_out (for_T D.int (xs := [0, 1, 12, 13]) (fun dn ρ => ∃ j7 : Option D, ρ = [.ow true (hD hs), .fz (.lst (names.map .str)), .fz (.lst (words.map .str)), .ow false (.lst (gs.map G.d)), jk j4, jk j5, jk j6, jk j7, .no, .no, .no, .no, .no, .no, .no]) (by simp -implicitDefEqProofs [lst4] <;> first | exact rfl | exact ⟨rfl, rfl⟩ | exact ⟨rfl, rfl, rfl⟩) ⟨none, rfl⟩ ?_) ?_
  · rintro dn m td e ρ ⟨j7, rfl⟩
    obtain ⟨n, hn, rfl⟩ : ∃ n : Nat, n ≤ 13 ∧ m = n := by
      have : m ∈ [(0 : Int), 1, 12, 13] := by rw [e]; simp
      simp only [List.mem_cons, List.not_mem_nil, or_false] at this
      rcases this with rfl | rfl | rfl | rfl
      · exact ⟨0, by decide, rfl⟩
      · exact ⟨1, by decide, rfl⟩
      · exact ⟨12, by decide, rfl⟩
      · exact ⟨13, by decide, rfl⟩
    have ok1 : ∀ g ∈ gs.take n, GOk g := fun g h => (hg g (List.mem_of_mem_take h)).1
    have gd : goods names words (gs.take n) = decide ((n : Int) < 13) := by
      rw [goods_all fun g h => (hg g (List.mem_of_mem_take h)).2, List.length_take, Nat.min_eq_left (by omega)]
      congr 1
      exact propext ⟨fun h => by omega, fun h => by omega⟩
    have r1 := run_is_deeds ok1 (Seq.lst (gs.take n)) mN mW'
    have r2 := run_is_deeds ok1 (Seq.tup (gs.take n)) mN' mW
    rw [gd] at r1 r2
    have rr := run_right (decide ((n : Int) < 13)) (decide ((n : Int) < 13))
    rw [beq_self_eq_true] at rr
    have cu : cutD (gs.map G.d) none (some (n : Int)) = (gs.take n).map G.d := by rw [cut_take, List.map_take]
    generalize (gs.take n).map G.d = ds at r1 r2 cu
    generalize hb : decide ((n : Int) < 13) = b at r1 r2 rr
    exact .nx (by simp -implicitDefEqProofs [-List.map_map, -List.map_append] <;> first | exact rfl | exact ⟨rfl, rfl⟩ | exact ⟨rfl, rfl, rfl⟩ | exact ⟨rfl, rfl, rfl, rfl⟩) (by simp -implicitDefEqProofs [-List.map_map, -List.map_append, x_b2__law_judged, cu, r1, r2, rr, hb] <;> first | exact rfl | exact ⟨rfl, rfl⟩ | exact ⟨rfl, rfl, rfl⟩ | exact ⟨rfl, rfl, rfl, rfl⟩) ⟨some _, rfl⟩
  rintro ρ ⟨j7, rfl⟩
  -- nine, wide
  have e9 := fun (s0 s1 s2 s3 s5 s6 s7 s8 s9 s10 s11 s12 s13 s14 : Sl) => comp_T (ρ := [s0, s1, s2, s3, .no, s5, s6, s7, s8, s9, s10, s11, s12, s13, s14]) (tgt := tgName 4) (cond := eYes) (elt := e3__law_judged) (vs := [4]) (fun k : Nat => D.int (1 + (k : Int))) (fun k => D.tup [.str ("n" ++ Sn (k + 1)), .int 1]) (List.range 9) [] (fun k hk => by
    have hk := List.mem_range.mp hk
    have es : cStr [.int (1 + (k : Int))] = some (.val (.str (Sn (k + 1)))) := by
      have := r_strI (i := ((k + 1 : Nat) : Int)) (log_small (by omega))
      have e : ((k + 1 : Nat) : Int) = 1 + (k : Int) := by omega
      rw [e] at this
      rw [this]
      unfold Sn
      rw [e]
    have ea := addA n_asc (Sn_dec (k + 1) (by omega)).2.1 (by decide)
    exact ⟨_, _, _, _, (by simp -implicitDefEqProofs [-List.map_map, -List.map_append] <;> first | exact rfl | exact ⟨rfl, rfl⟩ | exact ⟨rfl, rfl, rfl⟩ | exact ⟨rfl, rfl, rfl, rfl⟩), rfl, (by simp -implicitDefEqProofs [-List.map_map, -List.map_append, x_e3__law_judged, es, ea, tup2] <;> first | exact rfl | exact ⟨rfl, rfl⟩ | exact ⟨rfl, rfl, rfl⟩ | exact ⟨rfl, rfl, rfl, rfl⟩), rfl, (by simp -implicitDefEqProofs [-List.map_map, -List.map_append] <;> first | exact rfl | exact ⟨rfl, rfl⟩ | exact ⟨rfl, rfl, rfl⟩ | exact ⟨rfl, rfl, rfl, rfl⟩)⟩) (by simp; omega)
  rw [← nine_items] at e9
  simp only [List.nil_append] at e9
  have e9' := e9
  have er : ∀ lo n, rangeD lo n = (List.range n).map fun k : Nat => D.int (lo + (k : Int)) := fun _ _ => rfl
  have ft : (fits62 1 && fits62 10) = true := by decide
  refine er_seq (ρ' := [.ow true (hD hs), .fz (.lst (names.map .str)), .fz (.lst (words.map .str)), .ow false (.lst (gs.map G.d)), .no, jk j5, jk j6, jk j7, .fz (.lst (nineP.map prD)), .no, .no, .no, .no, .no, .no]) (by
    have f1 : fits62 1 = true := by decide
    have f10 : fits62 10 = true := by decide
    have t9 : ((10 : Int) - 1).toNat = 9 := rfl
    simp -implicitDefEqProofs [-List.map_map, -List.map_append, f1, f10, t9, er, e9]) ?_
  have e4 := fun (s0 s1 s2 s3 s4 s5 s6 s7 s9 s10 s11 s12 s13 : Sl) => comp_T (ρ := [s0, s1, s2, s3, s4, s5, s6, s7, .fz (.lst (nineP.map prD)), s9, s10, s11, s12, s13, .no]) (tgt := tgName 14) (cond := eYes) (elt := e4__law_judged) (vs := [14]) prD (fun p => .str p.1) nineP [] (fun p _ => ⟨_, _, _, _, (by simp -implicitDefEqProofs [-List.map_map, -List.map_append] <;> first | exact rfl | exact ⟨rfl, rfl⟩ | exact ⟨rfl, rfl, rfl⟩ | exact ⟨rfl, rfl, rfl, rfl⟩), rfl, (by simp -implicitDefEqProofs [-List.map_map, -List.map_append, x_e4__law_judged, prD, ixT0] <;> first | exact rfl | exact ⟨rfl, rfl⟩ | exact ⟨rfl, rfl, rfl⟩ | exact ⟨rfl, rfl, rfl, rfl⟩), rfl, (by simp -implicitDefEqProofs [-List.map_map, -List.map_append] <;> first | exact rfl | exact ⟨rfl, rfl⟩ | exact ⟨rfl, rfl, rfl⟩ | exact ⟨rfl, rfl, rfl, rfl⟩)⟩) (by have : nineP.length = 9 := rfl; rw [List.length_nil, this]; omega)
  have em : nineP.map (fun p => D.str p.1) = (nineP.map Prod.fst).map .str := by rw [List.map_map]; rfl
  simp only [List.nil_append, em] at e4
  have aw := addM (enc := D.str) (xs := names) (ys := nineP.map Prod.fst) (by have : nineP.length = 9 := rfl; simp; omega)
  change _ = some (R.nw (.lst ((wide names).map .str))) at aw
  generalize hnp : (nineP.map Prod.fst).map D.str = np at e4 aw
  refine er_seq (ρ' := [.ow true (hD hs), .fz (.lst (names.map .str)), .fz (.lst (words.map .str)), .ow false (.lst (gs.map G.d)), .no, jk j5, jk j6, jk j7, .fz (.lst (nineP.map prD)), .fz (.lst ((wide names).map .str)), .no, .no, .no, .no, .no]) (by
    simp -implicitDefEqProofs [-List.map_map, -List.map_append, e4, aw]) ?_
  -- the odd ones
  obtain ⟨n0, h0, en0, _⟩ := ixL (enc := D.str) (xs := names) (i := 0) (by decide) (by omega)
  obtain ⟨w0, hw0, ew0, _⟩ := ixL (enc := D.str) (xs := words) (i := 0) (by decide) (by omega)
  obtain ⟨w1, hw1, ew1, _⟩ := ixL (enc := D.str) (xs := words) (i := 1) (by decide) (by omega)
  obtain ⟨f1, f2, f9, fu, _⟩ := fixed_ln
  have i1 : F_Sum__init [.ow true (.ins "Sum" []), .fz (.int (-9999)), .fz (.lst [.tup [.str n0, .int (-99)]])] = .ok (.val .non) [.ow true (.ins "Sum" (sumF (-9999) [(n0, -99)])), .fz (.int (-9999)), .fz (.lst [.tup [.str n0, .int (-99)]])] := run_init (psl1 (m := n0) (f := -99) (h.ln _ h0) (by decide))
  have i2 : F_Sum__init [.ow true (.ins "Sum" []), .fz (.int 9999), .fz (.lst ((nineP.take 8).map prD))] = .ok (.val .non) [.ow true (.ins "Sum" (sumF 9999 (nineP.take 8))), .fz (.int 9999), .fz (.lst ((nineP.take 8).map prD))] := run_init psl8
  have i3 : F_Sum__init [.ow true (.ins "Sum" []), .fz (.int 0), .fz (.lst [.tup [.str "n1", .int 99]])] = .ok (.val .non) [.ow true (.ins "Sum" (sumF 0 [("n1", 99)])), .fz (.int 0), .fz (.lst [.tup [.str "n1", .int 99]])] := run_init (psl1 (m := "n1") (f := 99) f1 (by decide))
  have i4 : ∀ c, F_Sum__init [.ow true (.ins "Sum" []), .fz (.int c), .fz (.lst [])] = .ok (.val .non) [.ow true (.ins "Sum" (sumF c [])), .fz (.int c), .fz (.lst [])] := fun c => run_init psl0
  have i5 : F_Sum__init [.ow true (.ins "Sum" []), .fz (.int 0), .fz (.lst (nineP.map prD))] = .ok (.val .non) [.ow true (.ins "Sum" (sumF 0 nineP)), .fz (.int 0), .fz (.lst (nineP.map prD))] := run_init psl9
  have i6 : F_Sum__init [.ow true (.ins "Sum" []), .fz (.int 0), .fz (.lst [.tup [.str "unknownname1", .int 1]])] = .ok (.val .non) [.ow true (.ins "Sum" (sumF 0 [("unknownname1", 1)])), .fz (.int 0), .fz (.lst [.tup [.str "unknownname1", .int 1]])] := run_init (psl1 (m := "unknownname1") (f := 1) fu (by decide))
  have i7 : F_Sum__init [.ow true (.ins "Sum" []), .fz (.int 0), .fz (.lst [.tup [.str "n2", .int 100]])] = .ok (.val .non) [.ow true (.ins "Sum" (sumF 0 [("n2", 100)])), .fz (.int 0), .fz (.lst [.tup [.str "n2", .int 100]])] := run_init (psl1 (m := "n2") (f := 100) f2 (by decide))
  have i8 : F_Sum__init [.ow true (.ins "Sum" []), .fz (.int 0), .fz (.lst [.tup [.str "n2", .int (-100)]])] = .ok (.val .non) [.ow true (.ins "Sum" (sumF 0 [("n2", -100)])), .fz (.int 0), .fz (.lst [.tup [.str "n2", .int (-100)]])] := run_init (psl1 (m := "n2") (f := -100) f2 (by decide))
  have c8 : cutD (nineP.map prD) none (some 8) = (nineP.take 8).map prD := by
    show cutD (nineP.map prD) none (some ((8 : Nat) : Int)) = _
    rw [cut_take, List.map_take]
  generalize hS1 : sumF (-9999) [(n0, -99)] = S1 at i1
  generalize hS2 : sumF 9999 (nineP.take 8) = S2 at i2
  generalize (nineP.take 8).map prD = P8 at c8 i2
  generalize hS3 : sumF 0 [("n1", 99)] = S3 at i3
  generalize hS5 : sumF 0 nineP = S5 at i5
  generalize nineP.map prD = P9 at c8 i5 ⊢
  generalize hS6 : sumF 0 [("unknownname1", 1)] = S6 at i6
  generalize hS7 : sumF 0 [("n2", 100)] = S7 at i7
  generalize hS8 : sumF 0 [("n2", -100)] = S8 at i8
  refine er_seq (by simp -implicitDefEqProofs [-List.map_map, -List.map_append, en0, ew1, i1, tup2, tup3, lst1, lst2] <;> first | exact rfl | exact ⟨rfl, rfl⟩ | exact ⟨rfl, rfl, rfl⟩ | exact ⟨rfl, rfl, rfl, rfl⟩) ?_
  refine er_seq (by simp -implicitDefEqProofs [-List.map_map, -List.map_append, c8, i2, i3, tup2, tup3, lst1, lst2, addE] <;> first | exact rfl | exact ⟨rfl, rfl⟩ | exact ⟨rfl, rfl, rfl⟩ | exact ⟨rfl, rfl, rfl, rfl⟩) ?_
  refine er_seq (by simp -implicitDefEqProofs [-List.map_map, -List.map_append, i4, i5, tup2, tup3, lst0, lst1, lst2, addE] <;> first | exact rfl | exact ⟨rfl, rfl⟩ | exact ⟨rfl, rfl, rfl⟩ | exact ⟨rfl, rfl, rfl, rfl⟩) ?_
  refine er_seq (by simp -implicitDefEqProofs [-List.map_map, -List.map_append, i6, tup2, tup3, lst1, lst2, addE] <;> first | exact rfl | exact ⟨rfl, rfl⟩ | exact ⟨rfl, rfl, rfl⟩ | exact ⟨rfl, rfl, rfl, rfl⟩) ?_
  refine er_seq (by simp -implicitDefEqProofs [-List.map_map, -List.map_append, i4, tup2, tup3, lst0, lst2, addE] <;> first | exact rfl | exact ⟨rfl, rfl⟩ | exact ⟨rfl, rfl, rfl⟩ | exact ⟨rfl, rfl, rfl, rfl⟩) ?_
  refine er_seq (by simp -implicitDefEqProofs [-List.map_map, -List.map_append, i7, i8, tup2, tup3, lst1, lst2, addE] <;> first | exact rfl | exact ⟨rfl, rfl⟩ | exact ⟨rfl, rfl, rfl⟩ | exact ⟨rfl, rfl, rfl, rfl⟩) ?_
  refine er_seq (by simp -implicitDefEqProofs [-List.map_map, -List.map_append, i4, ew0, tup2, tup3, lst0, lst3, addE] <;> first | exact rfl | exact ⟨rfl, rfl⟩ | exact ⟨rfl, rfl, rfl⟩ | exact ⟨rfl, rfl, rfl, rfl⟩) ?_
  subst hS1 hS2 hS3 hS5 hS6 hS7 hS8
  change EndsR _ _ (sSeq _ _ [.ow true (hD hs), .fz (.lst (names.map .str)), .fz (.lst (words.map .str)), .ow false (.lst (gs.map G.d)), .no, jk j5, jk j6, jk j7, .fz (.lst P9), .fz (.lst ((wide names).map .str)), .fz (.lst ((oddG n0 w0 w1).map G.d)), .no, .no, .no, .no])
  have ook := odd_ok h h0 hw0 hw1
  have og' : ∀ (i : Nat) (g : G), (oddG n0 w0 w1)[i]? = some g → g.good (wide names) words = decide ((i : Int) < 4) := odd_good h h0 hw1
  generalize oddG n0 w0 w1 = od at og' ook
  obtain ⟨pl, hs1, n1, a1, b1, e1⟩ := draw hs hne 12 (by decide) (by decide)
  obtain ⟨p, hp, rfl⟩ : ∃ p : Nat, p < 12 ∧ pl = p := ⟨pl.toNat, by omega, by omega⟩
  refine er_seq (by simp -implicitDefEqProofs [-List.map_map, -List.map_append, e1] <;> first | exact rfl | exact ⟨rfl, rfl⟩ | exact ⟨rfl, rfl, rfl⟩ | exact ⟨rfl, rfl, rfl, rfl⟩) ?_
  have wok' : ∀ w ∈ wide names, PyData.strOk w = true := fun w hw => by
    rcases List.mem_append.mp hw with q | q
    · exact nok w q
    · obtain ⟨p, hp, rfl⟩ := List.mem_map.mp q
      exact strOk_LN (nine_ln p hp).1
  have mD := Mem.lst wok'
  have mD' := Mem.tup (wide names)
  have cu1 : cutD (gs.map G.d) none (some (p : Int)) = (gs.take p).map G.d := by rw [cut_take, List.map_take]
  have cu2 : cutD (gs.map G.d) (some ((p : Int) + 1)) (some 12) = ((gs.drop (p + 1)).take (11 - p)).map G.d := by
    show cutD (gs.map G.d) (some ((p + 1 : Nat) : Int)) (some ((12 : Nat) : Int)) = _
    rw [cut_mid, List.length_map, hgl, Nat.min_eq_left (by omega), Nat.min_eq_left (by omega), List.map_take, List.map_drop]
    have : 12 - (p + 1) = 11 - p := by omega
    rw [this]
  generalize hA : gs.take p = A at cu1
  generalize hB : (gs.drop (p + 1)).take (11 - p) = B at cu2
  have hAl : A.length = p := by rw [← hA, List.length_take]; omega
  have hBl : B.length = 11 - p := by rw [← hB, List.length_take, List.length_drop]; omega
  have hAg : ∀ g ∈ A, GOk g ∧ g.good (wide names) words = true := fun g hx => by
    rw [← hA] at hx
    have := hg g (List.mem_of_mem_take hx)
    exact ⟨this.1, good_mono (fun x hx => List.mem_append_left _ hx) this.2⟩
  have hBg : ∀ g ∈ B, GOk g ∧ g.good (wide names) words = true := fun g hx => by
    rw [← hB] at hx
    have := hg g (List.mem_of_mem_drop (List.mem_of_mem_take hx))
    exact ⟨this.1, good_mono (fun x hx => List.mem_append_left _ hx) this.2⟩
  refine er_out (for_E G.d (xs := od) (fun dn ρ => ∃ j4 j12 j13 : Option D, ρ = [.ow true (hD hs1), .fz (.lst (names.map .str)), .fz (.lst (words.map .str)), .ow false (.lst (gs.map G.d)), jk j4, jk j5, jk j6, jk j7, .fz (.lst P9), .fz (.lst ((wide names).map .str)), .fz (.lst (od.map G.d)), .fz (.int p), jk j12, jk j13, .no]) (by simp -implicitDefEqProofs [-List.map_map, -List.map_append] <;> first | exact rfl | exact ⟨rfl, rfl⟩ | exact ⟨rfl, rfl, rfl⟩ | exact ⟨rfl, rfl, rfl, rfl⟩) ⟨none, none, none, rfl⟩ ?_) ?_
  · rintro dn g td e ρ ⟨j4, j12, j13, rfl⟩
    have gk := ook g (by rw [e]; simp)
    have gg := og' dn.length g (by rw [e]; simp)
    have a1 := addM (enc := G.d) (xs := A) (ys := [g]) (by simp; omega)
    have a2 := addM (enc := G.d) (xs := A ++ [g]) (ys := B) (by simp; omega)
    have hl12 : (A ++ [g] ++ B).length = 12 := by simp; omega
    have ok1 : ∀ x ∈ A ++ [g] ++ B, GOk x := fun x hx => by
      rcases List.mem_append.mp hx with q | q
      · rcases List.mem_append.mp q with q | q
        · exact (hAg x q).1
        · rw [List.mem_singleton] at q; subst q; exact gk
      · exact (hBg x q).1
    have gd1 : goods (wide names) words (A ++ [g] ++ B) = decide ((dn.length : Int) < 4) := by
      unfold goods
      rw [hl12, List.all_append, List.all_append, List.all_eq_true.mpr fun x hx => (hAg x hx).2, List.all_eq_true.mpr fun x hx => (hBg x hx).2]
      simp [gg]
    have gd2 : goods (wide names) words [g] = decide ((dn.length : Int) < 4) := by
      unfold goods
      simp [gg]
    have r1 := run_is_deeds ok1 (Seq.lst (A ++ [g] ++ B)) mD mW
    have r2 := run_is_deeds (gs := [g]) (fun x hx => by rw [List.mem_singleton] at hx; subst hx; exact gk) (Seq.lst [g]) mD' mW'
    rw [gd1] at r1
    rw [gd2] at r2
    have rr := run_right (decide ((dn.length : Int) < 4)) (decide ((dn.length : Int) < 4))
    rw [beq_self_eq_true] at rr
    have a1' : opAdd (.lst (A.map G.d)) (.lst [g.d]) = some (.nw (.lst ((A ++ [g]).map G.d))) := a1
    have r2' : F_is_deeds [.fz (.lst [g.d]), .fz (.tup ((wide names).map .str)), .fz (.tup (words.map .str))] = _ := r2
    have ll : ((A ++ [g] ++ B).map G.d).length = 12 := by rw [List.length_map, hl12]
    generalize (A ++ [g] ++ B).map G.d = L at a2 r1 ll
    have l12 : cLen [.lst L] = some (.val (.int 12)) := by rw [r_len_lst, ll]; rfl
    generalize hb : decide ((dn.length : Int) < 4) = b at r1 r2' rr
    generalize (A ++ [g]).map G.d = A1 at a1' a2
    exact .nx (by simp -implicitDefEqProofs [-List.map_map, -List.map_append] <;> first | exact rfl | exact ⟨rfl, rfl⟩ | exact ⟨rfl, rfl, rfl⟩ | exact ⟨rfl, rfl, rfl, rfl⟩) (by simp -implicitDefEqProofs [-List.map_map, -List.map_append, x_b5__law_judged, cu1, cu2, a1', a2, lst1, r1, r2', rr, hb, -r_len_lst, l12] <;> first | exact rfl | exact ⟨rfl, rfl⟩ | exact ⟨rfl, rfl, rfl⟩ | exact ⟨rfl, rfl, rfl, rfl⟩) ⟨some (.int dn.length), some g.d, some (.lst L), rfl⟩
  · rintro ρ ⟨j4, j12, j13, rfl⟩
    exact er_end (by simp -implicitDefEqProofs [-List.map_map, -List.map_append] <;> first | exact rfl | exact ⟨rfl, rfl⟩ | exact ⟨rfl, rfl, rfl⟩ | exact ⟨rfl, rfl, rfl, rfl⟩) ⟨hs1, rfl, rfl⟩
end DL

/-! K2ze: k02: the law. -/
namespace DL
open PySem PySem.Spec
theorem Dd.gok {rs : List Rg} (R : RsOk rs) {d : Dd} (h : DdOk rs d) : GOk d.g := by
  cases d with
  | tell w => exact Asc.ok (show Asc 9 w from h)
  | put n c ps =>
    obtain ⟨⟨r, hr, rfl⟩, hps, hl2, _⟩ := h
    exact ⟨strOk_LN (R.ok r hr).ln, hps.L R hl2⟩
def strD (l : List Str) : D := .lst (l.map .str)
theorem spare_facts : LN "sparename123" ∧ ("unknownname1" : Str) ≠ "sparename123" ∧ ¬ DN "unknownname1" ∧ ∀ j < 3, ("unknownname1" : Str) ≠ an j := by
  refine ⟨by decide +kernel, by decide +kernel, ?_, by decide +kernel⟩
  unfold DN
  decide +kernel
theorem law_true (ns : List Int) (_h : ns.length ≤ 63) : ∃ a', F_law [.fz (.scr ns)] = .ok (.val (.bl true)) a' := by
  suffices q : Gives (fun v _ => v = .val (.bl true)) (F_law [.fz (.scr ns)]) by
    obtain ⟨_, a, e, rfl⟩ := q
    exact ⟨a, e⟩
  have hz := sizeLine_eq
  obtain ⟨hs0, n0, e0⟩ := pool ns
  refine er_run ?_
  unfold d_law
  refine er_seq (by simp -implicitDefEqProofs [-List.map_map, -List.map_append, e0] <;> first | exact rfl | exact ⟨rfl, rfl⟩ | exact ⟨rfl, rfl, rfl⟩ | exact ⟨rfl, rfl, rfl, rfl⟩) ?_
  obtain ⟨v1, hs1, n1, a1, b1, e1⟩ := draw hs0 n0 5 (by decide) (by decide)
  obtain ⟨m, hm, em, _⟩ := ixL (enc := D.int) (xs := [1, 2, 3, 3, 0]) (i := v1) a1 (by simp; omega)
  obtain ⟨many, hmany, rfl⟩ : ∃ many : Nat, many ≤ 3 ∧ m = many := by
    simp only [List.mem_cons, List.not_mem_nil, or_false] at hm
    refine ⟨m.toNat, ?_, ?_⟩ <;> (rcases hm with rfl | rfl | rfl | rfl | rfl <;> decide)
  have em' : opIx (.lst [.int 1, .int 2, .int 3, .int 3, .int 0]) (.int v1) = some (.val (.int many)) := em
  refine er_seq (by simp -implicitDefEqProofs [-List.map_map, -List.map_append, lst5, e1, em'] <;> first | exact rfl | exact ⟨rfl, rfl⟩ | exact ⟨rfl, rfl, rfl⟩ | exact ⟨rfl, rfl, rfl, rfl⟩) ?_
  obtain ⟨rs, hs2, n2, hrl, hr, hnd, e2⟩ := run_ranges n1 (many := many) hmany
  have p6 : opPow (.int 10) (.int 6) = some (.val (.int 1000000)) := r_pow (by decide +kernel)
  refine er_seq (by simp -implicitDefEqProofs [-List.map_map, -List.map_append, p6, e2] <;> first | exact rfl | exact ⟨rfl, rfl⟩ | exact ⟨rfl, rfl, rfl⟩ | exact ⟨rfl, rfl, rfl, rfl⟩) ?_
  refine er_out (Q := fun ρ => ∃ (rs : List Rg) (hs : List Int) (j4 j5 j6 : Option D), hs ≠ [] ∧ RsOk rs ∧ (∀ r ∈ rs, DN r.n ∨ ∃ j < 3, r.n = an j) ∧ ρ = [.fz (.scr ns), .ow false (hD hs), .fz (.int many), .ow false (.lst (rs.map Rg.d)), jk j4, jk j5, jk j6, .no, .no, .no, .no, .no, .no, .no, .no, .no, .no, .no]) ?_ ?_
  · have R0 : RsOk rs := ⟨fun r h => (hr r h).1, hnd, by omega⟩
    by_cases hm1 : 0 < many
    case neg =>
      exact ⟨_, (by simp -implicitDefEqProofs [-List.map_map, -List.map_append, hm1] <;> first | exact rfl | exact ⟨rfl, rfl⟩ | exact ⟨rfl, rfl, rfl⟩ | exact ⟨rfl, rfl, rfl, rfl⟩), rs, hs2, none, none, none, n2, R0, fun r h => (hr r h).1.nm, rfl⟩
    case pos =>
      obtain ⟨v3, hs3, n3, a3, b3, e3⟩ := draw hs2 n2 5 (by decide) (by decide)
      by_cases h4 : v3 = 4
      · obtain ⟨v4, hs4, n4, a4, b4, e4⟩ := draw hs3 n3 1000001 (by decide) (by decide)
        cases rs with
        | nil => simp at hrl; omega
        | cons r rs =>
          have ix : opIx (.lst ((r :: rs).map Rg.d)) (.int 0) = some (.val r.d) := ix_0
          have st : ∀ d, setO (.lst ((r :: rs).map Rg.d)) (.int 0) d = some (.lst (d :: rs.map Rg.d)) := fun d => set_0
          have r1 := (hr r List.mem_cons_self).1
          refine ⟨_, (by simp -implicitDefEqProofs [-List.map_map, -List.map_append, hm1, e3, h4, ix, -List.map_cons, Rg.d, p6, e4, tup3, st] <;> first | exact rfl | exact ⟨rfl, rfl⟩ | exact ⟨rfl, rfl, rfl⟩ | exact ⟨rfl, rfl, rfl, rfl⟩), ⟨r.n, r.lo, r.lo + v4⟩ :: rs, hs4, some (.str r.n), some (.int r.lo), some (.int r.hi), n4, ⟨?_, hnd, by simpa using R0.len⟩, ?_, rfl⟩
          · intro q hq
            rcases List.mem_cons.mp hq with rfl | hq
            · exact ⟨r1.ln, r1.nm, r1.l1, r1.l2, by dsimp only; omega, by have := r1.l2; dsimp only; omega⟩
            · exact (hr q (List.mem_cons_of_mem _ hq)).1
          · intro q hq
            rcases List.mem_cons.mp hq with rfl | hq
            · exact r1.nm
            · exact (hr q (List.mem_cons_of_mem _ hq)).1.nm
      · have h4' : (v3 == 4) = false := beq_eq_false_iff_ne.mpr h4
        exact ⟨_, (by simp -implicitDefEqProofs [-List.map_map, -List.map_append, hm1, e3, h4'] <;> first | exact rfl | exact ⟨rfl, rfl⟩ | exact ⟨rfl, rfl, rfl⟩ | exact ⟨rfl, rfl, rfl, rfl⟩), rs, hs3, none, none, none, n3, R0, fun r h => (hr r h).1.nm, rfl⟩
  clear hr hnd hrl e2 e0 e1
  rintro ρ ⟨rs, hs, j4, j5, j6, hne, R, hnm, rfl⟩
  have R3 := R.len
  obtain ⟨vs, hs1, n1, hv, e1⟩ := run_values hne R.ok R3
  refine er_seq (by simp -implicitDefEqProofs [-List.map_map, -List.map_append, e1] <;> first | exact rfl | exact ⟨rfl, rfl⟩ | exact ⟨rfl, rfl, rfl⟩ | exact ⟨rfl, rfl, rfl, rfl⟩) ?_
  -- the words
  obtain ⟨ds, ρw, ew, _, hs2, ws, n2, rfl, hwl, hws, rfl⟩ := comp_N (tgt := tgName 16) (cond := eYes) (elt := e1_law) (vs := [16]) (lo := 0) (n := 3) (ρ := [.fz (.scr ns), .ow false (hD hs1), .fz (.int many), .fz (.lst (rs.map Rg.d)), jk j4, jk j5, jk j6, .fz (.lst (vs.map .int)), .no, .no, .no, .no, .no, .no, .no, .no, .no, .no])
    (fun k acc ρ => ∃ (hs : List Int) (ws : List Str), hs ≠ [] ∧ acc = ws.map .str ∧ ws.length = k ∧ (∀ w ∈ ws, Asc 9 w) ∧ ρ = [.fz (.scr ns), .ow false (hD hs), .fz (.int many), .fz (.lst (rs.map Rg.d)), jk j4, jk j5, jk j6, .fz (.lst (vs.map .int)), .no, .no, .no, .no, .no, .no, .no, .no, .no, .no])
    (fun k hk acc ρ h => by
      obtain ⟨hs, ws, hne, rfl, hl, hw, rfl⟩ := h
      obtain ⟨x, hs', hne', ax, ix, ex⟩ := run_named hne (most := 8) (by decide) (by decide)
      refine ⟨.str x, _, ⟨_, _, _, _, (by simp -implicitDefEqProofs [-List.map_map, -List.map_append] <;> first | exact rfl | exact ⟨rfl, rfl⟩ | exact ⟨rfl, rfl, rfl⟩ | exact ⟨rfl, rfl, rfl, rfl⟩), rfl, (by simp -implicitDefEqProofs [-List.map_map, -List.map_append, x_e1_law, ex] <;> first | exact rfl | exact ⟨rfl, rfl⟩ | exact ⟨rfl, rfl, rfl⟩ | exact ⟨rfl, rfl, rfl, rfl⟩), rfl, (by simp -implicitDefEqProofs [-List.map_map, -List.map_append] <;> first | exact rfl | exact ⟨rfl, rfl⟩ | exact ⟨rfl, rfl, rfl⟩ | exact ⟨rfl, rfl, rfl, rfl⟩)⟩, hs', ws ++ [x], hne', by rw [List.map_append]; rfl, by simp [hl], fun w hw' => ?_, rfl⟩
      rcases List.mem_append.mp hw' with q | q
      · exact hw w q
      · rw [List.mem_singleton] at q; subst q; exact ax.asc) (by omega) ⟨hs1, [], n1, rfl, rfl, by simp, rfl⟩
  have f3 : fits62 3 = true := by decide
  have t3 : (3 : Int).toNat = 3 := rfl
  refine er_seq (by simp -implicitDefEqProofs [-List.map_map, -List.map_append, f3, t3, ew] <;> first | exact rfl | exact ⟨rfl, rfl⟩ | exact ⟨rfl, rfl, rfl⟩ | exact ⟨rfl, rfl, rfl, rfl⟩) ?_
  obtain ⟨pl, hs3, n3, hpl, hp, e3⟩ := run_plan n2 R hv hws hwl
  refine er_seq (by simp -implicitDefEqProofs [-List.map_map, -List.map_append, e3] <;> first | exact rfl | exact ⟨rfl, rfl⟩ | exact ⟨rfl, rfl, rfl⟩ | exact ⟨rfl, rfl, rfl, rfl⟩) ?_
  have e4 := run_runs R hv hp hpl
  refine er_seq (by simp -implicitDefEqProofs [-List.map_map, -List.map_append, e4] <;> first | exact rfl | exact ⟨rfl, rfl⟩ | exact ⟨rfl, rfl, rfl⟩ | exact ⟨rfl, rfl, rfl, rfl⟩) ?_
  -- the names
  have ec := fun (s0 s1 s2 s3 s4 s5 s6 s7 s8 s9 s10 s11 s12 s13 s14 s15 s16 : Sl) => rg_names rs (ρ := [s0, s1, s2, s3, s4, s5, s6, s7, s8, s9, s10, s11, s12, s13, s14, s15, s16, .no]) (tgt := tgName 17) (elt := e2_law) (vs := [17]) (by omega) (fun r _ => ⟨_, _, _, _, (by simp -implicitDefEqProofs [-List.map_map, -List.map_append] <;> first | exact rfl | exact ⟨rfl, rfl⟩ | exact ⟨rfl, rfl, rfl⟩ | exact ⟨rfl, rfl, rfl, rfl⟩), rfl, (by simp -implicitDefEqProofs [-List.map_map, -List.map_append, x_e2_law, Rg.d, ixT0] <;> first | exact rfl | exact ⟨rfl, rfl⟩ | exact ⟨rfl, rfl, rfl⟩ | exact ⟨rfl, rfl, rfl, rfl⟩), rfl, (by simp -implicitDefEqProofs [-List.map_map, -List.map_append] <;> first | exact rfl | exact ⟨rfl, rfl⟩ | exact ⟨rfl, rfl, rfl⟩ | exact ⟨rfl, rfl, rfl, rfl⟩)⟩)
  have ea := addM (enc := D.str) (xs := rs.map Rg.n) (ys := [("sparename123" : Str)]) (by simp; omega)
  obtain ⟨nm, hnmd⟩ : ∃ nm, nm = rs.map Rg.n ++ [("sparename123" : Str)] := ⟨_, rfl⟩
  rw [← hnmd] at ea
  have ea' : opAdd (.lst ((rs.map Rg.n).map .str)) (.lst [.str "sparename123"]) = some (.nw (.lst (nm.map .str))) := ea
  refine er_seq (by simp -implicitDefEqProofs [-List.map_map, -List.map_append, ec, lst1, ea'] <;> first | exact rfl | exact ⟨rfl, rfl⟩ | exact ⟨rfl, rfl, rfl⟩ | exact ⟨rfl, rfl, rfl, rfl⟩) ?_
  have e5 := run_given R hp (by omega)
  have e5' : F__law_given [.fz (.lst (pl.map Dd.d))] = .ok (.nw (.lst ((pl.map Dd.g).map G.d))) [.fz (.lst (pl.map Dd.d))] := by rw [e5, List.map_map]; rfl
  refine er_seq (by simp -implicitDefEqProofs [-List.map_map, -List.map_append, e5'] <;> first | exact rfl | exact ⟨rfl, rfl⟩ | exact ⟨rfl, rfl, rfl⟩ | exact ⟨rfl, rfl, rfl, rfl⟩) ?_
  have hNW : NW nm ws := by
    obtain ⟨s1, s2, s3, s4⟩ := spare_facts
    refine ⟨fun w hw => ?_, fun hw => ?_, by rw [hnmd]; simp, by rw [hnmd]; simp; omega, hws, hwl⟩
    · rw [hnmd] at hw
      rcases List.mem_append.mp hw with q | q
      · obtain ⟨r, hr, rfl⟩ := List.mem_map.mp q
        exact (R.ok r hr).ln
      · rw [List.mem_singleton] at q; subst q; exact s1
    · rw [hnmd] at hw
      rcases List.mem_append.mp hw with q | q
      · obtain ⟨r, hr, e⟩ := List.mem_map.mp q
        rcases hnm r hr with h | ⟨j, hj, h⟩
        · rw [e] at h; exact s3 h
        · rw [e] at h; exact s4 j hj h
      · rw [List.mem_singleton] at q; exact s2 q
  have gok : ∀ g ∈ pl.map Dd.g, GOk g := fun g hg => by
    obtain ⟨d, hd, rfl⟩ := List.mem_map.mp hg
    exact Dd.gok R (hp d hd)
  have hnl := hNW.len
  have cu1 : cutD (nm.map .str) (some 1) none = (nm.drop 1).map .str := by
    show cutD (nm.map .str) (some ((1 : Nat) : Int)) none = _
    rw [cut_drop, List.map_drop]
  have cu2 : cutD (nm.map .str) none (some 1) = (nm.take 1).map .str := by
    show cutD (nm.map .str) none (some ((1 : Nat) : Int)) = _
    rw [cut_take, List.map_take]
  have cu3 : cutD (ws.map .str) none (some 2) = (ws.take 2).map .str := by
    show cutD (ws.map .str) none (some ((2 : Nat) : Int)) = _
    rw [cut_take, List.map_take]
  obtain ⟨nm1, hn1⟩ : ∃ x, x = nm.drop 1 := ⟨_, rfl⟩
  obtain ⟨nm2, hn2⟩ : ∃ x, x = nm.take 1 := ⟨_, rfl⟩
  obtain ⟨ws2, hw2⟩ : ∃ x, x = ws.take 2 := ⟨_, rfl⟩
  rw [← hn1] at cu1
  rw [← hn2] at cu2
  rw [← hw2] at cu3
  have okl : ∀ l ∈ [nm, nm1, nm2], ∀ w ∈ l, PyData.strOk w = true := fun l hl w hw => by
    have : w ∈ nm := by
      simp only [List.mem_cons, List.not_mem_nil, or_false] at hl
      rcases hl with rfl | rfl | rfl
      · exact hw
      · rw [hn1] at hw; exact List.mem_of_mem_drop hw
      · rw [hn2] at hw; exact List.mem_of_mem_take hw
    exact strOk_LN (hNW.ln w this)
  have okw : ∀ l ∈ [ws, ws2], ∀ w ∈ l, PyData.strOk w = true := fun l hl w hw => by
    have : w ∈ ws := by
      simp only [List.mem_cons, List.not_mem_nil, or_false] at hl
      rcases hl with rfl | rfl
      · exact hw
      · rw [hw2] at hw; exact List.mem_of_mem_take hw
    exact (hws w this).ok
  refine er_out (for_T strD (xs := [nm, nm1, nm2]) (fun dn ρ => ∃ j12 j13 j14 : Option D, ρ = [.fz (.scr ns), .ow false (hD hs3), .fz (.int many), .fz (.lst (rs.map Rg.d)), jk j4, jk j5, jk j6, .fz (.lst (vs.map .int)), .fz (.lst (ws.map .str)), .fz (.lst (pl.map Dd.d)), .fz (.lst (nm.map .str)), .fz (.lst ((pl.map Dd.g).map G.d)), jk j12, jk j13, jk j14, .no, .no, .no]) (by simp -implicitDefEqProofs [-List.map_map, -List.map_append, lst3, cu1, cu2, strD] <;> first | exact rfl | exact ⟨rfl, rfl⟩ | exact ⟨rfl, rfl, rfl⟩ | exact ⟨rfl, rfl, rfl, rfl⟩) ⟨none, none, none, rfl⟩ ?_) ?_
  · rintro dn l td e ρ ⟨j12, j13, j14, rfl⟩
    have hl : l ∈ [nm, nm1, nm2] := by rw [e]; simp
    refine .runs (by simp -implicitDefEqProofs [-List.map_map, -List.map_append, strD] <;> first | exact rfl | exact ⟨rfl, rfl⟩ | exact ⟨rfl, rfl, rfl⟩ | exact ⟨rfl, rfl, rfl, rfl⟩) ?_
    unfold b4_law
    obtain ⟨ρ', e', j13', j14', rfl⟩ := for_T (f := itE (eLst (eCons (eFz (eVar 8)) (eCons (eSl (eVar 8) eNoP (eP (eC (.int 2)))) eNil)))) (tgt := tgName 13) (body := b3_law) (ρ := [.fz (.scr ns), .ow false (hD hs3), .fz (.int many), .fz (.lst (rs.map Rg.d)), jk j4, jk j5, jk j6, .fz (.lst (vs.map .int)), .fz (.lst (ws.map .str)), .fz (.lst (pl.map Dd.d)), .fz (.lst (nm.map .str)), .fz (.lst ((pl.map Dd.g).map G.d)), .fz (.lst (l.map .str)), jk j13, jk j14, .no, .no, .no]) strD (xs := [ws, ws2])
      (fun dn ρ => ∃ j13 j14 : Option D, ρ = [.fz (.scr ns), .ow false (hD hs3), .fz (.int many), .fz (.lst (rs.map Rg.d)), jk j4, jk j5, jk j6, .fz (.lst (vs.map .int)), .fz (.lst (ws.map .str)), .fz (.lst (pl.map Dd.d)), .fz (.lst (nm.map .str)), .fz (.lst ((pl.map Dd.g).map G.d)), .fz (.lst (l.map .str)), jk j13, jk j14, .no, .no, .no]) (by simp -implicitDefEqProofs [-List.map_map, -List.map_append, lst2, cu3, strD] <;> first | exact rfl | exact ⟨rfl, rfl⟩ | exact ⟨rfl, rfl, rfl⟩ | exact ⟨rfl, rfl, rfl, rfl⟩) ⟨j13, j14, rfl⟩ (by
        rintro dn w td e ρ ⟨j13, j14, rfl⟩
        have hw : w ∈ [ws, ws2] := by rw [e]; simp
        have e6 := run_fits R hp hpl (okl l hl) (okw w hw)
        have e7 := run_is_deeds gok (Seq.lst (pl.map Dd.g)) (Mem.lst (okl l hl)) (Mem.lst (okw w hw))
        have rr := run_right (goods l w (pl.map Dd.g)) (goods l w (pl.map Dd.g))
        rw [beq_self_eq_true] at rr
        generalize goods l w (pl.map Dd.g) = b at e6 e7 rr
        exact .nx (by simp -implicitDefEqProofs [-List.map_map, -List.map_append, strD] <;> first | exact rfl | exact ⟨rfl, rfl⟩ | exact ⟨rfl, rfl, rfl⟩ | exact ⟨rfl, rfl, rfl, rfl⟩) (by simp -implicitDefEqProofs [-List.map_map, -List.map_append, x_b3_law, e6, e7, rr] <;> first | exact rfl | exact ⟨rfl, rfl⟩ | exact ⟨rfl, rfl, rfl⟩ | exact ⟨rfl, rfl, rfl, rfl⟩) ⟨some (strD w), some (.bl b), rfl⟩)
    exact rn_one e' ⟨some (.lst (l.map .str)), j13', j14', rfl⟩
  rintro ρ ⟨j12, j13, j14, rfl⟩
  refine er_seq (by simp -implicitDefEqProofs [-List.map_map, -List.map_append, lst2] <;> first | exact rfl | exact ⟨rfl, rfl⟩ | exact ⟨rfl, rfl, rfl⟩ | exact ⟨rfl, rfl, rfl, rfl⟩) ?_
  obtain ⟨hs4, e8⟩ := run_judged n3 hNW
  have te : Tm 2 1000 (.lst [.lst (nm.map .str), .lst (ws.map .str)]) := (Tm.lst (k := 1) (w := 200) (n := 2) (fun d hd => by
    simp only [List.mem_cons, List.not_mem_nil, or_false] at hd
    rcases hd with rfl | rfl
    · exact (Tm.lst (k := 0) (w := 19) (n := 4) (fun d hd => by
        obtain ⟨w, hw, rfl⟩ := List.mem_map.mp hd
        exact Tm.str (hNW.ln w hw).1) (by rw [List.length_map]; exact hnl)).mono (Nat.le_refl _) (by decide)
    · exact (Tm.lst (k := 0) (w := 9) (n := 3) (fun d hd => by
        obtain ⟨w, hw, rfl⟩ := List.mem_map.mp hd
        exact Tm.str (hws w hw)) (by rw [List.length_map]; omega)).mono (Nat.le_refl _) (by decide)) (Nat.le_refl _)).mono (Nat.le_refl _) (by decide)
  have ee := te.eq (by decide)
  exact er_end (by simp -implicitDefEqProofs [-List.map_map, -List.map_append, e8, lst2, ee] <;> first | exact rfl | exact ⟨rfl, rfl⟩ | exact ⟨rfl, rfl, rfl⟩ | exact ⟨rfl, rfl, rfl, rfl⟩) rfl
end DL

/-! K2w: the walk. -/
namespace DL
open PySem PySem.Spec PyProof.Rows L2
/-! ## the walk -/
def top (i : Nat) : Stmt := PySem.Challenge.pw_chartsrun_k02_deeds_in_order.main.body.getD i (.Pass ⟨0, 0, 0, 0⟩)
structure Tx (K : PySem.W.Frag) (mg : Str → Option Value) (ca : Str → Option Addr) : Prop where
  b_abs : mg "abs" = none
  b_all : mg "all" = none
  b_enumerate : mg "enumerate" = none
  b_int : mg "int" = none
  b_len : mg "len" = none
  b_list : mg "list" = none
  b_min : mg "min" = none
  b_range : mg "range" = none
  b_repr : mg "repr" = none
  b_sorted : mg "sorted" = none
  b_str : mg "str" = none
  b_sum : mg "sum" = none
  b_tuple : mg "tuple" = none
  b_zip : mg "zip" = none
  c_MOST_CONSTANT : ∃ t, mg "MOST_CONSTANT" = some (.int (9999) t)
  c_MOST_DEEDS : ∃ t, mg "MOST_DEEDS" = some (.int (12) t)
  c_MOST_FACTOR : ∃ t, mg "MOST_FACTOR" = some (.int (99) t)
  c_MOST_PIECES : ∃ t, mg "MOST_PIECES" = some (.int (40) t)
  c_MOST_SIGNS : ∃ t, mg "MOST_SIGNS" = some (.int (12) t)
  c_MOST_TERMS : ∃ t, mg "MOST_TERMS" = some (.int (8) t)
  c_RESERVED : TupK K mg "RESERVED" K_RESERVED
  f_Sum_constant : FldK K ca "Sum" "constant"
  f_Sum_terms : FldK K ca "Sum" "terms"
section
variable {P : Program} {w : World} {K : PySem.W.Frag} {mg : Str → Option Value} {base : Heap} {ca : Str → Option Addr}
abbrev st__law_pool : Stmt := top 21
theorem sc__law_pool : FnScope ["script", "hand", "at", "cell", "size", "low", "k"] ["script"] (defScope st__law_pool) := ⟨rfl, rfl, rfl, by decide +kernel, rfl, by decide +kernel, by decide +kernel⟩
theorem ok__law_pool {f : Addr} {fd : FuncData} (T : Tx K mg ca) (D : DefK K mg "_law_pool" "_law_pool" st__law_pool ["script"] f fd)  : CallG P w K mg base ⟨K, ca⟩ 1 "_law_pool" ["script"] F__law_pool f fd := by
  have SC := sc__law_pool
  refine callG D SC rfl (fun cdv A outer sh H E σ0 W hr ng pa tk => ?_)
  exact (dss_cons (ds_asg (ps_set (i := 1) SC.nd rfl (Or.inl rfl) (de_lst da_nil)))
    (dss_cons (ds_for pa rfl (di_enum rfl (by rfl) T.b_enumerate (dsr_E (de_sl rfl (de_var (pv 0)) do_none (do_some de_int))) all_E) (dg_tup rfl rfl (dg_cons (dg_of (pg_name (i := 2) SC.nd rfl (Or.inl rfl))) (dg_cons (dg_of (pg_name (i := 3) SC.nd rfl (Or.inl rfl))) dg_nil))) (dss_cons (ds_asg (ps_set (i := 4) SC.nd rfl (Or.inl rfl) (de_callB cb_abs (by rfl) T.b_abs bo_abs (da_cons (de_callTy cb_int (by rfl) T.b_int bo_int (da_cons (de_var (pv 3)) da_nil)) da_nil))))
    (dss_cons (ds_if (dt_cmp o_lt (de_var (pv 4)) (de_bin o_pow de_int de_int) (nomark _)) (dss_cons (ds_asg (ps_set (i := 5) SC.nd rfl (Or.inl rfl) (de_bin o_mod (de_callTy cb_int (by rfl) T.b_int bo_int (da_cons (de_bin (o_add rfl) (de_bin o_mulA (de_bin (o_add rfl) (de_var (pv 4)) de_int) de_int) (de_bin o_mulA (de_var (pv 2)) de_int)) da_nil)) de_int)))
    (dss_cons (ds_asg (ps_set (i := 4) SC.nd rfl (Or.inl rfl) (de_fz (de_var (pv 5)))))
    (dss_one (ds_for pa rfl (di_range1 (by rfl) T.b_range (da_cons de_int da_nil) (eCons_len eNil_len)) (dg_of (pg_name (i := 6) SC.nd rfl (Or.inl rfl))) (dss_cons (ds_asg (ps_set (i := 5) SC.nd rfl (Or.inl rfl) (de_bin o_mod (de_callTy cb_int (by rfl) T.b_int bo_int (da_cons (de_bin (o_add rfl) (de_bin (o_add rfl) (de_bin (o_add rfl) (de_bin o_mulA (de_var (pv 5)) (de_var (pv 5))) (de_bin o_mulA de_int (de_var (pv 6)))) (de_var (pv 2))) de_int) da_nil)) de_int)))
    (dss_one (ds_asg (ps_set (i := 4) SC.nd rfl (Or.inl rfl) (de_bin (o_add rfl) (de_bin o_mulA (de_var (pv 4)) de_int) (de_var (pv 5))))))) und_range)))) dss_nil)
    (dss_one (ds_expr (de_meth PySem.F.plainAttrs_list PySem.F.slot_list_append PySem.F.type_list_append (by decide) mo_append (pv 1) (da_cons (de_bin o_mod (de_callTy cb_int (by rfl) T.b_int bo_int (da_cons (de_var (pv 4)) da_nil)) (de_bin o_pow (de_bin o_pow de_int de_int) de_int)) da_nil)))))) (und_enum und_vals))
    (dss_one (ds_ret (de_bin (o_add rfl) (de_var (pv 1)) (de_lst (da_cons de_int da_nil)))))))
abbrev st__law_draw : Stmt := top 22
theorem sc__law_draw : FnScope ["hand", "many", "found"] ["hand", "many"] (defScope st__law_draw) := ⟨rfl, rfl, rfl, by decide +kernel, rfl, by decide +kernel, by decide +kernel⟩
theorem ok__law_draw {f : Addr} {fd : FuncData} (T : Tx K mg ca) (D : DefK K mg "_law_draw" "_law_draw" st__law_draw ["hand", "many"] f fd)  : CallG P w K mg base ⟨K, ca⟩ 1 "_law_draw" ["hand", "many"] F__law_draw f fd := by
  have SC := sc__law_draw
  refine callG D SC rfl (fun cdv A outer sh H E σ0 W hr ng pa tk => ?_)
  exact (dss_cons (ds_while pa (dt_andW (dt_cmp o_gt (de_callB (cb_len rfl) (by rfl) T.b_len bo_len (da_cons (de_var (pv 0)) da_nil)) de_int (nomark _)) (dt_and1 (dt_cmp (o_eq rfl hr.units) (de_ix rfl (hu_of hr) (de_var (pv 0)) de_int (fun _ _ => rfl)) de_int (nomark _)))).pt (dss_one (ds_expr (de_meth PySem.F.plainAttrs_list PySem.F.slot_list_pop PySem.F.type_list_pop (by decide) mo_popAt (pv 0) (da_cons de_int da_nil)))))
    (dss_cons (ds_asg (ps_set (i := 2) SC.nd rfl (Or.inl rfl) (de_bin o_mod (de_callTy cb_int (by rfl) T.b_int bo_int (da_cons (de_ix rfl (hu_of hr) (de_var (pv 0)) de_int (fun _ _ => rfl)) da_nil)) (de_var (pv 1)))))
    (dss_cons (ds_sub (hu_of hr) (pv 0) de_int (de_bin o_fdiv (de_ix rfl (hu_of hr) (de_var (pv 0)) de_int (fun _ _ => rfl)) (de_var (pv 1))))
    (dss_one (ds_ret (de_var (pv 2)))))))
abbrev st__law_reserved : Stmt := top 23
theorem sc__law_reserved : FnScope ["words"] [] (defScope st__law_reserved) := ⟨rfl, rfl, rfl, by decide +kernel, rfl, by decide +kernel, by decide +kernel⟩
theorem ok__law_reserved {f : Addr} {fd : FuncData} (T : Tx K mg ca) (D : DefK K mg "_law_reserved" "_law_reserved" st__law_reserved [] f fd)  : CallG P w K mg base ⟨K, ca⟩ 1 "_law_reserved" [] F__law_reserved f fd := by
  have SC := sc__law_reserved
  refine callG D SC rfl (fun cdv A outer sh H E σ0 W hr ng pa tk => ?_)
  exact (dss_cons (ds_asg (ps_set (i := 0) SC.nd rfl (Or.inl rfl) de_str))
    (dss_cons (ds_asg (ps_set (i := 0) SC.nd rfl (Or.inl rfl) (de_bin (o_add rfl) (de_var (pv 0)) de_str)))
    (dss_cons (ds_asg (ps_set (i := 0) SC.nd rfl (Or.inl rfl) (de_bin (o_add rfl) (de_var (pv 0)) de_str)))
    (dss_one (ds_ret (de_ms PySem.F.slot_str_split PySem.F.type_str_split mm_split (de_var (pv 0)) (da_cons de_str da_nil)))))))
abbrev st__law_named : Stmt := top 24
theorem sc__law_named : FnScope ["hand", "most", "letters", "text", "many", "k"] ["hand", "most"] (defScope st__law_named) := ⟨rfl, rfl, rfl, by decide +kernel, rfl, by decide +kernel, by decide +kernel⟩
theorem ok__law_named {f : Addr} {fd : FuncData} (T : Tx K mg ca) (D : DefK K mg "_law_named" "_law_named" st__law_named ["hand", "most"] f fd) {f__law_draw : Addr} {fd__law_draw : FuncData} (h__law_draw : CallG P w K mg base ⟨K, ca⟩ 1 "_law_draw" ["hand", "many"] F__law_draw f__law_draw fd__law_draw) {f__law_reserved : Addr} {fd__law_reserved : FuncData} (h__law_reserved : CallG P w K mg base ⟨K, ca⟩ 1 "_law_reserved" [] F__law_reserved f__law_reserved fd__law_reserved) : CallG P w K mg base ⟨K, ca⟩ 2 "_law_named" ["hand", "most"] F__law_named f fd := by
  have SC := sc__law_named
  refine callG D SC rfl (fun cdv A outer sh H E σ0 W hr ng pa tk => ?_)
  exact (dss_cons (ds_asg (ps_set (i := 2) SC.nd rfl (Or.inl rfl) de_str))
    (dss_cons (ds_asg (ps_set (i := 3) SC.nd rfl (Or.inl rfl) (de_ix rfl (hu_of hr) (de_var (pv 2)) (dg_call h__law_draw (hr.mono (by decide)) ng (by rfl) tk (da_cons (de_var (pv 0)) (da_cons de_int da_nil)) (eCons_len (eCons_len eNil_len))) (fun _ _ => rfl))))
    (dss_cons (ds_asg (ps_set (i := 4) SC.nd rfl (Or.inl rfl) (dg_call h__law_draw (hr.mono (by decide)) ng (by rfl) tk (da_cons (de_var (pv 0)) (da_cons de_int da_nil)) (eCons_len (eCons_len eNil_len)))))
    (dss_cons (ds_if (dt_cmp (o_eq rfl hr.units) (de_var (pv 4)) de_int (nomark _)) (dss_one (ds_asg (ps_set (i := 4) SC.nd rfl (Or.inl rfl) (dg_call h__law_draw (hr.mono (by decide)) ng (by rfl) tk (da_cons (de_var (pv 0)) (da_cons (de_var (pv 1)) da_nil)) (eCons_len (eCons_len eNil_len)))))) dss_nil)
    (dss_cons (ds_for pa rfl (di_range1 (by rfl) T.b_range (da_cons (de_var (pv 4)) da_nil) (eCons_len eNil_len)) (dg_of (pg_name (i := 5) SC.nd rfl (Or.inl rfl))) (dss_one (ds_asg (ps_set (i := 3) SC.nd rfl (Or.inl rfl) (de_bin (o_add rfl) (de_var (pv 3)) (de_ix rfl (hu_of hr) (de_bin (o_add rfl) (de_var (pv 2)) de_str) (dg_call h__law_draw (hr.mono (by decide)) ng (by rfl) tk (da_cons (de_var (pv 0)) (da_cons de_int da_nil)) (eCons_len (eCons_len eNil_len))) (fun _ _ => rfl)))))) und_range)
    (dss_one (ds_ret (de_bin (o_add rfl) (de_var (pv 3)) (de_bin o_mulA de_str (de_callTy cb_int (by rfl) T.b_int bo_int (da_cons (de_cmp (o_in rfl (u65 hr)) (de_var (pv 3)) (dg_call0 h__law_reserved (hr.mono (by decide)) ng (by rfl) tk rfl) (by with_unfolding_all rfl)) da_nil)))))))))))
abbrev st__law_long : Stmt := top 25
theorem sc__law_long : FnScope ["hand", "text"] ["hand"] (defScope st__law_long) := ⟨rfl, rfl, rfl, by decide +kernel, rfl, by decide +kernel, by decide +kernel⟩
theorem ok__law_long {f : Addr} {fd : FuncData} (T : Tx K mg ca) (D : DefK K mg "_law_long" "_law_long" st__law_long ["hand"] f fd) {f__law_named : Addr} {fd__law_named : FuncData} (h__law_named : CallG P w K mg base ⟨K, ca⟩ 2 "_law_named" ["hand", "most"] F__law_named f__law_named fd__law_named) {f__law_draw : Addr} {fd__law_draw : FuncData} (h__law_draw : CallG P w K mg base ⟨K, ca⟩ 1 "_law_draw" ["hand", "many"] F__law_draw f__law_draw fd__law_draw) : CallG P w K mg base ⟨K, ca⟩ 3 "_law_long" ["hand"] F__law_long f fd := by
  have SC := sc__law_long
  refine callG D SC rfl (fun cdv A outer sh H E σ0 W hr ng pa tk => ?_)
  exact (dss_cons (ds_asg (ps_set (i := 1) SC.nd rfl (Or.inl rfl) (de_fz (dg_call h__law_named (hr.mono (by decide)) ng (by rfl) tk (da_cons (de_var (pv 0)) (da_cons de_int da_nil)) (eCons_len (eCons_len eNil_len))))))
    (dss_cons (ds_if (dt_cmp (o_eq rfl hr.units) (dg_call h__law_draw (hr.mono (by decide)) ng (by rfl) tk (da_cons (de_var (pv 0)) (da_cons de_int da_nil)) (eCons_len (eCons_len eNil_len))) de_int (nomark _)) (dss_one (ds_asg (ps_set (i := 1) SC.nd rfl (Or.inl rfl) (de_bin (o_add rfl) (de_bin (o_add rfl) (de_var (pv 1)) de_str) (dg_call h__law_named (hr.mono (by decide)) ng (by rfl) tk (da_cons (de_var (pv 0)) (da_cons de_int da_nil)) (eCons_len (eCons_len eNil_len))))))) dss_nil)
    (dss_one (ds_ret (de_var (pv 1))))))
abbrev st__law_some_ranges : Stmt := top 26
theorem sc__law_some_ranges : FnScope ["hand", "many", "spread", "wide", "rows", "k", "name", "low", "row"] ["hand", "many", "spread", "wide"] (defScope st__law_some_ranges) := ⟨rfl, rfl, rfl, by decide +kernel, rfl, by decide +kernel, by decide +kernel⟩
theorem ok__law_some_ranges {f : Addr} {fd : FuncData} (T : Tx K mg ca) (D : DefK K mg "_law_some_ranges" "_law_some_ranges" st__law_some_ranges ["hand", "many", "spread", "wide"] f fd) {f__law_long : Addr} {fd__law_long : FuncData} (h__law_long : CallG P w K mg base ⟨K, ca⟩ 3 "_law_long" ["hand"] F__law_long f__law_long fd__law_long) {f__law_draw : Addr} {fd__law_draw : FuncData} (h__law_draw : CallG P w K mg base ⟨K, ca⟩ 1 "_law_draw" ["hand", "many"] F__law_draw f__law_draw fd__law_draw) : CallG P w K mg base ⟨K, ca⟩ 4 "_law_some_ranges" ["hand", "many", "spread", "wide"] F__law_some_ranges f fd := by
  have SC := sc__law_some_ranges
  refine callG D SC rfl (fun cdv A outer sh H E σ0 W hr ng pa tk => ?_)
  exact (dss_cons (ds_asg (ps_set (i := 4) SC.nd rfl (Or.inl rfl) (de_lst da_nil)))
    (dss_cons (ds_for pa rfl (di_range1 (by rfl) T.b_range (da_cons (de_var (pv 1)) da_nil) (eCons_len eNil_len)) (dg_of (pg_name (i := 5) SC.nd rfl (Or.inl rfl))) (dss_cons (ds_asg (ps_set (i := 6) SC.nd rfl (Or.inl rfl) (de_fz (dg_call h__law_long (hr.mono (by decide)) ng (by rfl) tk (da_cons (de_var (pv 0)) da_nil) (eCons_len eNil_len)))))
    (dss_cons (ds_if (dt_cmp (o_in rfl (u65 hr)) (de_var (pv 6)) (de_comp rfl SC.nd (di_any rfl (dsr_N (pv 4)) all_N) (own := ([("row", 8)] : List (Str × Nat))) (blkOk_by (by show blkC ["hand", "many", "spread", "wide", "rows", "k", "name", "low", "row"] (defScope st__law_some_ranges) _ _ = true; decide +kernel)) und_name (by decide) (fun s H C cl fp => (dg_of (pg_name (i := 8) SC.nd rfl (Or.inl rfl)))) (fun s H C cl fp => dts_nil) (fun s H C cl fp => (de_ix rfl (hu_of hr) (de_var (pv 8)) de_int (fun _ _ => rfl)))) (by with_unfolding_all rfl)) (dss_one (ds_asg (ps_set (i := 6) SC.nd rfl (Or.inl rfl) (de_bin (o_add rfl) de_str (de_callTy cb_str (by rfl) T.b_str bo_str (da_cons (de_var (pv 5)) da_nil)))))) dss_nil)
    (dss_cons (ds_asg (ps_set (i := 7) SC.nd rfl (Or.inl rfl) (de_bin o_sub (dg_call h__law_draw (hr.mono (by decide)) ng (by rfl) tk (da_cons (de_var (pv 0)) (da_cons (de_bin (o_add rfl) (de_bin o_mulA de_int (de_var (pv 2))) de_int) da_nil)) (eCons_len (eCons_len eNil_len))) (de_var (pv 2)))))
    (dss_one (ds_expr (de_meth PySem.F.plainAttrs_list PySem.F.slot_list_append PySem.F.type_list_append (by decide) mo_append (pv 4) (da_cons (de_tup (da_cons (de_fz (de_var (pv 6))) (da_cons (de_fz (de_var (pv 7))) (da_cons (de_bin (o_add rfl) (de_var (pv 7)) (dg_call h__law_draw (hr.mono (by decide)) ng (by rfl) tk (da_cons (de_var (pv 0)) (da_cons (de_var (pv 3)) da_nil)) (eCons_len (eCons_len eNil_len)))) da_nil)))) da_nil))))))) und_range)
    (dss_one (ds_ret (de_var (pv 4))))))
abbrev st__law_some_values : Stmt := top 28
theorem sc__law_some_values : FnScope ["hand", "ranges", "rows", "name", "low", "high", "way", "inside"] ["hand", "ranges"] (defScope st__law_some_values) := ⟨rfl, rfl, rfl, by decide +kernel, rfl, by decide +kernel, by decide +kernel⟩
theorem ok__law_some_values {f : Addr} {fd : FuncData} (T : Tx K mg ca) (D : DefK K mg "_law_some_values" "_law_some_values" st__law_some_values ["hand", "ranges"] f fd) {f__law_draw : Addr} {fd__law_draw : FuncData} (h__law_draw : CallG P w K mg base ⟨K, ca⟩ 1 "_law_draw" ["hand", "many"] F__law_draw f__law_draw fd__law_draw) : CallG P w K mg base ⟨K, ca⟩ 2 "_law_some_values" ["hand", "ranges"] F__law_some_values f fd := by
  have SC := sc__law_some_values
  refine callG D SC rfl (fun cdv A outer sh H E σ0 W hr ng pa tk => ?_)
  exact (dss_cons (ds_asg (ps_set (i := 2) SC.nd rfl (Or.inl rfl) (de_lst da_nil)))
    (dss_cons (ds_for pa rfl (di_any rfl (dsr_N (pv 1)) all_N) (dg_tup rfl rfl (dg_cons (dg_of (pg_name (i := 3) SC.nd rfl (Or.inl rfl))) (dg_cons (dg_of (pg_name (i := 4) SC.nd rfl (Or.inl rfl))) (dg_cons (dg_of (pg_name (i := 5) SC.nd rfl (Or.inl rfl))) dg_nil)))) (dss_cons (ds_asg (ps_set (i := 6) SC.nd rfl (Or.inl rfl) (dg_call h__law_draw (hr.mono (by decide)) ng (by rfl) tk (da_cons (de_var (pv 0)) (da_cons de_int da_nil)) (eCons_len (eCons_len eNil_len)))))
    (dss_cons (ds_asg (ps_set (i := 7) SC.nd rfl (Or.inl rfl) (de_bin (o_add rfl) (de_var (pv 4)) (dg_call h__law_draw (hr.mono (by decide)) ng (by rfl) tk (da_cons (de_var (pv 0)) (da_cons (de_bin (o_add rfl) (de_bin o_sub (de_var (pv 5)) (de_var (pv 4))) de_int) da_nil)) (eCons_len (eCons_len eNil_len))))))
    (dss_one (ds_expr (de_meth PySem.F.plainAttrs_list PySem.F.slot_list_append PySem.F.type_list_append (by decide) mo_append (pv 2) (da_cons (de_ix rfl (hu_of hr) (de_lst (da_cons (de_fz (de_var (pv 4))) (da_cons (de_fz (de_var (pv 5))) (da_cons (de_fz (de_var (pv 7))) da_nil)))) (de_callB (cb_min2 rfl) (by rfl) T.b_min bo_min (da_cons (de_var (pv 6)) (da_cons de_int da_nil))) (fun _ _ => rfl)) da_nil)))))) und_name)
    (dss_one (ds_ret (de_var (pv 2))))))
abbrev st__law_set : Stmt := top 31
theorem sc__law_set : FnScope ["hand", "ranges", "now", "name", "low", "high", "pairs", "k", "other", "inside", "rows", "worth", "constant", "pair"] ["hand", "ranges", "now"] (defScope st__law_set) := ⟨rfl, rfl, rfl, by decide +kernel, rfl, by decide +kernel, by decide +kernel⟩
theorem ok__law_set {f : Addr} {fd : FuncData} (T : Tx K mg ca) (D : DefK K mg "_law_set" "_law_set" st__law_set ["hand", "ranges", "now"] f fd) {f__law_draw : Addr} {fd__law_draw : FuncData} (h__law_draw : CallG P w K mg base ⟨K, ca⟩ 1 "_law_draw" ["hand", "many"] F__law_draw f__law_draw fd__law_draw) : CallG P w K mg base ⟨K, ca⟩ 2 "_law_set" ["hand", "ranges", "now"] F__law_set f fd := by
  have SC := sc__law_set
  refine callG D SC rfl (fun cdv A outer sh H E σ0 W hr ng pa tk => ?_)
  exact (dss_cons (ds_tgt (de_ix rfl (hu_of hr) (de_var (pv 1)) (dg_call h__law_draw (hr.mono (by decide)) ng (by rfl) tk (da_cons (de_var (pv 0)) (da_cons (de_callB (cb_len rfl) (by rfl) T.b_len bo_len (da_cons (de_var (pv 1)) da_nil)) da_nil)) (eCons_len (eCons_len eNil_len))) (fun _ _ => rfl)) (dg_tup rfl rfl (dg_cons (dg_of (pg_name (i := 3) SC.nd rfl (Or.inl rfl))) (dg_cons (dg_of (pg_name (i := 4) SC.nd rfl (Or.inl rfl))) (dg_cons (dg_of (pg_name (i := 5) SC.nd rfl (Or.inl rfl))) dg_nil)))))
    (dss_cons (ds_asg (ps_set (i := 6) SC.nd rfl (Or.inl rfl) (de_lst da_nil)))
    (dss_cons (ds_for pa rfl (di_range1 (by rfl) T.b_range (da_cons (dg_call h__law_draw (hr.mono (by decide)) ng (by rfl) tk (da_cons (de_var (pv 0)) (da_cons de_int da_nil)) (eCons_len (eCons_len eNil_len))) da_nil) (eCons_len eNil_len)) (dg_of (pg_name (i := 7) SC.nd rfl (Or.inl rfl))) (dss_cons (ds_asg (ps_set (i := 8) SC.nd rfl (Or.inl rfl) (de_ix rfl (hu_of hr) (de_ix rfl (hu_of hr) (de_var (pv 1)) (dg_call h__law_draw (hr.mono (by decide)) ng (by rfl) tk (da_cons (de_var (pv 0)) (da_cons (de_callB (cb_len rfl) (by rfl) T.b_len bo_len (da_cons (de_var (pv 1)) da_nil)) da_nil)) (eCons_len (eCons_len eNil_len))) (fun _ _ => rfl)) de_int (fun _ _ => rfl))))
    (dss_one (ds_expr (de_meth PySem.F.plainAttrs_list PySem.F.slot_list_append PySem.F.type_list_append (by decide) mo_append (pv 6) (da_cons (de_tup (da_cons (de_fz (de_var (pv 8))) (da_cons (de_bin o_sub (dg_call h__law_draw (hr.mono (by decide)) ng (by rfl) tk (da_cons (de_var (pv 0)) (da_cons de_int da_nil)) (eCons_len (eCons_len eNil_len))) de_int) da_nil))) da_nil))))) und_range)
    (dss_cons (ds_asg (ps_set (i := 9) SC.nd rfl (Or.inl rfl) (de_bin (o_add rfl) (de_var (pv 4)) (dg_call h__law_draw (hr.mono (by decide)) ng (by rfl) tk (da_cons (de_var (pv 0)) (da_cons (de_bin (o_add rfl) (de_bin o_sub (de_var (pv 5)) (de_var (pv 4))) de_int) da_nil)) (eCons_len (eCons_len eNil_len))))))
    (dss_cons (ds_asg (ps_set (i := 10) SC.nd rfl (Or.inl rfl) (de_bin (o_add rfl) (de_bin o_mulA (de_lst (da_cons (de_fz (de_var (pv 9))) da_nil)) de_int) (de_lst (da_cons (de_fz (de_var (pv 4))) (da_cons (de_fz (de_var (pv 4))) (da_cons (de_fz (de_var (pv 5))) (da_cons (de_fz (de_var (pv 5))) (da_cons (de_bin o_sub (de_var (pv 4)) de_int) (da_cons (de_bin (o_add rfl) (de_var (pv 5)) de_int) da_nil))))))))))
    (dss_cons (ds_asg (ps_set (i := 11) SC.nd rfl (Or.inl rfl) (de_ix rfl (hu_of hr) (de_var (pv 10)) (dg_call h__law_draw (hr.mono (by decide)) ng (by rfl) tk (da_cons (de_var (pv 0)) (da_cons de_int da_nil)) (eCons_len (eCons_len eNil_len))) (fun _ _ => rfl))))
    (dss_cons (ds_asg (ps_set (i := 12) SC.nd rfl (Or.inl rfl) (de_bin o_sub (de_var (pv 11)) (de_callB (cb_sum rfl) (by rfl) T.b_sum bo_sum (da_cons (de_comp rfl SC.nd (di_any rfl (dsr_N (pv 6)) all_N) (own := ([("pair", 13)] : List (Str × Nat))) (blkOk_by (by show blkC ["hand", "ranges", "now", "name", "low", "high", "pairs", "k", "other", "inside", "rows", "worth", "constant", "pair"] (defScope st__law_set) _ _ = true; decide +kernel)) und_name (by decide) (fun s H C cl fp => (dg_of (pg_name (i := 13) SC.nd rfl (Or.inl rfl)))) (fun s H C cl fp => dts_nil) (fun s H C cl fp => (de_bin o_mulA (de_ix rfl (hu_of hr) (de_var (pv 13)) de_int (fun _ _ => rfl)) (de_ix rfl (hu_of hr) (de_var (pv 2)) (de_ix rfl (hu_of hr) (de_var (pv 13)) de_int (fun _ _ => rfl)) (fun _ _ => rfl))))) da_nil)))))
    (dss_cons (ds_if (dt_chain o_le o_le (de_var (pv 4)) (de_var (pv 11)) (de_var (pv 5))) (dss_one (ds_sub (hu_of hr) (pv 2) (de_var (pv 3)) (de_fz (de_var (pv 11))))) dss_nil)
    (dss_one (ds_ret (de_tup (da_cons de_str (da_cons (de_fz (de_var (pv 3))) (da_cons (de_fz (de_var (pv 12))) (da_cons (de_fz (de_var (pv 6))) da_nil)))))))))))))))
abbrev st__law_some_deeds : Stmt := top 32
theorem sc__law_some_deeds : FnScope ["hand", "ranges", "values", "words", "now", "k", "row", "rows"] ["hand", "ranges", "values", "words"] (defScope st__law_some_deeds) := ⟨rfl, rfl, rfl, by decide +kernel, rfl, by decide +kernel, by decide +kernel⟩
theorem ok__law_some_deeds {f : Addr} {fd : FuncData} (T : Tx K mg ca) (D : DefK K mg "_law_some_deeds" "_law_some_deeds" st__law_some_deeds ["hand", "ranges", "values", "words"] f fd) {f__law_draw : Addr} {fd__law_draw : FuncData} (h__law_draw : CallG P w K mg base ⟨K, ca⟩ 1 "_law_draw" ["hand", "many"] F__law_draw f__law_draw fd__law_draw) {f__law_set : Addr} {fd__law_set : FuncData} (h__law_set : CallG P w K mg base ⟨K, ca⟩ 2 "_law_set" ["hand", "ranges", "now"] F__law_set f__law_set fd__law_set) : CallG P w K mg base ⟨K, ca⟩ 3 "_law_some_deeds" ["hand", "ranges", "values", "words"] F__law_some_deeds f fd := by
  have SC := sc__law_some_deeds
  refine callG D SC rfl (fun cdv A outer sh H E σ0 W hr ng pa tk => ?_)
  exact (dss_cons (ds_asg (ps_set (i := 4) SC.nd rfl (Or.inl rfl) de_dct0))
    (dss_cons (ds_for pa rfl (di_enum rfl (by rfl) T.b_enumerate (dsr_N (pv 1)) all_N) (dg_tup rfl rfl (dg_cons (dg_of (pg_name (i := 5) SC.nd rfl (Or.inl rfl))) (dg_cons (dg_of (pg_name (i := 6) SC.nd rfl (Or.inl rfl))) dg_nil))) (dss_one (ds_sub (hu_of hr) (pv 4) (de_ix rfl (hu_of hr) (de_var (pv 6)) de_int (fun _ _ => rfl)) (de_ix rfl (hu_of hr) (de_var (pv 2)) (de_var (pv 5)) (fun _ _ => rfl)))) (und_enum und_name))
    (dss_cons (ds_asg (ps_set (i := 7) SC.nd rfl (Or.inl rfl) (de_lst da_nil)))
    (dss_cons (ds_for pa rfl (di_range1 (by rfl) T.b_range (da_cons (de_bin o_mod (de_bin (o_add rfl) de_int (dg_call h__law_draw (hr.mono (by decide)) ng (by rfl) tk (da_cons (de_var (pv 0)) (da_cons de_int da_nil)) (eCons_len (eCons_len eNil_len)))) de_int) da_nil) (eCons_len eNil_len)) (dg_of (pg_name (i := 5) SC.nd rfl (Or.inl rfl))) (dss_one (ds_if (dt_orW (dt_not (dt_truth rfl (de_var (pv 1)))) (dt_or1 (dt_cmp (o_eq rfl hr.units) (dg_call h__law_draw (hr.mono (by decide)) ng (by rfl) tk (da_cons (de_var (pv 0)) (da_cons de_int da_nil)) (eCons_len (eCons_len eNil_len))) de_int (nomark _)))).pt (dss_one (ds_expr (de_meth PySem.F.plainAttrs_list PySem.F.slot_list_append PySem.F.type_list_append (by decide) mo_append (pv 7) (da_cons (de_tup (da_cons de_str (da_cons (de_ix rfl (hu_of hr) (de_var (pv 3)) (dg_call h__law_draw (hr.mono (by decide)) ng (by rfl) tk (da_cons (de_var (pv 0)) (da_cons de_int da_nil)) (eCons_len (eCons_len eNil_len))) (fun _ _ => rfl)) da_nil))) da_nil)))) (dss_one (ds_expr (de_meth PySem.F.plainAttrs_list PySem.F.slot_list_append PySem.F.type_list_append (by decide) mo_append (pv 7) (da_cons (dg_call h__law_set (hr.mono (by decide)) ng (by rfl) tk (da_cons (de_var (pv 0)) (da_cons (de_var (pv 1)) (da_cons (de_var (pv 4)) da_nil))) (eCons_len (eCons_len (eCons_len eNil_len)))) da_nil)))))) und_range)
    (dss_one (ds_ret (de_var (pv 7))))))))
abbrev st__law_sum_of : Stmt := top 29
theorem sc__law_sum_of : FnScope ["deed", "now", "pair"] ["deed", "now"] (defScope st__law_sum_of) := ⟨rfl, rfl, rfl, by decide +kernel, rfl, by decide +kernel, by decide +kernel⟩
theorem ok__law_sum_of {f : Addr} {fd : FuncData} (T : Tx K mg ca) (D : DefK K mg "_law_sum_of" "_law_sum_of" st__law_sum_of ["deed", "now"] f fd)  : CallG P w K mg base ⟨K, ca⟩ 1 "_law_sum_of" ["deed", "now"] F__law_sum_of f fd := by
  have SC := sc__law_sum_of
  refine callG D SC rfl (fun cdv A outer sh H E σ0 W hr ng pa tk => ?_)
  exact (dss_one (ds_ret (de_bin (o_add rfl) (de_ix rfl (hu_of hr) (de_var (pv 0)) de_int (fun _ _ => rfl)) (de_callB (cb_sum rfl) (by rfl) T.b_sum bo_sum (da_cons (de_comp rfl SC.nd (di_any rfl (dsr_E (de_ix rfl (hu_of hr) (de_var (pv 0)) de_int (fun _ _ => rfl))) all_E) (own := ([("pair", 2)] : List (Str × Nat))) (blkOk_by (by show blkC ["deed", "now", "pair"] (defScope st__law_sum_of) _ _ = true; decide +kernel)) und_vals (by decide) (fun s H C cl fp => (dg_of (pg_name (i := 2) SC.nd rfl (Or.inl rfl)))) (fun s H C cl fp => dts_nil) (fun s H C cl fp => (de_bin o_mulA (de_ix rfl (hu_of hr) (de_var (pv 2)) de_int (fun _ _ => rfl)) (de_ix rfl (hu_of hr) (de_var (pv 1)) (de_ix rfl (hu_of hr) (de_var (pv 2)) de_int (fun _ _ => rfl)) (fun _ _ => rfl))))) da_nil)))))
abbrev st__law_run : Stmt := top 30
theorem sc__law_run : FnScope ["plan", "ranges", "values", "now", "ends", "k", "row", "words", "at", "deed", "worth"] ["plan", "ranges", "values"] (defScope st__law_run) := ⟨rfl, rfl, rfl, by decide +kernel, rfl, by decide +kernel, by decide +kernel⟩
theorem ok__law_run {f : Addr} {fd : FuncData} (T : Tx K mg ca) (D : DefK K mg "_law_run" "_law_run" st__law_run ["plan", "ranges", "values"] f fd) {f__law_sum_of : Addr} {fd__law_sum_of : FuncData} (h__law_sum_of : CallG P w K mg base ⟨K, ca⟩ 1 "_law_sum_of" ["deed", "now"] F__law_sum_of f__law_sum_of fd__law_sum_of) : CallG P w K mg base ⟨K, ca⟩ 2 "_law_run" ["plan", "ranges", "values"] F__law_run f fd := by
  have SC := sc__law_run
  refine callG D SC rfl (fun cdv A outer sh H E σ0 W hr ng pa tk => ?_)
  exact (dss_cons (ds_asg (ps_set (i := 3) SC.nd rfl (Or.inr rfl) de_dct0))
    (dss_cons (ds_asg (ps_set (i := 4) SC.nd rfl (Or.inl rfl) de_dct0))
    (dss_cons (ds_for pa rfl (di_enum rfl (by rfl) T.b_enumerate (dsr_N (pv 1)) all_N) (dg_tup rfl rfl (dg_cons (dg_of (pg_name (i := 5) SC.nd rfl (Or.inl rfl))) (dg_cons (dg_of (pg_name (i := 6) SC.nd rfl (Or.inl rfl))) dg_nil))) (dss_cons (ds_sub (hu_of hr) (pv 3) (de_ix rfl (hu_of hr) (de_var (pv 6)) de_int (fun _ _ => rfl)) (de_ix rfl (hu_of hr) (de_var (pv 2)) (de_var (pv 5)) (fun _ _ => rfl)))
    (dss_one (ds_sub (hu_of hr) (pv 4) (de_ix rfl (hu_of hr) (de_var (pv 6)) de_int (fun _ _ => rfl)) (de_fz (de_var (pv 6)))))) (und_enum und_name))
    (dss_cons (ds_asg (ps_set (i := 7) SC.nd rfl (Or.inl rfl) (de_lst da_nil)))
    (dss_cons (ds_for pa rfl (di_enum rfl (by rfl) T.b_enumerate (dsr_N (pv 0)) all_N) (dg_tup rfl rfl (dg_cons (dg_of (pg_name (i := 8) SC.nd rfl (Or.inl rfl))) (dg_cons (dg_of (pg_name (i := 9) SC.nd rfl (Or.inl rfl))) dg_nil))) (dss_cons (ds_if (dt_cmp (o_eq rfl hr.units) (de_ix rfl (hu_of hr) (de_var (pv 9)) de_int (fun _ _ => rfl)) de_str (nomark _)) (dss_cons (ds_expr (de_meth PySem.F.plainAttrs_list PySem.F.slot_list_append PySem.F.type_list_append (by decide) mo_append (pv 7) (da_cons (de_ix rfl (hu_of hr) (de_var (pv 9)) de_int (fun _ _ => rfl)) da_nil)))
    (dss_one ds_continue)) dss_nil)
    (dss_cons (ds_asg (ps_set (i := 10) SC.nd rfl (Or.inl rfl) (de_fz (dg_call h__law_sum_of (hr.mono (by decide)) ng (by rfl) tk (da_cons (de_var (pv 9)) (da_cons (de_var (pv 3)) da_nil)) (eCons_len (eCons_len eNil_len))))))
    (dss_cons (ds_if (dt_not (dt_chain o_le o_le (de_ix rfl (hu_of hr) (de_ix rfl (hu_of hr) (de_var (pv 4)) (de_ix rfl (hu_of hr) (de_var (pv 9)) de_int (fun _ _ => rfl)) (fun _ _ => rfl)) de_int (fun _ _ => rfl)) (de_var (pv 10)) (de_ix rfl (hu_of hr) (de_ix rfl (hu_of hr) (de_var (pv 4)) (de_ix rfl (hu_of hr) (de_var (pv 9)) de_int (fun _ _ => rfl)) (fun _ _ => rfl)) de_int (fun _ _ => rfl)))) (dss_one (ds_ret (de_tup (da_cons (de_callTy (cb_tuple rfl) (by rfl) T.b_tuple bo_tuple (da_cons (de_var (pv 2)) da_nil)) (da_cons (de_tup da_nil) (da_cons (de_tup (da_cons (de_fz (de_var (pv 8))) (da_cons (de_fz (de_var (pv 10))) da_nil))) da_nil)))))) dss_nil)
    (dss_one (ds_sub (hu_of hr) (pv 3) (de_ix rfl (hu_of hr) (de_var (pv 9)) de_int (fun _ _ => rfl)) (de_fz (de_var (pv 10)))))))) (und_enum und_name))
    (dss_one (ds_ret (de_tup (da_cons (de_callTy (cb_tuple rfl) (by rfl) T.b_tuple bo_tuple (da_cons (de_comp rfl SC.nd (di_any rfl (dsr_N (pv 1)) all_N) (own := ([("row", 6)] : List (Str × Nat))) (blkOk_by (by show blkC ["plan", "ranges", "values", "now", "ends", "k", "row", "words", "at", "deed", "worth"] (defScope st__law_run) _ _ = true; decide +kernel)) und_name (by decide) (fun s H C cl fp => (dg_of (pg_name (i := 6) SC.nd rfl (Or.inl rfl)))) (fun s H C cl fp => dts_nil) (fun s H C cl fp => (de_ix rfl (hu_of hr) (de_var (pv 3)) (de_ix rfl (hu_of hr) (de_var (pv 6)) de_int (fun _ _ => rfl)) (fun _ _ => rfl)))) da_nil)) (da_cons (de_callTy (cb_tuple rfl) (by rfl) T.b_tuple bo_tuple (da_cons (de_var (pv 7)) da_nil)) (da_cons de_non da_nil)))))))))))
abbrev st_is_name : Stmt := top 8
theorem sc_is_name : FnScope ["text"] ["text"] (defScope st_is_name) := ⟨rfl, rfl, rfl, by decide +kernel, rfl, by decide +kernel, by decide +kernel⟩
theorem ok_is_name {f : Addr} {fd : FuncData} (T : Tx K mg ca) (D : DefK K mg "is_name" "is_name" st_is_name ["text"] f fd)  : CallG P w K mg base ⟨K, ca⟩ 1 "is_name" ["text"] F_is_name f fd := by
  have SC := sc_is_name
  refine callG D SC rfl (fun cdv A outer sh H E σ0 W hr ng pa tk => ?_)
  exact (dss_cons (ds_if (dt_orW (dt_not (dt_chain o_le o_le de_int (de_callB (cb_len rfl) (by rfl) T.b_len bo_len (da_cons (de_var (pv 0)) da_nil)) (de_gInt (by rfl) T.c_MOST_SIGNS))) (dt_orW (dt_not (dt_truth rfl (de_ms0 PySem.F.slot_str_isascii PySem.F.type_str_isascii (mm_bl mt_isascii) (de_var (pv 0))))) (dt_or1 (dt_not (dt_truth rfl (de_ms0 PySem.F.slot_str_isalpha PySem.F.type_str_isalpha (mm_bl mt_isalpha) (de_ix rfl (hu_of hr) (de_var (pv 0)) de_int (fun _ _ => rfl)))))))).pt (dss_one (ds_ret de_bl)) dss_nil)
    (dss_one (ds_ret (de_and (de_ms0 PySem.F.slot_str_isalnum PySem.F.type_str_isalnum (mm_bl mt_isalnum) (de_var (pv 0))) (de_and (de_ms0 PySem.F.slot_str_islower PySem.F.type_str_islower (mm_bl mt_islower) (de_var (pv 0))) (de_one (de_cmp (o_notin rfl (u65 hr)) (de_var (pv 0)) (de_gTup rfl (by rfl) T.c_RESERVED) (by with_unfolding_all rfl))))))))
abbrev st_is_long_name : Stmt := top 9
theorem sc_is_long_name : FnScope ["text", "pieces", "piece"] ["text"] (defScope st_is_long_name) := ⟨rfl, rfl, rfl, by decide +kernel, rfl, by decide +kernel, by decide +kernel⟩
theorem ok_is_long_name {f : Addr} {fd : FuncData} (T : Tx K mg ca) (D : DefK K mg "is_long_name" "is_long_name" st_is_long_name ["text"] f fd) {f_is_name : Addr} {fd_is_name : FuncData} (h_is_name : CallG P w K mg base ⟨K, ca⟩ 1 "is_name" ["text"] F_is_name f_is_name fd_is_name) : CallG P w K mg base ⟨K, ca⟩ 2 "is_long_name" ["text"] F_is_long_name f fd := by
  have SC := sc_is_long_name
  refine callG D SC rfl (fun cdv A outer sh H E σ0 W hr ng pa tk => ?_)
  exact (dss_cons (ds_asg (ps_set (i := 1) SC.nd rfl (Or.inl rfl) (de_fz (de_ms PySem.F.slot_str_split PySem.F.type_str_split mm_split (de_var (pv 0)) (da_cons de_str da_nil)))))
    (dss_cons (ds_if (dt_cmp o_gt (de_callB (cb_len rfl) (by rfl) T.b_len bo_len (da_cons (de_var (pv 1)) da_nil)) (de_gInt (by rfl) T.c_MOST_PIECES) (nomark _)) (dss_one (ds_ret de_bl)) dss_nil)
    (dss_one (ds_ret (de_callB (cb_all rfl) (by rfl) T.b_all bo_all (da_cons (de_comp rfl SC.nd (di_any rfl (dsr_N (pv 1)) all_N) (own := ([("piece", 2)] : List (Str × Nat))) (blkOk_by (by show blkC ["text", "pieces", "piece"] (defScope st_is_long_name) _ _ = true; decide +kernel)) und_name (by decide) (fun s H C cl fp => (dg_of (pg_name (i := 2) SC.nd rfl (Or.inl rfl)))) (fun s H C cl fp => dts_nil) (fun s H C cl fp => (dg_call h_is_name (hr.mono (by decide)) ng (by rfl) takes0 (da_cons (de_var (pv 2)) da_nil) (eCons_len eNil_len)))) da_nil))))))
abbrev st_Sum__init : Stmt := clsAt (top 14) 0
theorem sc_Sum__init : FnScope ["self", "constant", "terms", "factors", "name", "factor"] ["self", "constant", "terms"] (defScope st_Sum__init) := ⟨rfl, rfl, rfl, by decide +kernel, rfl, by decide +kernel, by decide +kernel⟩
theorem ok_Sum__init {C f : Addr} {fd : FuncData} (T : Tx K mg ca) (D : MetK K "__init__" "Sum.__init__" st_Sum__init ["self", "constant", "terms"] f fd) (M : Mk K C f) (hm : mg "Sum" = some (.ref C)) (hc : ca "Sum" = some C) {f_is_long_name : Addr} {fd_is_long_name : FuncData} (h_is_long_name : CallG P w K mg base ⟨K, ca⟩ 2 "is_long_name" ["text"] F_is_long_name f_is_long_name fd_is_long_name) : MakeG P w K mg base ⟨K, ca⟩ 3 "Sum" ["self", "constant", "terms"] F_Sum__init C f fd := by
  have SC := sc_Sum__init
  refine makeG D M hm hc SC rfl (fun cdv A outer sh H E σ0 W hr ng pa tk => ?_)
  exact (dss_cons (ds_asg (ps_set (i := 3) SC.nd rfl (Or.inr rfl) de_dct0))
    (dss_cons (ds_for pa rfl (di_any rfl (dsr_N (pv 2)) all_N) (dg_tup rfl rfl (dg_cons (dg_of (pg_name (i := 4) SC.nd rfl (Or.inl rfl))) (dg_cons (dg_of (pg_name (i := 5) SC.nd rfl (Or.inl rfl))) dg_nil))) (dss_cons (ds_if (dt_not (dt_truth rfl (dg_call h_is_long_name (hr.mono (by decide)) ng (by rfl) tk (da_cons (de_var (pv 4)) da_nil) (eCons_len eNil_len)))) (dss_one ds_dead) dss_nil)
    (dss_one (ds_sub (hu_of hr) (pv 3) (de_var (pv 4)) (de_bin (o_add rfl) (de_get2 (hu_of hr) (de_var (pv 3)) (de_var (pv 4)) de_int ⟨rfl, rfl, rfl, rfl⟩) (de_var (pv 5)))))) und_name)
    (dss_cons (ds_fld T.f_Sum_constant (pv 0) (de_var (pv 1)))
    (dss_one (ds_fld T.f_Sum_terms (pv 0) (de_callTy (cb_tuple rfl) (by rfl) T.b_tuple bo_tuple (da_cons (de_comp rfl SC.nd (di_any rfl (dsr_E (de_callB (cb_sorted rfl rfl) (by rfl) T.b_sorted bo_sorted (da_cons (de_var (pv 3)) da_nil))) all_E) (own := ([("name", 4)] : List (Str × Nat))) (blkOk_by (by show blkC ["self", "constant", "terms", "factors", "name", "factor"] (defScope st_Sum__init) _ _ = true; decide +kernel)) und_vals (by decide) (fun s H C cl fp => (dg_of (pg_name (i := 4) SC.nd rfl (Or.inl rfl)))) (fun s H C cl fp => (dts_one (dt_cmp (o_ne rfl hr.units) (de_ix rfl (hu_of hr) (de_var (pv 3)) (de_var (pv 4)) (fun _ _ => rfl)) de_int (nomark _)))) (fun s H C cl fp => (de_tup (da_cons (de_fz (de_var (pv 4))) (da_cons (de_ix rfl (hu_of hr) (de_var (pv 3)) (de_var (pv 4)) (fun _ _ => rfl)) da_nil))))) da_nil)))))))
abbrev st__law_given : Stmt := top 33
theorem sc__law_given : FnScope ["plan", "rows", "deed"] ["plan"] (defScope st__law_given) := ⟨rfl, rfl, rfl, by decide +kernel, rfl, by decide +kernel, by decide +kernel⟩
theorem ok__law_given {f : Addr} {fd : FuncData} (T : Tx K mg ca) (D : DefK K mg "_law_given" "_law_given" st__law_given ["plan"] f fd) {C_Sum__init : Addr} {f_Sum__init : Addr} {fd_Sum__init : FuncData} (h_Sum__init : MakeG P w K mg base ⟨K, ca⟩ 3 "Sum" ["self", "constant", "terms"] F_Sum__init C_Sum__init f_Sum__init fd_Sum__init) : CallG P w K mg base ⟨K, ca⟩ 5 "_law_given" ["plan"] F__law_given f fd := by
  have SC := sc__law_given
  refine callG D SC rfl (fun cdv A outer sh H E σ0 W hr ng pa tk => ?_)
  exact (dss_cons (ds_asg (ps_set (i := 1) SC.nd rfl (Or.inl rfl) (de_lst da_nil)))
    (dss_cons (ds_for pa rfl (di_any rfl (dsr_N (pv 0)) all_N) (dg_of (pg_name (i := 2) SC.nd rfl (Or.inl rfl))) (dss_one (ds_if (dt_cmp (o_eq rfl hr.units) (de_ix rfl (hu_of hr) (de_var (pv 2)) de_int (fun _ _ => rfl)) de_str (nomark _)) (dss_one (ds_expr (de_meth PySem.F.plainAttrs_list PySem.F.slot_list_append PySem.F.type_list_append (by decide) mo_append (pv 1) (da_cons (de_fz (de_var (pv 2))) da_nil)))) (dss_one (ds_expr (de_meth PySem.F.plainAttrs_list PySem.F.slot_list_append PySem.F.type_list_append (by decide) mo_append (pv 1) (da_cons (de_tup (da_cons de_str (da_cons (de_ix rfl (hu_of hr) (de_var (pv 2)) de_int (fun _ _ => rfl)) (da_cons (dg_make h_Sum__init (hr.mono (by decide)) ng (by rfl) tk (da_cons (de_ix rfl (hu_of hr) (de_var (pv 2)) de_int (fun _ _ => rfl)) (da_cons (de_ix rfl (hu_of hr) (de_var (pv 2)) de_int (fun _ _ => rfl)) da_nil)) (len1 (eCons_len (eCons_len eNil_len)))) da_nil)))) da_nil)))))) und_name)
    (dss_one (ds_ret (de_var (pv 1))))))
abbrev st_Sum__value : Stmt := clsAt (top 14) 1
theorem sc_Sum__value : FnScope ["self", "known", "total", "name", "factor"] ["self", "known"] (defScope st_Sum__value) := ⟨rfl, rfl, rfl, by decide +kernel, rfl, by decide +kernel, by decide +kernel⟩
theorem ok_Sum__value {C f : Addr} {fd : FuncData} (T : Tx K mg ca) (D : MetK K "value" "Sum.value" st_Sum__value ["self", "known"] f fd) (cl : Cls K C) (M : Meth K C "value" f) (hc : ca "Sum" = some C)  : MethG P w K mg base ⟨K, ca⟩ 1 "Sum" "value" ["self", "known"] F_Sum__value C f fd := by
  have SC := sc_Sum__value
  refine methG D cl M hc SC rfl (fun cdv A outer sh H E σ0 W hr ng pa tk => ?_)
  exact (dss_cons (ds_asg (ps_set (i := 2) SC.nd rfl (Or.inl rfl) (de_fld T.f_Sum_constant (de_var (pv 0)))))
    (dss_cons (ds_for pa rfl (di_any rfl (dsr_E (de_fld T.f_Sum_terms (de_var (pv 0)))) all_E) (dg_tup rfl rfl (dg_cons (dg_of (pg_name (i := 3) SC.nd rfl (Or.inl rfl))) (dg_cons (dg_of (pg_name (i := 4) SC.nd rfl (Or.inl rfl))) dg_nil))) (dss_cons (ds_if (dt_cmp (o_notin rfl (u65 hr)) (de_var (pv 3)) (de_var (pv 1)) (by with_unfolding_all rfl)) (dss_one ds_dead) dss_nil)
    (dss_one (ds_aug (i := 2) SC.nd rfl (Or.inl rfl) (de_bin o_mulA (de_var (pv 4)) (de_ix rfl (hu_of hr) (de_var (pv 1)) (de_var (pv 3)) (fun _ _ => rfl))) io_add))) und_vals)
    (dss_one (ds_ret (de_var (pv 2))))))
abbrev st_run_deeds : Stmt := top 19
theorem sc_run_deeds : FnScope ["deeds", "ranges", "values", "known", "bounds", "name", "low", "high", "worth", "words", "at", "deed"] ["deeds", "ranges", "values"] (defScope st_run_deeds) := ⟨rfl, rfl, rfl, by decide +kernel, rfl, by decide +kernel, by decide +kernel⟩
theorem ok_run_deeds {f : Addr} {fd : FuncData} (T : Tx K mg ca) (D : DefK K mg "run_deeds" "run_deeds" st_run_deeds ["deeds", "ranges", "values"] f fd) {C_Sum__value : Addr} {f_Sum__value : Addr} {fd_Sum__value : FuncData} (h_Sum__value : MethG P w K mg base ⟨K, ca⟩ 1 "Sum" "value" ["self", "known"] F_Sum__value C_Sum__value f_Sum__value fd_Sum__value) : CallG P w K mg base ⟨K, ca⟩ 2 "run_deeds" ["deeds", "ranges", "values"] F_run_deeds f fd := by
  have SC := sc_run_deeds
  refine callG D SC rfl (fun cdv A outer sh H E σ0 W hr ng pa tk => ?_)
  exact (dss_cons (ds_asg (ps_set (i := 3) SC.nd rfl (Or.inr rfl) de_dct0))
    (dss_cons (ds_asg (ps_set (i := 4) SC.nd rfl (Or.inl rfl) de_dct0))
    (dss_cons (ds_for pa rfl (di_zip rfl (by rfl) T.b_zip (da_cons (de_fz (de_var (pv 1))) (da_cons (de_fz (de_var (pv 2))) da_nil))) (dg_tup rfl rfl (dg_cons (dg_tup rfl rfl (dg_cons (dg_of (pg_name (i := 5) SC.nd rfl (Or.inl rfl))) (dg_cons (dg_of (pg_name (i := 6) SC.nd rfl (Or.inl rfl))) (dg_cons (dg_of (pg_name (i := 7) SC.nd rfl (Or.inl rfl))) dg_nil)))) (dg_cons (dg_of (pg_name (i := 8) SC.nd rfl (Or.inl rfl))) dg_nil))) (dss_cons (ds_sub (hu_of hr) (pv 3) (de_var (pv 5)) (de_fz (de_var (pv 8))))
    (dss_one (ds_sub (hu_of hr) (pv 4) (de_var (pv 5)) (de_tup (da_cons (de_fz (de_var (pv 6))) (da_cons (de_fz (de_var (pv 7))) da_nil)))))) und_zip)
    (dss_cons (ds_asg (ps_set (i := 9) SC.nd rfl (Or.inl rfl) (de_lst da_nil)))
    (dss_cons (ds_for pa rfl (di_enum rfl (by rfl) T.b_enumerate (dsr_N (pv 0)) all_N) (dg_tup rfl rfl (dg_cons (dg_of (pg_name (i := 10) SC.nd rfl (Or.inl rfl))) (dg_cons (dg_of (pg_name (i := 11) SC.nd rfl (Or.inl rfl))) dg_nil))) (dss_one (ds_if (dt_cmp (o_eq rfl hr.units) (de_ix rfl (hu_of hr) (de_var (pv 11)) de_int (fun _ _ => rfl)) de_str (nomark _)) (dss_one (ds_expr (de_meth PySem.F.plainAttrs_list PySem.F.slot_list_append PySem.F.type_list_append (by decide) mo_append (pv 9) (da_cons (de_ix rfl (hu_of hr) (de_var (pv 11)) de_int (fun _ _ => rfl)) da_nil)))) (dss_cons (ds_asg (ps_set (i := 8) SC.nd rfl (Or.inl rfl) (de_fz (dg_meth h_Sum__value (hr.mono (by decide)) ng tk (de_ix rfl (hu_of hr) (de_var (pv 11)) de_int (fun _ _ => rfl)) (da_cons (de_var (pv 3)) da_nil) (len1 (eCons_len eNil_len))))))
    (dss_cons (ds_tgt (de_ix rfl (hu_of hr) (de_var (pv 4)) (de_ix rfl (hu_of hr) (de_var (pv 11)) de_int (fun _ _ => rfl)) (fun _ _ => rfl)) (dg_tup rfl rfl (dg_cons (dg_of (pg_name (i := 6) SC.nd rfl (Or.inl rfl))) (dg_cons (dg_of (pg_name (i := 7) SC.nd rfl (Or.inl rfl))) dg_nil))))
    (dss_cons (ds_if (dt_not (dt_chain o_le o_le (de_var (pv 6)) (de_var (pv 8)) (de_var (pv 7)))) (dss_one (ds_ret (de_tup (da_cons (de_callTy (cb_tuple rfl) (by rfl) T.b_tuple bo_tuple (da_cons (de_var (pv 2)) da_nil)) (da_cons (de_tup da_nil) (da_cons (de_tup (da_cons (de_fz (de_var (pv 10))) (da_cons (de_fz (de_var (pv 8))) da_nil))) da_nil)))))) dss_nil)
    (dss_one (ds_sub (hu_of hr) (pv 3) (de_ix rfl (hu_of hr) (de_var (pv 11)) de_int (fun _ _ => rfl)) (de_fz (de_var (pv 8)))))))))) (und_enum und_name))
    (dss_one (ds_ret (de_tup (da_cons (de_callTy (cb_tuple rfl) (by rfl) T.b_tuple bo_tuple (da_cons (de_comp rfl SC.nd (di_any rfl (dsr_N (pv 1)) all_N) (own := ([("name", 5), ("low", 6), ("high", 7)] : List (Str × Nat))) (blkOk_by (by show blkC ["deeds", "ranges", "values", "known", "bounds", "name", "low", "high", "worth", "words", "at", "deed"] (defScope st_run_deeds) _ _ = true; decide +kernel)) und_name (by decide) (fun s H C cl fp => (dg_tup rfl rfl (dg_cons (dg_of (pg_name (i := 5) SC.nd rfl (Or.inl rfl))) (dg_cons (dg_of (pg_name (i := 6) SC.nd rfl (Or.inl rfl))) (dg_cons (dg_of (pg_name (i := 7) SC.nd rfl (Or.inl rfl))) dg_nil))))) (fun s H C cl fp => dts_nil) (fun s H C cl fp => (de_ix rfl (hu_of hr) (de_var (pv 3)) (de_var (pv 5)) (fun _ _ => rfl)))) da_nil)) (da_cons (de_callTy (cb_tuple rfl) (by rfl) T.b_tuple bo_tuple (da_cons (de_var (pv 9)) da_nil)) (da_cons de_non da_nil)))))))))))
abbrev st__law_did : Stmt := top 34
theorem sc__law_did : FnScope ["plan", "ranges", "values", "due", "deeds", "rows", "held", "told"] ["plan", "ranges", "values"] (defScope st__law_did) := ⟨rfl, rfl, rfl, by decide +kernel, rfl, by decide +kernel, by decide +kernel⟩
theorem ok__law_did {f : Addr} {fd : FuncData} (T : Tx K mg ca) (D : DefK K mg "_law_did" "_law_did" st__law_did ["plan", "ranges", "values"] f fd) {f__law_run : Addr} {fd__law_run : FuncData} (h__law_run : CallG P w K mg base ⟨K, ca⟩ 2 "_law_run" ["plan", "ranges", "values"] F__law_run f__law_run fd__law_run) {f__law_given : Addr} {fd__law_given : FuncData} (h__law_given : CallG P w K mg base ⟨K, ca⟩ 5 "_law_given" ["plan"] F__law_given f__law_given fd__law_given) {f_run_deeds : Addr} {fd_run_deeds : FuncData} (h_run_deeds : CallG P w K mg base ⟨K, ca⟩ 2 "run_deeds" ["deeds", "ranges", "values"] F_run_deeds f_run_deeds fd_run_deeds) : CallG P w K mg base ⟨K, ca⟩ 6 "_law_did" ["plan", "ranges", "values"] F__law_did f fd := by
  have SC := sc__law_did
  refine callG D SC rfl (fun cdv A outer sh H E σ0 W hr ng pa tk => ?_)
  exact (dss_cons (ds_asg (ps_set (i := 3) SC.nd rfl (Or.inl rfl) (de_callB (cb_repr rfl ng (u65 hr)) (by rfl) T.b_repr bo_repr (da_cons (dg_call h__law_run (hr.mono (by decide)) ng (by rfl) tk (da_cons (de_var (pv 0)) (da_cons (de_var (pv 1)) (da_cons (de_var (pv 2)) da_nil))) (eCons_len (eCons_len (eCons_len eNil_len)))) da_nil))))
    (dss_cons (ds_asg (ps_set (i := 4) SC.nd rfl (Or.inl rfl) (de_fz (dg_call h__law_given (hr.mono (by decide)) ng (by rfl) tk (da_cons (de_var (pv 0)) da_nil) (eCons_len eNil_len)))))
    (dss_cons (ds_asg (ps_set (i := 5) SC.nd rfl (Or.inl rfl) (de_fz (de_callTy (cb_list rfl) (by rfl) T.b_list bo_list (da_cons (de_var (pv 1)) da_nil)))))
    (dss_cons (ds_asg (ps_set (i := 6) SC.nd rfl (Or.inl rfl) (de_fz (de_callTy (cb_list rfl) (by rfl) T.b_list bo_list (da_cons (de_var (pv 2)) da_nil)))))
    (dss_cons (ds_asg (ps_set (i := 7) SC.nd rfl (Or.inl rfl) (de_fz (dg_call h_run_deeds (hr.mono (by decide)) ng (by rfl) tk (da_cons (de_var (pv 4)) (da_cons (de_var (pv 5)) (da_cons (de_var (pv 6)) da_nil))) (eCons_len (eCons_len (eCons_len eNil_len)))))))
    (dss_cons (ds_if (dt_orW (dt_cmp (o_ne rfl hr.units) (de_callB (cb_repr rfl ng (u65 hr)) (by rfl) T.b_repr bo_repr (da_cons (de_var (pv 7)) da_nil)) (de_var (pv 3)) (nomark _)) (dt_orW (dt_cmp (o_ne rfl hr.units) (de_var (pv 5)) (de_var (pv 1)) (nomark _)) (dt_or1 (dt_cmp (o_ne rfl hr.units) (de_var (pv 6)) (de_var (pv 2)) (nomark _))))).pt (dss_one (ds_ret de_bl)) dss_nil)
    (dss_cons (ds_if (dt_cmp (o_ne rfl hr.units) (de_callB (cb_repr rfl ng (u65 hr)) (by rfl) T.b_repr bo_repr (da_cons (dg_call h_run_deeds (hr.mono (by decide)) ng (by rfl) tk (da_cons (de_var (pv 4)) (da_cons (de_callTy (cb_tuple rfl) (by rfl) T.b_tuple bo_tuple (da_cons (de_var (pv 5)) da_nil)) (da_cons (de_callTy (cb_tuple rfl) (by rfl) T.b_tuple bo_tuple (da_cons (de_var (pv 6)) da_nil)) da_nil))) (eCons_len (eCons_len (eCons_len eNil_len)))) da_nil)) (de_var (pv 3)) (nomark _)) (dss_one (ds_ret de_bl)) dss_nil)
    (dss_one (ds_ret (de_cmp (o_eq rfl hr.units) (de_callB (cb_repr rfl ng (u65 hr)) (by rfl) T.b_repr bo_repr (da_cons (dg_call h_run_deeds (hr.mono (by decide)) ng (by rfl) tk (da_cons (de_callTy (cb_tuple rfl) (by rfl) T.b_tuple bo_tuple (da_cons (de_var (pv 4)) da_nil)) (da_cons (de_var (pv 5)) (da_cons (de_var (pv 6)) da_nil))) (eCons_len (eCons_len (eCons_len eNil_len)))) da_nil)) (de_var (pv 3)) (nomark _)))))))))))
abbrev st__law_runs : Stmt := top 35
theorem sc__law_runs : FnScope ["plan", "ranges", "values", "told", "good", "after", "start", "name", "low", "high", "ends", "odd", "tries", "rows"] ["plan", "ranges", "values"] (defScope st__law_runs) := ⟨rfl, rfl, rfl, by decide +kernel, rfl, by decide +kernel, by decide +kernel⟩
theorem ok__law_runs {f : Addr} {fd : FuncData} (T : Tx K mg ca) (D : DefK K mg "_law_runs" "_law_runs" st__law_runs ["plan", "ranges", "values"] f fd) {f__law_did : Addr} {fd__law_did : FuncData} (h__law_did : CallG P w K mg base ⟨K, ca⟩ 6 "_law_did" ["plan", "ranges", "values"] F__law_did f__law_did fd__law_did) {f__law_run : Addr} {fd__law_run : FuncData} (h__law_run : CallG P w K mg base ⟨K, ca⟩ 2 "_law_run" ["plan", "ranges", "values"] F__law_run f__law_run fd__law_run) : CallG P w K mg base ⟨K, ca⟩ 7 "_law_runs" ["plan", "ranges", "values"] F__law_runs f fd := by
  have SC := sc__law_runs
  refine callG D SC rfl (fun cdv A outer sh H E σ0 W hr ng pa tk => ?_)
  exact (dss_cons (ds_if (dt_not (dt_truth rfl (dg_call h__law_did (hr.mono (by decide)) ng (by rfl) tk (da_cons (de_var (pv 0)) (da_cons (de_var (pv 1)) (da_cons (de_var (pv 2)) da_nil))) (eCons_len (eCons_len (eCons_len eNil_len)))))) (dss_one (ds_ret de_bl)) dss_nil)
    (dss_cons (ds_asg (ps_set (i := 3) SC.nd rfl (Or.inl rfl) (de_fz (dg_call h__law_run (hr.mono (by decide)) ng (by rfl) tk (da_cons (de_var (pv 0)) (da_cons (de_var (pv 1)) (da_cons (de_var (pv 2)) da_nil))) (eCons_len (eCons_len (eCons_len eNil_len)))))))
    (dss_cons (ds_asg (ps_set (i := 4) SC.nd rfl (Or.inl rfl) (de_fz (de_ifExp (dt_cmp o_is (de_ix rfl (hu_of hr) (de_var (pv 3)) de_int (fun _ _ => rfl)) de_non (nomark _)) (de_var (pv 0)) (de_sl rfl (de_var (pv 0)) do_none (do_some (de_ix rfl (hu_of hr) (de_ix rfl (hu_of hr) (de_var (pv 3)) de_int (fun _ _ => rfl)) de_int (fun _ _ => rfl))))))))
    (dss_cons (ds_asg (ps_set (i := 5) SC.nd rfl (Or.inl rfl) (de_fz (dg_call h__law_run (hr.mono (by decide)) ng (by rfl) tk (da_cons (de_var (pv 4)) (da_cons (de_var (pv 1)) (da_cons (de_var (pv 2)) da_nil))) (eCons_len (eCons_len (eCons_len eNil_len)))))))
    (dss_cons (ds_for pa rfl (di_any rfl (dsr_E (de_lst (da_cons (de_fz (de_var (pv 2))) (da_cons (de_callTy (cb_list rfl) (by rfl) T.b_list bo_list (da_cons (de_ix rfl (hu_of hr) (de_var (pv 5)) de_int (fun _ _ => rfl)) da_nil)) da_nil)))) all_E) (dg_of (pg_name (i := 6) SC.nd rfl (Or.inl rfl))) (dss_one (ds_if (dt_not (dt_truth rfl (dg_call h__law_did (hr.mono (by decide)) ng (by rfl) tk (da_cons (de_var (pv 4)) (da_cons (de_var (pv 1)) (da_cons (de_var (pv 6)) da_nil))) (eCons_len (eCons_len (eCons_len eNil_len)))))) (dss_one (ds_ret de_bl)) dss_nil)) und_vals)
    (dss_cons (ds_for pa rfl (di_any rfl (dsr_N (pv 1)) all_N) (dg_tup rfl rfl (dg_cons (dg_of (pg_name (i := 7) SC.nd rfl (Or.inl rfl))) (dg_cons (dg_of (pg_name (i := 8) SC.nd rfl (Or.inl rfl))) (dg_cons (dg_of (pg_name (i := 9) SC.nd rfl (Or.inl rfl))) dg_nil)))) (dss_cons (ds_asg (ps_set (i := 10) SC.nd rfl (Or.inl rfl) (de_fz (de_lst (da_cons (de_tup (da_cons de_str (da_cons (de_fz (de_var (pv 7))) (da_cons (de_fz (de_var (pv 8))) (da_cons (de_lst da_nil) da_nil))))) (da_cons (de_tup (da_cons de_str (da_cons (de_fz (de_var (pv 7))) (da_cons (de_fz (de_var (pv 9))) (da_cons (de_lst da_nil) da_nil))))) da_nil))))))
    (dss_cons (ds_asg (ps_set (i := 11) SC.nd rfl (Or.inl rfl) (de_fz (de_lst (da_cons (de_tup (da_cons de_str (da_cons (de_fz (de_var (pv 7))) (da_cons (de_bin o_sub (de_var (pv 8)) de_int) (da_cons (de_lst da_nil) da_nil))))) (da_cons (de_tup (da_cons de_str (da_cons (de_fz (de_var (pv 7))) (da_cons (de_bin (o_add rfl) (de_var (pv 9)) de_int) (da_cons (de_lst da_nil) da_nil))))) da_nil))))))
    (dss_cons (ds_asg (ps_set (i := 12) SC.nd rfl (Or.inl rfl) (de_lst (da_cons (de_bin (o_add rfl) (de_var (pv 4)) (de_var (pv 10))) (da_cons (de_bin (o_add rfl) (de_var (pv 4)) (de_var (pv 11))) (da_cons (de_bin (o_add rfl) (de_sl rfl (de_var (pv 11)) (do_some de_int) do_none) (de_var (pv 4))) da_nil))))))
    (dss_cons (ds_expr (de_meth PySem.F.plainAttrs_list PySem.F.slot_list_append PySem.F.type_list_append (by decide) mo_append (pv 12) (da_cons (de_bin (o_add rfl) (de_bin (o_add rfl) (de_var (pv 4)) (de_sl rfl (de_var (pv 11)) do_none (do_some de_int))) (de_sl rfl (de_var (pv 10)) do_none (do_some de_int))) da_nil)))
    (dss_one (ds_for pa rfl (di_any rfl (dsr_N (pv 12)) all_N) (dg_of (pg_name (i := 13) SC.nd rfl (Or.inl rfl))) (dss_one (ds_if (dt_not (dt_truth rfl (dg_call h__law_did (hr.mono (by decide)) ng (by rfl) tk (da_cons (de_var (pv 13)) (da_cons (de_var (pv 1)) (da_cons (de_var (pv 2)) da_nil))) (eCons_len (eCons_len (eCons_len eNil_len)))))) (dss_one (ds_ret de_bl)) dss_nil)) und_name)))))) und_name)
    (dss_one (ds_ret de_bl))))))))
abbrev st__law_reduced : Stmt := top 27
theorem sc__law_reduced : FnScope ["pairs", "rows", "name", "factor", "pair"] ["pairs"] (defScope st__law_reduced) := ⟨rfl, rfl, rfl, by decide +kernel, rfl, by decide +kernel, by decide +kernel⟩
theorem ok__law_reduced {f : Addr} {fd : FuncData} (T : Tx K mg ca) (D : DefK K mg "_law_reduced" "_law_reduced" st__law_reduced ["pairs"] f fd)  : CallG P w K mg base ⟨K, ca⟩ 1 "_law_reduced" ["pairs"] F__law_reduced f fd := by
  have SC := sc__law_reduced
  refine callG D SC rfl (fun cdv A outer sh H E σ0 W hr ng pa tk => ?_)
  exact (dss_cons (ds_asg (ps_set (i := 1) SC.nd rfl (Or.inl rfl) (de_lst da_nil)))
    (dss_cons (ds_for pa rfl (di_any rfl (dsr_E (de_callB (cb_sorted rfl rfl) (by rfl) T.b_sorted bo_sorted (da_cons (de_comp rfl SC.nd (di_any rfl (dsr_N (pv 0)) all_N) (own := ([("pair", 4)] : List (Str × Nat))) (blkOk_by (by show blkC ["pairs", "rows", "name", "factor", "pair"] (defScope st__law_reduced) _ _ = true; decide +kernel)) und_name (by decide) (fun s H C cl fp => (dg_of (pg_name (i := 4) SC.nd rfl (Or.inl rfl)))) (fun s H C cl fp => dts_nil) (fun s H C cl fp => (de_ix rfl (hu_of hr) (de_var (pv 4)) de_int (fun _ _ => rfl)))) da_nil))) all_E) (dg_of (pg_name (i := 2) SC.nd rfl (Or.inr rfl))) (dss_cons (ds_asg (ps_set (i := 3) SC.nd rfl (Or.inl rfl) (de_callB (cb_sum rfl) (by rfl) T.b_sum bo_sum (da_cons (de_comp rfl SC.nd (di_any rfl (dsr_N (pv 0)) all_N) (own := ([("pair", 4)] : List (Str × Nat))) (blkOk_by (by show blkC ["pairs", "rows", "name", "factor", "pair"] (defScope st__law_reduced) _ _ = true; decide +kernel)) und_name (by decide) (fun s H C cl fp => (dg_of (pg_name (i := 4) SC.nd rfl (Or.inl rfl)))) (fun s H C cl fp => (dts_one (dt_cmp (o_eq rfl hr.units) (de_ix rfl (hu_of hr) (de_var (pv 4)) de_int (fun _ _ => rfl)) (de_var (pv 2)) (nomark _)))) (fun s H C cl fp => (de_ix rfl (hu_of hr) (de_var (pv 4)) de_int (fun _ _ => rfl)))) da_nil))))
    (dss_one (ds_if (dt_andW (dt_cmp (o_ne rfl hr.units) (de_var (pv 3)) de_int (nomark _)) (dt_and1 (dt_cmp (o_notin rfl (u65 hr)) (de_tup (da_cons (de_fz (de_var (pv 2))) (da_cons (de_fz (de_var (pv 3))) da_nil))) (de_var (pv 1)) (by with_unfolding_all rfl)))).pt (dss_one (ds_expr (de_meth PySem.F.plainAttrs_list PySem.F.slot_list_append PySem.F.type_list_append (by decide) mo_append (pv 1) (da_cons (de_tup (da_cons (de_fz (de_var (pv 2))) (da_cons (de_fz (de_var (pv 3))) da_nil))) da_nil)))) dss_nil))) und_vals)
    (dss_one (ds_ret (de_callTy (cb_tuple rfl) (by rfl) T.b_tuple bo_tuple (da_cons (de_var (pv 1)) da_nil))))))
abbrev st__law_fits : Stmt := top 37
theorem sc__law_fits : FnScope ["plan", "names", "words", "deed", "terms", "used", "pair", "name"] ["plan", "names", "words"] (defScope st__law_fits) := ⟨rfl, rfl, rfl, by decide +kernel, rfl, by decide +kernel, by decide +kernel⟩
theorem ok__law_fits {f : Addr} {fd : FuncData} (T : Tx K mg ca) (D : DefK K mg "_law_fits" "_law_fits" st__law_fits ["plan", "names", "words"] f fd) {f__law_reduced : Addr} {fd__law_reduced : FuncData} (h__law_reduced : CallG P w K mg base ⟨K, ca⟩ 1 "_law_reduced" ["pairs"] F__law_reduced f__law_reduced fd__law_reduced) : CallG P w K mg base ⟨K, ca⟩ 2 "_law_fits" ["plan", "names", "words"] F__law_fits f fd := by
  have SC := sc__law_fits
  refine callG D SC rfl (fun cdv A outer sh H E σ0 W hr ng pa tk => ?_)
  exact (dss_cons (ds_for pa rfl (di_any rfl (dsr_N (pv 0)) all_N) (dg_of (pg_name (i := 3) SC.nd rfl (Or.inl rfl))) (dss_cons (ds_if (dt_cmp (o_eq rfl hr.units) (de_ix rfl (hu_of hr) (de_var (pv 3)) de_int (fun _ _ => rfl)) de_str (nomark _)) (dss_cons (ds_if (dt_cmp (o_notin rfl (u65 hr)) (de_ix rfl (hu_of hr) (de_var (pv 3)) de_int (fun _ _ => rfl)) (de_var (pv 2)) (by with_unfolding_all rfl)) (dss_one (ds_ret de_bl)) dss_nil)
    (dss_one ds_continue)) dss_nil)
    (dss_cons (ds_asg (ps_set (i := 4) SC.nd rfl (Or.inl rfl) (de_fz (dg_call h__law_reduced (hr.mono (by decide)) ng (by rfl) tk (da_cons (de_ix rfl (hu_of hr) (de_var (pv 3)) de_int (fun _ _ => rfl)) da_nil) (eCons_len eNil_len)))))
    (dss_cons (ds_asg (ps_set (i := 5) SC.nd rfl (Or.inl rfl) (de_fz (de_bin (o_add rfl) (de_lst (da_cons (de_ix rfl (hu_of hr) (de_var (pv 3)) de_int (fun _ _ => rfl)) da_nil)) (de_comp rfl SC.nd (di_any rfl (dsr_N (pv 4)) all_N) (own := ([("pair", 6)] : List (Str × Nat))) (blkOk_by (by show blkC ["plan", "names", "words", "deed", "terms", "used", "pair", "name"] (defScope st__law_fits) _ _ = true; decide +kernel)) und_name (by decide) (fun s H C cl fp => (dg_of (pg_name (i := 6) SC.nd rfl (Or.inl rfl)))) (fun s H C cl fp => dts_nil) (fun s H C cl fp => (de_ix rfl (hu_of hr) (de_var (pv 6)) de_int (fun _ _ => rfl))))))))
    (dss_cons (ds_if (dt_orW (dt_truth rfl (de_comp rfl SC.nd (di_any rfl (dsr_N (pv 5)) all_N) (own := ([("name", 7)] : List (Str × Nat))) (blkOk_by (by show blkC ["plan", "names", "words", "deed", "terms", "used", "pair", "name"] (defScope st__law_fits) _ _ = true; decide +kernel)) und_name (by decide) (fun s H C cl fp => (dg_of (pg_name (i := 7) SC.nd rfl (Or.inl rfl)))) (fun s H C cl fp => (dts_one (dt_cmp (o_notin rfl (u65 hr)) (de_var (pv 7)) (de_var (pv 1)) (by with_unfolding_all rfl)))) (fun s H C cl fp => (de_fz (de_var (pv 7)))))) (dt_or1 (dt_cmp o_gt (de_callB cb_abs (by rfl) T.b_abs bo_abs (da_cons (de_ix rfl (hu_of hr) (de_var (pv 3)) de_int (fun _ _ => rfl)) da_nil)) de_int (nomark _)))).pt (dss_one (ds_ret de_bl)) dss_nil)
    (dss_one (ds_if (dt_truth rfl (de_comp rfl SC.nd (di_any rfl (dsr_N (pv 4)) all_N) (own := ([("pair", 6)] : List (Str × Nat))) (blkOk_by (by show blkC ["plan", "names", "words", "deed", "terms", "used", "pair", "name"] (defScope st__law_fits) _ _ = true; decide +kernel)) und_name (by decide) (fun s H C cl fp => (dg_of (pg_name (i := 6) SC.nd rfl (Or.inl rfl)))) (fun s H C cl fp => (dts_one (dt_cmp o_gt (de_callB cb_abs (by rfl) T.b_abs bo_abs (da_cons (de_ix rfl (hu_of hr) (de_var (pv 6)) de_int (fun _ _ => rfl)) da_nil)) de_int (nomark _)))) (fun s H C cl fp => (de_fz (de_var (pv 6)))))) (dss_one (ds_ret de_bl)) dss_nil)))))) und_name)
    (dss_one (ds_ret (de_cmp o_le (de_callB (cb_len rfl) (by rfl) T.b_len bo_len (da_cons (de_var (pv 0)) da_nil)) de_int (nomark _)))))
abbrev st__law_right : Stmt := top 36
theorem sc__law_right : FnScope ["answer", "due"] ["answer", "due"] (defScope st__law_right) := ⟨rfl, rfl, rfl, by decide +kernel, rfl, by decide +kernel, by decide +kernel⟩
theorem ok__law_right {f : Addr} {fd : FuncData} (T : Tx K mg ca) (D : DefK K mg "_law_right" "_law_right" st__law_right ["answer", "due"] f fd)  : CallG P w K mg base ⟨K, ca⟩ 1 "_law_right" ["answer", "due"] F__law_right f fd := by
  have SC := sc__law_right
  refine callG D SC rfl (fun cdv A outer sh H E σ0 W hr ng pa tk => ?_)
  exact (dss_one (ds_ret (de_ifExp (dt_truth rfl (de_var (pv 1))) (de_cmp o_is (de_var (pv 0)) de_bl (nomark _)) (de_cmp o_is (de_var (pv 0)) de_bl (nomark _)))))
abbrev st_Sum__small : Stmt := clsAt (top 14) 3
theorem sc_Sum__small : FnScope ["self", "name", "factor"] ["self"] (defScope st_Sum__small) := ⟨rfl, rfl, rfl, by decide +kernel, rfl, by decide +kernel, by decide +kernel⟩
theorem ok_Sum__small {C f q : Addr} {fd : FuncData} (T : Tx K mg ca) (D : MetK K "small" "Sum.small" st_Sum__small ["self"] f fd) (cl : Cls K C) (M : PropOf K C "small" q f) (hc : ca "Sum" = some C)  : PropG P w K mg base ⟨K, ca⟩ 1 "Sum" "small" ["self"] F_Sum__small C q f fd := by
  have SC := sc_Sum__small
  refine propG D cl M hc SC rfl (fun cdv A outer sh H E σ0 W hr ng pa tk => ?_)
  exact (dss_cons (ds_if (dt_orW (dt_cmp o_gt (de_callB (cb_len rfl) (by rfl) T.b_len bo_len (da_cons (de_fld T.f_Sum_terms (de_var (pv 0))) da_nil)) (de_gInt (by rfl) T.c_MOST_TERMS) (nomark _)) (dt_or1 (dt_cmp o_gt (de_callB cb_abs (by rfl) T.b_abs bo_abs (da_cons (de_fld T.f_Sum_constant (de_var (pv 0))) da_nil)) (de_gInt (by rfl) T.c_MOST_CONSTANT) (nomark _)))).pt (dss_one (ds_ret de_bl)) dss_nil)
    (dss_one (ds_ret (de_callB (cb_all rfl) (by rfl) T.b_all bo_all (da_cons (de_comp rfl SC.nd (di_any rfl (dsr_E (de_fld T.f_Sum_terms (de_var (pv 0)))) all_E) (own := ([("name", 1), ("factor", 2)] : List (Str × Nat))) (blkOk_by (by show blkC ["self", "name", "factor"] (defScope st_Sum__small) _ _ = true; decide +kernel)) und_vals (by decide) (fun s H C cl fp => (dg_tup rfl rfl (dg_cons (dg_of (pg_name (i := 1) SC.nd rfl (Or.inl rfl))) (dg_cons (dg_of (pg_name (i := 2) SC.nd rfl (Or.inl rfl))) dg_nil)))) (fun s H C cl fp => dts_nil) (fun s H C cl fp => (de_cmp o_le (de_callB cb_abs (by rfl) T.b_abs bo_abs (da_cons (de_var (pv 2)) da_nil)) (de_gInt (by rfl) T.c_MOST_FACTOR) (nomark _)))) da_nil)))))
abbrev st_Sum__involved : Stmt := clsAt (top 14) 2
theorem sc_Sum__involved : FnScope ["self", "name", "factor"] ["self"] (defScope st_Sum__involved) := ⟨rfl, rfl, rfl, by decide +kernel, rfl, by decide +kernel, by decide +kernel⟩
theorem ok_Sum__involved {C f : Addr} {fd : FuncData} (T : Tx K mg ca) (D : MetK K "involved" "Sum.involved" st_Sum__involved ["self"] f fd) (cl : Cls K C) (M : Meth K C "involved" f) (hc : ca "Sum" = some C)  : MethG P w K mg base ⟨K, ca⟩ 1 "Sum" "involved" ["self"] F_Sum__involved C f fd := by
  have SC := sc_Sum__involved
  refine methG D cl M hc SC rfl (fun cdv A outer sh H E σ0 W hr ng pa tk => ?_)
  exact (dss_one (ds_ret (de_callTy (cb_tuple rfl) (by rfl) T.b_tuple bo_tuple (da_cons (de_comp rfl SC.nd (di_any rfl (dsr_E (de_fld T.f_Sum_terms (de_var (pv 0)))) all_E) (own := ([("name", 1), ("factor", 2)] : List (Str × Nat))) (blkOk_by (by show blkC ["self", "name", "factor"] (defScope st_Sum__involved) _ _ = true; decide +kernel)) und_vals (by decide) (fun s H C cl fp => (dg_tup rfl rfl (dg_cons (dg_of (pg_name (i := 1) SC.nd rfl (Or.inl rfl))) (dg_cons (dg_of (pg_name (i := 2) SC.nd rfl (Or.inl rfl))) dg_nil)))) (fun s H C cl fp => dts_nil) (fun s H C cl fp => (de_fz (de_var (pv 1))))) da_nil))))
abbrev st_is_deed : Stmt := top 17
theorem sc_is_deed : FnScope ["deed", "names", "words", "total", "name"] ["deed", "names", "words"] (defScope st_is_deed) := ⟨rfl, rfl, rfl, by decide +kernel, rfl, by decide +kernel, by decide +kernel⟩
theorem ok_is_deed {f : Addr} {fd : FuncData} (T : Tx K mg ca) (D : DefK K mg "is_deed" "is_deed" st_is_deed ["deed", "names", "words"] f fd) {C_Sum__small q_Sum__small : Addr} {f_Sum__small : Addr} {fd_Sum__small : FuncData} (h_Sum__small : PropG P w K mg base ⟨K, ca⟩ 1 "Sum" "small" ["self"] F_Sum__small C_Sum__small q_Sum__small f_Sum__small fd_Sum__small) {C_Sum__involved : Addr} {f_Sum__involved : Addr} {fd_Sum__involved : FuncData} (h_Sum__involved : MethG P w K mg base ⟨K, ca⟩ 1 "Sum" "involved" ["self"] F_Sum__involved C_Sum__involved f_Sum__involved fd_Sum__involved) : CallG P w K mg base ⟨K, ca⟩ 3 "is_deed" ["deed", "names", "words"] F_is_deed f fd := by
  have SC := sc_is_deed
  refine callG D SC rfl (fun cdv A outer sh H E σ0 W hr ng pa tk => ?_)
  exact (dss_cons (ds_if (dt_cmp (o_eq rfl hr.units) (de_ix rfl (hu_of hr) (de_var (pv 0)) de_int (fun _ _ => rfl)) de_str (nomark _)) (dss_one (ds_ret (de_cmp (o_in rfl (u65 hr)) (de_ix rfl (hu_of hr) (de_var (pv 0)) de_int (fun _ _ => rfl)) (de_var (pv 2)) (by with_unfolding_all rfl)))) dss_nil)
    (dss_cons (ds_if (dt_orW (dt_cmp (o_ne rfl hr.units) (de_ix rfl (hu_of hr) (de_var (pv 0)) de_int (fun _ _ => rfl)) de_str (nomark _)) (dt_or1 (dt_cmp (o_notin rfl (u65 hr)) (de_ix rfl (hu_of hr) (de_var (pv 0)) de_int (fun _ _ => rfl)) (de_var (pv 1)) (by with_unfolding_all rfl)))).pt (dss_one (ds_ret de_bl)) dss_nil)
    (dss_cons (ds_asg (ps_set (i := 3) SC.nd rfl (Or.inl rfl) (de_ix rfl (hu_of hr) (de_var (pv 0)) de_int (fun _ _ => rfl))))
    (dss_one (ds_ret (de_and (dg_prop h_Sum__small (hr.mono (by decide)) ng (de_var (pv 3)) rfl) (de_one (de_callB (cb_all rfl) (by rfl) T.b_all bo_all (da_cons (de_comp rfl SC.nd (di_any rfl (dsr_E (dg_meth0 h_Sum__involved (hr.mono (by decide)) ng tk (de_var (pv 3)) rfl)) all_E) (own := ([("name", 4)] : List (Str × Nat))) (blkOk_by (by show blkC ["deed", "names", "words", "total", "name"] (defScope st_is_deed) _ _ = true; decide +kernel)) und_vals (by decide) (fun s H C cl fp => (dg_of (pg_name (i := 4) SC.nd rfl (Or.inl rfl)))) (fun s H C cl fp => dts_nil) (fun s H C cl fp => (de_cmp (o_in rfl (u65 hr)) (de_var (pv 4)) (de_var (pv 1)) (by with_unfolding_all rfl)))) da_nil)))))))))
abbrev st_is_deeds : Stmt := top 18
theorem sc_is_deeds : FnScope ["deeds", "names", "words", "deed"] ["deeds", "names", "words"] (defScope st_is_deeds) := ⟨rfl, rfl, rfl, by decide +kernel, rfl, by decide +kernel, by decide +kernel⟩
theorem ok_is_deeds {f : Addr} {fd : FuncData} (T : Tx K mg ca) (D : DefK K mg "is_deeds" "is_deeds" st_is_deeds ["deeds", "names", "words"] f fd) {f_is_deed : Addr} {fd_is_deed : FuncData} (h_is_deed : CallG P w K mg base ⟨K, ca⟩ 3 "is_deed" ["deed", "names", "words"] F_is_deed f_is_deed fd_is_deed) : CallG P w K mg base ⟨K, ca⟩ 4 "is_deeds" ["deeds", "names", "words"] F_is_deeds f fd := by
  have SC := sc_is_deeds
  refine callG D SC rfl (fun cdv A outer sh H E σ0 W hr ng pa tk => ?_)
  exact (dss_one (ds_ret (de_and (de_cmp o_le (de_callB (cb_len rfl) (by rfl) T.b_len bo_len (da_cons (de_var (pv 0)) da_nil)) (de_gInt (by rfl) T.c_MOST_DEEDS) (nomark _)) (de_one (de_callB (cb_all rfl) (by rfl) T.b_all bo_all (da_cons (de_comp rfl SC.nd (di_any rfl (dsr_N (pv 0)) all_N) (own := ([("deed", 3)] : List (Str × Nat))) (blkOk_by (by show blkC ["deeds", "names", "words", "deed"] (defScope st_is_deeds) _ _ = true; decide +kernel)) und_name (by decide) (fun s H C cl fp => (dg_of (pg_name (i := 3) SC.nd rfl (Or.inl rfl)))) (fun s H C cl fp => dts_nil) (fun s H C cl fp => (dg_call h_is_deed (hr.mono (by decide)) ng (by rfl) takes0 (da_cons (de_var (pv 3)) (da_cons (de_var (pv 1)) (da_cons (de_var (pv 2)) da_nil))) (eCons_len (eCons_len (eCons_len eNil_len)))))) da_nil))))))
abbrev st__law_judged : Stmt := top 38
theorem sc__law_judged : FnScope ["hand", "names", "words", "rows", "k", "name", "pairs", "many", "nine", "wide", "odd", "place", "deed", "deeds", "pair"] ["hand", "names", "words"] (defScope st__law_judged) := ⟨rfl, rfl, rfl, by decide +kernel, rfl, by decide +kernel, by decide +kernel⟩
theorem ok__law_judged {f : Addr} {fd : FuncData} (T : Tx K mg ca) (D : DefK K mg "_law_judged" "_law_judged" st__law_judged ["hand", "names", "words"] f fd) {f__law_draw : Addr} {fd__law_draw : FuncData} (h__law_draw : CallG P w K mg base ⟨K, ca⟩ 1 "_law_draw" ["hand", "many"] F__law_draw f__law_draw fd__law_draw) {C_Sum__init : Addr} {f_Sum__init : Addr} {fd_Sum__init : FuncData} (h_Sum__init : MakeG P w K mg base ⟨K, ca⟩ 3 "Sum" ["self", "constant", "terms"] F_Sum__init C_Sum__init f_Sum__init fd_Sum__init) {f__law_right : Addr} {fd__law_right : FuncData} (h__law_right : CallG P w K mg base ⟨K, ca⟩ 1 "_law_right" ["answer", "due"] F__law_right f__law_right fd__law_right) {f_is_deeds : Addr} {fd_is_deeds : FuncData} (h_is_deeds : CallG P w K mg base ⟨K, ca⟩ 4 "is_deeds" ["deeds", "names", "words"] F_is_deeds f_is_deeds fd_is_deeds) : CallG P w K mg base ⟨K, ca⟩ 5 "_law_judged" ["hand", "names", "words"] F__law_judged f fd := by
  have SC := sc__law_judged
  refine callG D SC rfl (fun cdv A outer sh H E σ0 W hr ng pa tk => ?_)
  exact (dss_cons (ds_asg (ps_set (i := 3) SC.nd rfl (Or.inl rfl) (de_lst da_nil)))
    (dss_cons (ds_for pa rfl (di_range1 (by rfl) T.b_range (da_cons de_int da_nil) (eCons_len eNil_len)) (dg_of (pg_name (i := 4) SC.nd rfl (Or.inl rfl))) (dss_cons (ds_asg (ps_set (i := 5) SC.nd rfl (Or.inl rfl) (de_ix rfl (hu_of hr) (de_var (pv 1)) (dg_call h__law_draw (hr.mono (by decide)) ng (by rfl) tk (da_cons (de_var (pv 0)) (da_cons (de_callB (cb_len rfl) (by rfl) T.b_len bo_len (da_cons (de_var (pv 1)) da_nil)) da_nil)) (eCons_len (eCons_len eNil_len))) (fun _ _ => rfl))))
    (dss_cons (ds_asg (ps_set (i := 6) SC.nd rfl (Or.inl rfl) (de_fz (de_lst (da_cons (de_tup (da_cons (de_ix rfl (hu_of hr) (de_var (pv 1)) (dg_call h__law_draw (hr.mono (by decide)) ng (by rfl) tk (da_cons (de_var (pv 0)) (da_cons (de_callB (cb_len rfl) (by rfl) T.b_len bo_len (da_cons (de_var (pv 1)) da_nil)) da_nil)) (eCons_len (eCons_len eNil_len))) (fun _ _ => rfl)) (da_cons (de_bin o_sub de_int (dg_call h__law_draw (hr.mono (by decide)) ng (by rfl) tk (da_cons (de_var (pv 0)) (da_cons de_int da_nil)) (eCons_len (eCons_len eNil_len)))) da_nil))) da_nil)))))
    (dss_cons (ds_expr (de_meth PySem.F.plainAttrs_list PySem.F.slot_list_append PySem.F.type_list_append (by decide) mo_append (pv 3) (da_cons (de_tup (da_cons de_str (da_cons (de_ix rfl (hu_of hr) (de_var (pv 2)) (dg_call h__law_draw (hr.mono (by decide)) ng (by rfl) tk (da_cons (de_var (pv 0)) (da_cons de_int da_nil)) (eCons_len (eCons_len eNil_len))) (fun _ _ => rfl)) da_nil))) da_nil)))
    (dss_one (ds_if (dt_cmp o_lt (dg_call h__law_draw (hr.mono (by decide)) ng (by rfl) tk (da_cons (de_var (pv 0)) (da_cons de_int da_nil)) (eCons_len (eCons_len eNil_len))) de_int (nomark _)) (dss_one (ds_sub (hu_of hr) (pv 3) (de_var (pv 4)) (de_tup (da_cons de_str (da_cons (de_fz (de_var (pv 5))) (da_cons (dg_make h_Sum__init (hr.mono (by decide)) ng (by rfl) tk (da_cons (de_bin o_sub de_int (dg_call h__law_draw (hr.mono (by decide)) ng (by rfl) tk (da_cons (de_var (pv 0)) (da_cons de_int da_nil)) (eCons_len (eCons_len eNil_len)))) (da_cons (de_var (pv 6)) da_nil)) (len1 (eCons_len (eCons_len eNil_len)))) da_nil)))))) dss_nil))))) und_range)
    (dss_cons (ds_for pa rfl (di_any rfl (dsr_E (de_lst (da_cons de_int (da_cons de_int (da_cons de_int (da_cons de_int da_nil)))))) all_E) (dg_of (pg_name (i := 7) SC.nd rfl (Or.inl rfl))) (dss_cons (ds_if (dt_not (dt_truth rfl (dg_call h__law_right (hr.mono (by decide)) ng (by rfl) tk (da_cons (dg_call h_is_deeds (hr.mono (by decide)) ng (by rfl) tk (da_cons (de_sl rfl (de_var (pv 3)) do_none (do_some (de_var (pv 7)))) (da_cons (de_var (pv 1)) (da_cons (de_callTy (cb_tuple rfl) (by rfl) T.b_tuple bo_tuple (da_cons (de_var (pv 2)) da_nil)) da_nil))) (eCons_len (eCons_len (eCons_len eNil_len)))) (da_cons (de_cmp o_lt (de_var (pv 7)) de_int (nomark _)) da_nil)) (eCons_len (eCons_len eNil_len))))) (dss_one (ds_ret de_bl)) dss_nil)
    (dss_one (ds_if (dt_not (dt_truth rfl (dg_call h__law_right (hr.mono (by decide)) ng (by rfl) tk (da_cons (dg_call h_is_deeds (hr.mono (by decide)) ng (by rfl) tk (da_cons (de_callTy (cb_tuple rfl) (by rfl) T.b_tuple bo_tuple (da_cons (de_sl rfl (de_var (pv 3)) do_none (do_some (de_var (pv 7)))) da_nil)) (da_cons (de_callTy (cb_tuple rfl) (by rfl) T.b_tuple bo_tuple (da_cons (de_var (pv 1)) da_nil)) (da_cons (de_var (pv 2)) da_nil))) (eCons_len (eCons_len (eCons_len eNil_len)))) (da_cons (de_cmp o_lt (de_var (pv 7)) de_int (nomark _)) da_nil)) (eCons_len (eCons_len eNil_len))))) (dss_one (ds_ret de_bl)) dss_nil))) und_vals)
    (dss_cons (ds_setCompF rfl SC.nd rfl rfl (sw_true rfl rfl rfl rfl) (di_range2 (by rfl) T.b_range (da_cons de_int (da_cons de_int da_nil)) (eCons_len (eCons_len eNil_len))) (own := ([("k", 4)] : List (Str × Nat))) (blkOk_by (by show blkC ["hand", "names", "words", "rows", "k", "name", "pairs", "many", "nine", "wide", "odd", "place", "deed", "deeds", "pair"] (defScope st__law_judged) _ _ = true; decide +kernel)) und_range (by decide) (fun s H C cl fp => (dg_of (pg_name (i := 4) SC.nd rfl (Or.inl rfl)))) (fun s H C cl fp => dts_nil) (fun s H C cl fp => (de_tup (da_cons (de_bin (o_add rfl) de_str (de_callTy cb_str (by rfl) T.b_str bo_str (da_cons (de_var (pv 4)) da_nil))) (da_cons de_int da_nil)))))
    (dss_cons (ds_asg (ps_set (i := 9) SC.nd rfl (Or.inl rfl) (de_fz (de_bin (o_add rfl) (de_var (pv 1)) (de_comp rfl SC.nd (di_any rfl (dsr_N (pv 8)) all_N) (own := ([("pair", 14)] : List (Str × Nat))) (blkOk_by (by show blkC ["hand", "names", "words", "rows", "k", "name", "pairs", "many", "nine", "wide", "odd", "place", "deed", "deeds", "pair"] (defScope st__law_judged) _ _ = true; decide +kernel)) und_name (by decide) (fun s H C cl fp => (dg_of (pg_name (i := 14) SC.nd rfl (Or.inl rfl)))) (fun s H C cl fp => dts_nil) (fun s H C cl fp => (de_ix rfl (hu_of hr) (de_var (pv 14)) de_int (fun _ _ => rfl))))))))
    (dss_cons (ds_asg (ps_set (i := 10) SC.nd rfl (Or.inl rfl) (de_fz (de_lst (da_cons (de_tup (da_cons de_str (da_cons (de_ix rfl (hu_of hr) (de_var (pv 1)) de_int (fun _ _ => rfl)) (da_cons (dg_make h_Sum__init (hr.mono (by decide)) ng (by rfl) tk (da_cons (de_un o_neg de_int) (da_cons (de_lst (da_cons (de_tup (da_cons (de_ix rfl (hu_of hr) (de_var (pv 1)) de_int (fun _ _ => rfl)) (da_cons (de_un o_neg de_int) da_nil))) da_nil)) da_nil)) (len1 (eCons_len (eCons_len eNil_len)))) da_nil)))) (da_cons (de_tup (da_cons de_str (da_cons (de_ix rfl (hu_of hr) (de_var (pv 2)) de_int (fun _ _ => rfl)) da_nil))) da_nil))))))
    (dss_cons (ds_asg (ps_set (i := 10) SC.nd rfl (Or.inl rfl) (de_fz (de_bin (o_add rfl) (de_var (pv 10)) (de_lst (da_cons (de_tup (da_cons de_str (da_cons de_str (da_cons (dg_make h_Sum__init (hr.mono (by decide)) ng (by rfl) tk (da_cons de_int (da_cons (de_sl rfl (de_var (pv 8)) do_none (do_some de_int)) da_nil)) (len1 (eCons_len (eCons_len eNil_len)))) da_nil)))) (da_cons (de_tup (da_cons de_str (da_cons de_str (da_cons (dg_make h_Sum__init (hr.mono (by decide)) ng (by rfl) tk (da_cons de_int (da_cons (de_lst (da_cons (de_tup (da_cons de_str (da_cons de_int da_nil))) da_nil)) da_nil)) (len1 (eCons_len (eCons_len eNil_len)))) da_nil)))) da_nil)))))))
    (dss_cons (ds_asg (ps_set (i := 10) SC.nd rfl (Or.inl rfl) (de_fz (de_bin (o_add rfl) (de_var (pv 10)) (de_lst (da_cons (de_tup (da_cons de_str (da_cons de_str (da_cons (dg_make h_Sum__init (hr.mono (by decide)) ng (by rfl) tk (da_cons de_int (da_cons (de_lst da_nil) da_nil)) (len1 (eCons_len (eCons_len eNil_len)))) da_nil)))) (da_cons (de_tup (da_cons de_str (da_cons de_str (da_cons (dg_make h_Sum__init (hr.mono (by decide)) ng (by rfl) tk (da_cons de_int (da_cons (de_var (pv 8)) da_nil)) (len1 (eCons_len (eCons_len eNil_len)))) da_nil)))) da_nil)))))))
    (dss_cons (ds_asg (ps_set (i := 10) SC.nd rfl (Or.inl rfl) (de_fz (de_bin (o_add rfl) (de_var (pv 10)) (de_lst (da_cons (de_tup (da_cons de_str (da_cons de_str (da_cons (dg_make h_Sum__init (hr.mono (by decide)) ng (by rfl) tk (da_cons de_int (da_cons (de_lst (da_cons (de_tup (da_cons de_str (da_cons de_int da_nil))) da_nil)) da_nil)) (len1 (eCons_len (eCons_len eNil_len)))) da_nil)))) (da_cons (de_tup (da_cons de_str (da_cons de_str da_nil))) da_nil)))))))
    (dss_cons (ds_asg (ps_set (i := 10) SC.nd rfl (Or.inl rfl) (de_fz (de_bin (o_add rfl) (de_var (pv 10)) (de_lst (da_cons (de_tup (da_cons de_str (da_cons de_str (da_cons (dg_make h_Sum__init (hr.mono (by decide)) ng (by rfl) tk (da_cons de_int (da_cons (de_lst da_nil) da_nil)) (len1 (eCons_len (eCons_len eNil_len)))) da_nil)))) (da_cons (de_tup (da_cons de_str (da_cons de_str (da_cons (dg_make h_Sum__init (hr.mono (by decide)) ng (by rfl) tk (da_cons (de_un o_neg de_int) (da_cons (de_lst da_nil) da_nil)) (len1 (eCons_len (eCons_len eNil_len)))) da_nil)))) da_nil)))))))
    (dss_cons (ds_asg (ps_set (i := 10) SC.nd rfl (Or.inl rfl) (de_fz (de_bin (o_add rfl) (de_var (pv 10)) (de_lst (da_cons (de_tup (da_cons de_str (da_cons de_str (da_cons (dg_make h_Sum__init (hr.mono (by decide)) ng (by rfl) tk (da_cons de_int (da_cons (de_lst (da_cons (de_tup (da_cons de_str (da_cons de_int da_nil))) da_nil)) da_nil)) (len1 (eCons_len (eCons_len eNil_len)))) da_nil)))) (da_cons (de_tup (da_cons de_str (da_cons de_str (da_cons (dg_make h_Sum__init (hr.mono (by decide)) ng (by rfl) tk (da_cons de_int (da_cons (de_lst (da_cons (de_tup (da_cons de_str (da_cons (de_un o_neg de_int) da_nil))) da_nil)) da_nil)) (len1 (eCons_len (eCons_len eNil_len)))) da_nil)))) da_nil)))))))
    (dss_cons (ds_asg (ps_set (i := 10) SC.nd rfl (Or.inl rfl) (de_fz (de_bin (o_add rfl) (de_var (pv 10)) (de_lst (da_cons (de_tup (da_cons de_str (da_cons de_str (da_cons (dg_make h_Sum__init (hr.mono (by decide)) ng (by rfl) tk (da_cons de_int (da_cons (de_lst da_nil) da_nil)) (len1 (eCons_len (eCons_len eNil_len)))) da_nil)))) (da_cons (de_tup (da_cons de_str (da_cons (de_ix rfl (hu_of hr) (de_var (pv 2)) de_int (fun _ _ => rfl)) da_nil))) (da_cons (de_tup (da_cons de_str (da_cons de_str (da_cons (dg_make h_Sum__init (hr.mono (by decide)) ng (by rfl) tk (da_cons de_int (da_cons (de_lst da_nil) da_nil)) (len1 (eCons_len (eCons_len eNil_len)))) da_nil)))) da_nil))))))))
    (dss_cons (ds_asg (ps_set (i := 11) SC.nd rfl (Or.inl rfl) (dg_call h__law_draw (hr.mono (by decide)) ng (by rfl) tk (da_cons (de_var (pv 0)) (da_cons de_int da_nil)) (eCons_len (eCons_len eNil_len)))))
    (dss_cons (ds_for pa rfl (di_enum rfl (by rfl) T.b_enumerate (dsr_N (pv 10)) all_N) (dg_tup rfl rfl (dg_cons (dg_of (pg_name (i := 4) SC.nd rfl (Or.inl rfl))) (dg_cons (dg_of (pg_name (i := 12) SC.nd rfl (Or.inl rfl))) dg_nil))) (dss_cons (ds_asg (ps_set (i := 13) SC.nd rfl (Or.inl rfl) (de_fz (de_bin (o_add rfl) (de_bin (o_add rfl) (de_sl rfl (de_var (pv 3)) do_none (do_some (de_var (pv 11)))) (de_lst (da_cons (de_fz (de_var (pv 12))) da_nil))) (de_sl rfl (de_var (pv 3)) (do_some (de_bin (o_add rfl) (de_var (pv 11)) de_int)) (do_some de_int))))))
    (dss_cons (ds_if (dt_orW (dt_not (dt_truth rfl (dg_call h__law_right (hr.mono (by decide)) ng (by rfl) tk (da_cons (dg_call h_is_deeds (hr.mono (by decide)) ng (by rfl) tk (da_cons (de_var (pv 13)) (da_cons (de_var (pv 9)) (da_cons (de_var (pv 2)) da_nil))) (eCons_len (eCons_len (eCons_len eNil_len)))) (da_cons (de_cmp o_lt (de_var (pv 4)) de_int (nomark _)) da_nil)) (eCons_len (eCons_len eNil_len))))) (dt_or1 (dt_cmp (o_ne rfl hr.units) (de_callB (cb_len rfl) (by rfl) T.b_len bo_len (da_cons (de_var (pv 13)) da_nil)) de_int (nomark _)))).pt (dss_one (ds_ret de_bl)) dss_nil)
    (dss_one (ds_if (dt_not (dt_truth rfl (dg_call h__law_right (hr.mono (by decide)) ng (by rfl) tk (da_cons (dg_call h_is_deeds (hr.mono (by decide)) ng (by rfl) tk (da_cons (de_lst (da_cons (de_fz (de_var (pv 12))) da_nil)) (da_cons (de_callTy (cb_tuple rfl) (by rfl) T.b_tuple bo_tuple (da_cons (de_var (pv 9)) da_nil)) (da_cons (de_callTy (cb_tuple rfl) (by rfl) T.b_tuple bo_tuple (da_cons (de_var (pv 2)) da_nil)) da_nil))) (eCons_len (eCons_len (eCons_len eNil_len)))) (da_cons (de_cmp o_lt (de_var (pv 4)) de_int (nomark _)) da_nil)) (eCons_len (eCons_len eNil_len))))) (dss_one (ds_ret de_bl)) dss_nil)))) (und_enum und_name))
    (dss_one (ds_ret de_bl))))))))))))))))
abbrev st_law : Stmt := top 39
theorem sc_law : FnScope ["script", "hand", "many", "ranges", "name", "low", "high", "values", "words", "plan", "names", "deeds", "left", "told", "due", "kept", "k", "row"] ["script"] (defScope st_law) := ⟨rfl, rfl, rfl, by decide +kernel, rfl, by decide +kernel, by decide +kernel⟩
theorem ok_law {f : Addr} {fd : FuncData} (T : Tx K mg ca) (D : DefK K mg "law" "law" st_law ["script"] f fd) {f__law_pool : Addr} {fd__law_pool : FuncData} (h__law_pool : CallG P w K mg base ⟨K, ca⟩ 1 "_law_pool" ["script"] F__law_pool f__law_pool fd__law_pool) {f__law_draw : Addr} {fd__law_draw : FuncData} (h__law_draw : CallG P w K mg base ⟨K, ca⟩ 1 "_law_draw" ["hand", "many"] F__law_draw f__law_draw fd__law_draw) {f__law_some_ranges : Addr} {fd__law_some_ranges : FuncData} (h__law_some_ranges : CallG P w K mg base ⟨K, ca⟩ 4 "_law_some_ranges" ["hand", "many", "spread", "wide"] F__law_some_ranges f__law_some_ranges fd__law_some_ranges) {f__law_some_values : Addr} {fd__law_some_values : FuncData} (h__law_some_values : CallG P w K mg base ⟨K, ca⟩ 2 "_law_some_values" ["hand", "ranges"] F__law_some_values f__law_some_values fd__law_some_values) {f__law_named : Addr} {fd__law_named : FuncData} (h__law_named : CallG P w K mg base ⟨K, ca⟩ 2 "_law_named" ["hand", "most"] F__law_named f__law_named fd__law_named) {f__law_some_deeds : Addr} {fd__law_some_deeds : FuncData} (h__law_some_deeds : CallG P w K mg base ⟨K, ca⟩ 3 "_law_some_deeds" ["hand", "ranges", "values", "words"] F__law_some_deeds f__law_some_deeds fd__law_some_deeds) {f__law_runs : Addr} {fd__law_runs : FuncData} (h__law_runs : CallG P w K mg base ⟨K, ca⟩ 7 "_law_runs" ["plan", "ranges", "values"] F__law_runs f__law_runs fd__law_runs) {f__law_given : Addr} {fd__law_given : FuncData} (h__law_given : CallG P w K mg base ⟨K, ca⟩ 5 "_law_given" ["plan"] F__law_given f__law_given fd__law_given) {f__law_fits : Addr} {fd__law_fits : FuncData} (h__law_fits : CallG P w K mg base ⟨K, ca⟩ 2 "_law_fits" ["plan", "names", "words"] F__law_fits f__law_fits fd__law_fits) {f__law_right : Addr} {fd__law_right : FuncData} (h__law_right : CallG P w K mg base ⟨K, ca⟩ 1 "_law_right" ["answer", "due"] F__law_right f__law_right fd__law_right) {f_is_deeds : Addr} {fd_is_deeds : FuncData} (h_is_deeds : CallG P w K mg base ⟨K, ca⟩ 4 "is_deeds" ["deeds", "names", "words"] F_is_deeds f_is_deeds fd_is_deeds) {f__law_judged : Addr} {fd__law_judged : FuncData} (h__law_judged : CallG P w K mg base ⟨K, ca⟩ 5 "_law_judged" ["hand", "names", "words"] F__law_judged f__law_judged fd__law_judged) : CallG P w K mg base ⟨K, ca⟩ 8 "law" ["script"] F_law f fd := by
  have SC := sc_law
  refine callG D SC rfl (fun cdv A outer sh H E σ0 W hr ng pa tk => ?_)
  exact (dss_cons (ds_asg (ps_set (i := 1) SC.nd rfl (Or.inr rfl) (dg_call h__law_pool (hr.mono (by decide)) ng (by rfl) tk (da_cons (de_var (pv 0)) da_nil) (eCons_len eNil_len))))
    (dss_cons (ds_asg (ps_set (i := 2) SC.nd rfl (Or.inl rfl) (de_ix rfl (hu_of hr) (de_lst (da_cons de_int (da_cons de_int (da_cons de_int (da_cons de_int (da_cons de_int da_nil)))))) (dg_call h__law_draw (hr.mono (by decide)) ng (by rfl) tk (da_cons (de_var (pv 1)) (da_cons de_int da_nil)) (eCons_len (eCons_len eNil_len))) (fun _ _ => rfl))))
    (dss_cons (ds_asg (ps_set (i := 3) SC.nd rfl (Or.inl rfl) (dg_call h__law_some_ranges (hr.mono (by decide)) ng (by rfl) tk (da_cons (de_var (pv 1)) (da_cons (de_var (pv 2)) (da_cons (de_bin o_pow de_int de_int) (da_cons de_int da_nil)))) (eCons_len (eCons_len (eCons_len (eCons_len eNil_len)))))))
    (dss_cons (ds_if (dt_andW (dt_cmp o_gt (de_var (pv 2)) de_int (nomark _)) (dt_and1 (dt_cmp (o_eq rfl hr.units) (dg_call h__law_draw (hr.mono (by decide)) ng (by rfl) tk (da_cons (de_var (pv 1)) (da_cons de_int da_nil)) (eCons_len (eCons_len eNil_len))) de_int (nomark _)))).pt (dss_cons (ds_tgt (de_ix rfl (hu_of hr) (de_var (pv 3)) de_int (fun _ _ => rfl)) (dg_tup rfl rfl (dg_cons (dg_of (pg_name (i := 4) SC.nd rfl (Or.inl rfl))) (dg_cons (dg_of (pg_name (i := 5) SC.nd rfl (Or.inl rfl))) (dg_cons (dg_of (pg_name (i := 6) SC.nd rfl (Or.inl rfl))) dg_nil)))))
    (dss_one (ds_sub (hu_of hr) (pv 3) de_int (de_tup (da_cons (de_fz (de_var (pv 4))) (da_cons (de_fz (de_var (pv 5))) (da_cons (de_bin (o_add rfl) (de_var (pv 5)) (dg_call h__law_draw (hr.mono (by decide)) ng (by rfl) tk (da_cons (de_var (pv 1)) (da_cons (de_bin (o_add rfl) (de_bin o_pow de_int de_int) de_int) da_nil)) (eCons_len (eCons_len eNil_len)))) da_nil))))))) dss_nil)
    (dss_cons (ds_asg (ps_set (i := 7) SC.nd rfl (Or.inl rfl) (de_fz (dg_call h__law_some_values (hr.mono (by decide)) ng (by rfl) tk (da_cons (de_var (pv 1)) (da_cons (de_fz (de_var (pv 3))) da_nil)) (eCons_len (eCons_len eNil_len))))))
    (dss_cons (ds_setCompF rfl SC.nd rfl rfl (sw_true rfl rfl rfl rfl) (di_range1 (by rfl) T.b_range (da_cons de_int da_nil) (eCons_len eNil_len)) (own := ([("k", 16)] : List (Str × Nat))) (blkOk_by (by show blkC ["script", "hand", "many", "ranges", "name", "low", "high", "values", "words", "plan", "names", "deeds", "left", "told", "due", "kept", "k", "row"] (defScope st_law) _ _ = true; decide +kernel)) und_range (by decide) (fun s H C cl fp => (dg_of (pg_name (i := 16) SC.nd rfl (Or.inl rfl)))) (fun s H C cl fp => dts_nil) (fun s H C cl fp => (dg_call h__law_named (hr.mono (by decide)) ng (by rfl) takes0 (da_cons (de_var (pv 1)) (da_cons de_int da_nil)) (eCons_len (eCons_len eNil_len)))))
    (dss_cons (ds_asg (ps_set (i := 9) SC.nd rfl (Or.inl rfl) (de_fz (dg_call h__law_some_deeds (hr.mono (by decide)) ng (by rfl) tk (da_cons (de_var (pv 1)) (da_cons (de_var (pv 3)) (da_cons (de_var (pv 7)) (da_cons (de_var (pv 8)) da_nil)))) (eCons_len (eCons_len (eCons_len (eCons_len eNil_len))))))))
    (dss_cons (ds_if (dt_not (dt_truth rfl (dg_call h__law_runs (hr.mono (by decide)) ng (by rfl) tk (da_cons (de_var (pv 9)) (da_cons (de_var (pv 3)) (da_cons (de_var (pv 7)) da_nil))) (eCons_len (eCons_len (eCons_len eNil_len)))))) (dss_one (ds_ret de_bl)) dss_nil)
    (dss_cons (ds_asg (ps_set (i := 10) SC.nd rfl (Or.inl rfl) (de_fz (de_bin (o_add rfl) (de_comp rfl SC.nd (di_any rfl (dsr_N (pv 3)) all_N) (own := ([("row", 17)] : List (Str × Nat))) (blkOk_by (by show blkC ["script", "hand", "many", "ranges", "name", "low", "high", "values", "words", "plan", "names", "deeds", "left", "told", "due", "kept", "k", "row"] (defScope st_law) _ _ = true; decide +kernel)) und_name (by decide) (fun s H C cl fp => (dg_of (pg_name (i := 17) SC.nd rfl (Or.inl rfl)))) (fun s H C cl fp => dts_nil) (fun s H C cl fp => (de_ix rfl (hu_of hr) (de_var (pv 17)) de_int (fun _ _ => rfl)))) (de_lst (da_cons de_str da_nil))))))
    (dss_cons (ds_asg (ps_set (i := 11) SC.nd rfl (Or.inl rfl) (de_fz (dg_call h__law_given (hr.mono (by decide)) ng (by rfl) tk (da_cons (de_var (pv 9)) da_nil) (eCons_len eNil_len)))))
    (dss_cons (ds_for pa rfl (di_any rfl (dsr_E (de_lst (da_cons (de_fz (de_var (pv 10))) (da_cons (de_sl rfl (de_var (pv 10)) (do_some de_int) do_none) (da_cons (de_sl rfl (de_var (pv 10)) do_none (do_some de_int)) da_nil))))) all_E) (dg_of (pg_name (i := 12) SC.nd rfl (Or.inl rfl))) (dss_one (ds_for pa rfl (di_any rfl (dsr_E (de_lst (da_cons (de_fz (de_var (pv 8))) (da_cons (de_sl rfl (de_var (pv 8)) do_none (do_some de_int)) da_nil)))) all_E) (dg_of (pg_name (i := 13) SC.nd rfl (Or.inl rfl))) (dss_cons (ds_asg (ps_set (i := 14) SC.nd rfl (Or.inl rfl) (de_fz (dg_call h__law_fits (hr.mono (by decide)) ng (by rfl) tk (da_cons (de_var (pv 9)) (da_cons (de_var (pv 12)) (da_cons (de_var (pv 13)) da_nil))) (eCons_len (eCons_len (eCons_len eNil_len)))))))
    (dss_one (ds_if (dt_not (dt_truth rfl (dg_call h__law_right (hr.mono (by decide)) ng (by rfl) tk (da_cons (dg_call h_is_deeds (hr.mono (by decide)) ng (by rfl) tk (da_cons (de_var (pv 11)) (da_cons (de_var (pv 12)) (da_cons (de_var (pv 13)) da_nil))) (eCons_len (eCons_len (eCons_len eNil_len)))) (da_cons (de_var (pv 14)) da_nil)) (eCons_len (eCons_len eNil_len))))) (dss_one (ds_ret de_bl)) dss_nil))) und_vals)) und_vals)
    (dss_cons (ds_asg (ps_set (i := 15) SC.nd rfl (Or.inl rfl) (de_fz (de_lst (da_cons (de_callTy (cb_list rfl) (by rfl) T.b_list bo_list (da_cons (de_var (pv 10)) da_nil)) (da_cons (de_callTy (cb_list rfl) (by rfl) T.b_list bo_list (da_cons (de_var (pv 8)) da_nil)) da_nil))))))
    (dss_one (ds_ret (de_and (dg_call h__law_judged (hr.mono (by decide)) ng (by rfl) tk (da_cons (de_var (pv 1)) (da_cons (de_var (pv 10)) (da_cons (de_var (pv 8)) da_nil))) (eCons_len (eCons_len (eCons_len eNil_len)))) (de_one (de_cmp (o_eq rfl hr.units) (de_lst (da_cons (de_fz (de_var (pv 10))) (da_cons (de_fz (de_var (pv 8))) da_nil))) (de_var (pv 15)) (nomark _))))))))))))))))))
end
theorem all_mk {l : PySem.W.OpenLaw} {w : World} {K : PySem.W.Frag} {h : Heap} {mg : Str → Option Value} {fa : Addr} (X : K.In h) (G : h.Ns mainGlobals mg) (hfa : mg "law" = some (.ref fa))
    {C_Sum : Addr}
    {f0 : Addr} {od0 an0 : Option Addr} {sl0 : Array (Option Value)} {oc0 kV0 dc0 pm0 cd0 ct0 : Value}
    {f1 : Addr} {od1 an1 : Option Addr} {sl1 : Array (Option Value)} {oc1 kV1 dc1 pm1 cd1 ct1 : Value}
    {f2 : Addr} {od2 an2 : Option Addr} {sl2 : Array (Option Value)} {oc2 kV2 dc2 pm2 cd2 ct2 : Value}
    {f3 : Addr} {od3 an3 : Option Addr} {sl3 : Array (Option Value)} {oc3 kV3 dc3 pm3 cd3 ct3 : Value}
    {f4 : Addr} {od4 an4 : Option Addr} {sl4 : Array (Option Value)} {oc4 kV4 dc4 pm4 cd4 ct4 : Value}
    {f5 : Addr} {od5 an5 : Option Addr} {sl5 : Array (Option Value)} {oc5 kV5 dc5 pm5 cd5 ct5 : Value}
    {f6 : Addr} {od6 an6 : Option Addr} {sl6 : Array (Option Value)} {oc6 kV6 dc6 pm6 cd6 ct6 : Value}
    {f7 : Addr} {od7 an7 : Option Addr} {sl7 : Array (Option Value)} {oc7 kV7 dc7 pm7 cd7 ct7 : Value}
    {f8 : Addr} {od8 an8 : Option Addr} {sl8 : Array (Option Value)} {oc8 kV8 dc8 pm8 cd8 ct8 : Value}
    {f9 : Addr} {od9 an9 : Option Addr} {sl9 : Array (Option Value)} {oc9 kV9 dc9 pm9 cd9 ct9 : Value}
    {f10 : Addr} {od10 an10 : Option Addr} {sl10 : Array (Option Value)} {oc10 kV10 dc10 pm10 cd10 ct10 : Value}
    {f11 : Addr} {od11 an11 : Option Addr} {sl11 : Array (Option Value)} {oc11 kV11 dc11 pm11 cd11 ct11 : Value}
    {f12 : Addr} {od12 an12 : Option Addr} {sl12 : Array (Option Value)} {oc12 kV12 dc12 pm12 cd12 ct12 : Value}
    {f13 : Addr} {od13 an13 : Option Addr} {sl13 : Array (Option Value)} {oc13 kV13 dc13 pm13 cd13 ct13 : Value}
    {f14 : Addr} {od14 an14 : Option Addr} {sl14 : Array (Option Value)} {oc14 kV14 dc14 pm14 cd14 ct14 : Value}
    {f15 : Addr} {od15 an15 : Option Addr} {sl15 : Array (Option Value)} {oc15 kV15 dc15 pm15 cd15 ct15 : Value}
    {f16 : Addr} {od16 an16 : Option Addr} {sl16 : Array (Option Value)} {oc16 kV16 dc16 pm16 cd16 ct16 : Value}
    {f17 : Addr} {od17 an17 : Option Addr} {sl17 : Array (Option Value)} {oc17 kV17 dc17 pm17 cd17 ct17 : Value}
    {f18 : Addr} {od18 an18 : Option Addr} {sl18 : Array (Option Value)} {oc18 kV18 dc18 pm18 cd18 ct18 : Value}
    {f19 : Addr} {od19 an19 : Option Addr} {sl19 : Array (Option Value)} {oc19 kV19 dc19 pm19 cd19 ct19 : Value}
    {f20 : Addr} {od20 an20 : Option Addr} {sl20 : Array (Option Value)} {oc20 kV20 dc20 pm20 cd20 ct20 : Value}
    {f21 : Addr} {od21 an21 : Option Addr} {sl21 : Array (Option Value)} {oc21 kV21 dc21 pm21 cd21 ct21 : Value}
    {f22 : Addr} {od22 an22 : Option Addr} {sl22 : Array (Option Value)} {oc22 kV22 dc22 pm22 cd22 ct22 : Value}
    {q22 : Addr} {re22 : List Value}
    {f23 : Addr} {od23 an23 : Option Addr} {sl23 : Array (Option Value)} {oc23 kV23 dc23 pm23 cd23 ct23 : Value}
    {f24 : Addr} {od24 an24 : Option Addr} {sl24 : Array (Option Value)} {oc24 kV24 dc24 pm24 cd24 ct24 : Value}
    {f25 : Addr} {od25 an25 : Option Addr} {sl25 : Array (Option Value)} {oc25 kV25 dc25 pm25 cd25 ct25 : Value}
    {f26 : Addr} {od26 an26 : Option Addr} {sl26 : Array (Option Value)} {oc26 kV26 dc26 pm26 cd26 ct26 : Value}
    {f27 : Addr} {od27 an27 : Option Addr} {sl27 : Array (Option Value)} {oc27 kV27 dc27 pm27 cd27 ct27 : Value}
    {t_MOST_CONSTANT : Tok}
    {t_MOST_DEEDS : Tok}
    {t_MOST_FACTOR : Tok}
    {t_MOST_PIECES : Tok}
    {t_MOST_SIGNS : Tok}
    {t_MOST_TERMS : Tok}
    {q_RESERVED : Addr} {dd_RESERVED : Option Addr} {it_RESERVED : Array Value} {n_RESERVED : Nat} {s_RESERVED : Array (Option Value)}
    (ac_Sum : PySem.W.nsIn K mainGlobals "Sum" = some (some (.ref C_Sum))) (mk_Sum : PySem.W.makesIn K C_Sum = true) (ki_Sum : PySem.W.keepIn K (.ref C_Sum) = true) (pg_Sum : PySem.W.plainGet K C_Sum Str.empty = true) (hd_Sum : PySem.W.hasDictIn K C_Sum = true) (po_Sum : PySem.W.plainOver K C_Sum = true) (sa_Sum : PySem.W.findIn K (.ref C_Sum) "__setattr__" = some (some (.builtin "object.__setattr__")))
    (no_Sum_constant : PySem.W.findIn K (.ref C_Sum) "constant" = some none)
    (no_Sum_terms : PySem.W.findIn K (.ref C_Sum) "terms" = some none)
    (a0 : PySem.W.nsIn K mainGlobals "_law_pool" = some (some (.ref f0)))
    (l0 : K.lookup f0 = some ⟨oc0, od0, .func (PySem.W.fnOf "_law_pool" "_law_pool" (defArgs st__law_pool) (defBody st__law_pool) (defScope st__law_pool) .none kV0 dc0 pm0 an0 cd0 ct0), sl0⟩) (c0 : PySem.W.codeIn K cd0 "_law_pool" = true) (k0 : PySem.W.keepIn K (.ref f0) = true)
    (a1 : PySem.W.nsIn K mainGlobals "_law_draw" = some (some (.ref f1)))
    (l1 : K.lookup f1 = some ⟨oc1, od1, .func (PySem.W.fnOf "_law_draw" "_law_draw" (defArgs st__law_draw) (defBody st__law_draw) (defScope st__law_draw) .none kV1 dc1 pm1 an1 cd1 ct1), sl1⟩) (c1 : PySem.W.codeIn K cd1 "_law_draw" = true) (k1 : PySem.W.keepIn K (.ref f1) = true)
    (a2 : PySem.W.nsIn K mainGlobals "_law_reserved" = some (some (.ref f2)))
    (l2 : K.lookup f2 = some ⟨oc2, od2, .func (PySem.W.fnOf "_law_reserved" "_law_reserved" (defArgs st__law_reserved) (defBody st__law_reserved) (defScope st__law_reserved) .none kV2 dc2 pm2 an2 cd2 ct2), sl2⟩) (c2 : PySem.W.codeIn K cd2 "_law_reserved" = true) (k2 : PySem.W.keepIn K (.ref f2) = true)
    (a3 : PySem.W.nsIn K mainGlobals "_law_named" = some (some (.ref f3)))
    (l3 : K.lookup f3 = some ⟨oc3, od3, .func (PySem.W.fnOf "_law_named" "_law_named" (defArgs st__law_named) (defBody st__law_named) (defScope st__law_named) .none kV3 dc3 pm3 an3 cd3 ct3), sl3⟩) (c3 : PySem.W.codeIn K cd3 "_law_named" = true) (k3 : PySem.W.keepIn K (.ref f3) = true)
    (a4 : PySem.W.nsIn K mainGlobals "_law_long" = some (some (.ref f4)))
    (l4 : K.lookup f4 = some ⟨oc4, od4, .func (PySem.W.fnOf "_law_long" "_law_long" (defArgs st__law_long) (defBody st__law_long) (defScope st__law_long) .none kV4 dc4 pm4 an4 cd4 ct4), sl4⟩) (c4 : PySem.W.codeIn K cd4 "_law_long" = true) (k4 : PySem.W.keepIn K (.ref f4) = true)
    (a5 : PySem.W.nsIn K mainGlobals "_law_some_ranges" = some (some (.ref f5)))
    (l5 : K.lookup f5 = some ⟨oc5, od5, .func (PySem.W.fnOf "_law_some_ranges" "_law_some_ranges" (defArgs st__law_some_ranges) (defBody st__law_some_ranges) (defScope st__law_some_ranges) .none kV5 dc5 pm5 an5 cd5 ct5), sl5⟩) (c5 : PySem.W.codeIn K cd5 "_law_some_ranges" = true) (k5 : PySem.W.keepIn K (.ref f5) = true)
    (a6 : PySem.W.nsIn K mainGlobals "_law_some_values" = some (some (.ref f6)))
    (l6 : K.lookup f6 = some ⟨oc6, od6, .func (PySem.W.fnOf "_law_some_values" "_law_some_values" (defArgs st__law_some_values) (defBody st__law_some_values) (defScope st__law_some_values) .none kV6 dc6 pm6 an6 cd6 ct6), sl6⟩) (c6 : PySem.W.codeIn K cd6 "_law_some_values" = true) (k6 : PySem.W.keepIn K (.ref f6) = true)
    (a7 : PySem.W.nsIn K mainGlobals "_law_set" = some (some (.ref f7)))
    (l7 : K.lookup f7 = some ⟨oc7, od7, .func (PySem.W.fnOf "_law_set" "_law_set" (defArgs st__law_set) (defBody st__law_set) (defScope st__law_set) .none kV7 dc7 pm7 an7 cd7 ct7), sl7⟩) (c7 : PySem.W.codeIn K cd7 "_law_set" = true) (k7 : PySem.W.keepIn K (.ref f7) = true)
    (a8 : PySem.W.nsIn K mainGlobals "_law_some_deeds" = some (some (.ref f8)))
    (l8 : K.lookup f8 = some ⟨oc8, od8, .func (PySem.W.fnOf "_law_some_deeds" "_law_some_deeds" (defArgs st__law_some_deeds) (defBody st__law_some_deeds) (defScope st__law_some_deeds) .none kV8 dc8 pm8 an8 cd8 ct8), sl8⟩) (c8 : PySem.W.codeIn K cd8 "_law_some_deeds" = true) (k8 : PySem.W.keepIn K (.ref f8) = true)
    (a9 : PySem.W.nsIn K mainGlobals "_law_sum_of" = some (some (.ref f9)))
    (l9 : K.lookup f9 = some ⟨oc9, od9, .func (PySem.W.fnOf "_law_sum_of" "_law_sum_of" (defArgs st__law_sum_of) (defBody st__law_sum_of) (defScope st__law_sum_of) .none kV9 dc9 pm9 an9 cd9 ct9), sl9⟩) (c9 : PySem.W.codeIn K cd9 "_law_sum_of" = true) (k9 : PySem.W.keepIn K (.ref f9) = true)
    (a10 : PySem.W.nsIn K mainGlobals "_law_run" = some (some (.ref f10)))
    (l10 : K.lookup f10 = some ⟨oc10, od10, .func (PySem.W.fnOf "_law_run" "_law_run" (defArgs st__law_run) (defBody st__law_run) (defScope st__law_run) .none kV10 dc10 pm10 an10 cd10 ct10), sl10⟩) (c10 : PySem.W.codeIn K cd10 "_law_run" = true) (k10 : PySem.W.keepIn K (.ref f10) = true)
    (a11 : PySem.W.nsIn K mainGlobals "is_name" = some (some (.ref f11)))
    (l11 : K.lookup f11 = some ⟨oc11, od11, .func (PySem.W.fnOf "is_name" "is_name" (defArgs st_is_name) (defBody st_is_name) (defScope st_is_name) .none kV11 dc11 pm11 an11 cd11 ct11), sl11⟩) (c11 : PySem.W.codeIn K cd11 "is_name" = true) (k11 : PySem.W.keepIn K (.ref f11) = true)
    (a12 : PySem.W.nsIn K mainGlobals "is_long_name" = some (some (.ref f12)))
    (l12 : K.lookup f12 = some ⟨oc12, od12, .func (PySem.W.fnOf "is_long_name" "is_long_name" (defArgs st_is_long_name) (defBody st_is_long_name) (defScope st_is_long_name) .none kV12 dc12 pm12 an12 cd12 ct12), sl12⟩) (c12 : PySem.W.codeIn K cd12 "is_long_name" = true) (k12 : PySem.W.keepIn K (.ref f12) = true)
    (a13 : PySem.W.findIn K (.ref C_Sum) "__init__" = some (some (.ref f13))) (fn13 : PySem.W.isFn K (.ref f13) = true)
    (l13 : K.lookup f13 = some ⟨oc13, od13, .func (PySem.W.fnOf "__init__" "Sum.__init__" (defArgs st_Sum__init) (defBody st_Sum__init) (defScope st_Sum__init) .none kV13 dc13 pm13 an13 cd13 ct13), sl13⟩) (c13 : PySem.W.codeIn K cd13 "Sum.__init__" = true) (k13 : PySem.W.keepIn K (.ref f13) = true)
    (a14 : PySem.W.nsIn K mainGlobals "_law_given" = some (some (.ref f14)))
    (l14 : K.lookup f14 = some ⟨oc14, od14, .func (PySem.W.fnOf "_law_given" "_law_given" (defArgs st__law_given) (defBody st__law_given) (defScope st__law_given) .none kV14 dc14 pm14 an14 cd14 ct14), sl14⟩) (c14 : PySem.W.codeIn K cd14 "_law_given" = true) (k14 : PySem.W.keepIn K (.ref f14) = true)
    (a15 : PySem.W.findIn K (.ref C_Sum) "value" = some (some (.ref f15))) (fn15 : PySem.W.isFn K (.ref f15) = true)
    (l15 : K.lookup f15 = some ⟨oc15, od15, .func (PySem.W.fnOf "value" "Sum.value" (defArgs st_Sum__value) (defBody st_Sum__value) (defScope st_Sum__value) .none kV15 dc15 pm15 an15 cd15 ct15), sl15⟩) (c15 : PySem.W.codeIn K cd15 "Sum.value" = true) (k15 : PySem.W.keepIn K (.ref f15) = true)
    (a16 : PySem.W.nsIn K mainGlobals "run_deeds" = some (some (.ref f16)))
    (l16 : K.lookup f16 = some ⟨oc16, od16, .func (PySem.W.fnOf "run_deeds" "run_deeds" (defArgs st_run_deeds) (defBody st_run_deeds) (defScope st_run_deeds) .none kV16 dc16 pm16 an16 cd16 ct16), sl16⟩) (c16 : PySem.W.codeIn K cd16 "run_deeds" = true) (k16 : PySem.W.keepIn K (.ref f16) = true)
    (a17 : PySem.W.nsIn K mainGlobals "_law_did" = some (some (.ref f17)))
    (l17 : K.lookup f17 = some ⟨oc17, od17, .func (PySem.W.fnOf "_law_did" "_law_did" (defArgs st__law_did) (defBody st__law_did) (defScope st__law_did) .none kV17 dc17 pm17 an17 cd17 ct17), sl17⟩) (c17 : PySem.W.codeIn K cd17 "_law_did" = true) (k17 : PySem.W.keepIn K (.ref f17) = true)
    (a18 : PySem.W.nsIn K mainGlobals "_law_runs" = some (some (.ref f18)))
    (l18 : K.lookup f18 = some ⟨oc18, od18, .func (PySem.W.fnOf "_law_runs" "_law_runs" (defArgs st__law_runs) (defBody st__law_runs) (defScope st__law_runs) .none kV18 dc18 pm18 an18 cd18 ct18), sl18⟩) (c18 : PySem.W.codeIn K cd18 "_law_runs" = true) (k18 : PySem.W.keepIn K (.ref f18) = true)
    (a19 : PySem.W.nsIn K mainGlobals "_law_reduced" = some (some (.ref f19)))
    (l19 : K.lookup f19 = some ⟨oc19, od19, .func (PySem.W.fnOf "_law_reduced" "_law_reduced" (defArgs st__law_reduced) (defBody st__law_reduced) (defScope st__law_reduced) .none kV19 dc19 pm19 an19 cd19 ct19), sl19⟩) (c19 : PySem.W.codeIn K cd19 "_law_reduced" = true) (k19 : PySem.W.keepIn K (.ref f19) = true)
    (a20 : PySem.W.nsIn K mainGlobals "_law_fits" = some (some (.ref f20)))
    (l20 : K.lookup f20 = some ⟨oc20, od20, .func (PySem.W.fnOf "_law_fits" "_law_fits" (defArgs st__law_fits) (defBody st__law_fits) (defScope st__law_fits) .none kV20 dc20 pm20 an20 cd20 ct20), sl20⟩) (c20 : PySem.W.codeIn K cd20 "_law_fits" = true) (k20 : PySem.W.keepIn K (.ref f20) = true)
    (a21 : PySem.W.nsIn K mainGlobals "_law_right" = some (some (.ref f21)))
    (l21 : K.lookup f21 = some ⟨oc21, od21, .func (PySem.W.fnOf "_law_right" "_law_right" (defArgs st__law_right) (defBody st__law_right) (defScope st__law_right) .none kV21 dc21 pm21 an21 cd21 ct21), sl21⟩) (c21 : PySem.W.codeIn K cd21 "_law_right" = true) (k21 : PySem.W.keepIn K (.ref f21) = true)
    (a22 : PySem.W.findIn K (.ref C_Sum) "small" = some (some (.ref q22))) (pg22 : PySem.W.specialIn K (.ref q22) "__get__" = some (some (.builtin "property.__get__"))) (pt22 : PySem.W.takesIn K (.ref q22) = some true) (pr22 : PySem.W.recIn K q22 "property" = some (.ref f22 :: re22))
    (l22 : K.lookup f22 = some ⟨oc22, od22, .func (PySem.W.fnOf "small" "Sum.small" (defArgs st_Sum__small) (defBody st_Sum__small) (defScope st_Sum__small) .none kV22 dc22 pm22 an22 cd22 ct22), sl22⟩) (c22 : PySem.W.codeIn K cd22 "Sum.small" = true) (k22 : PySem.W.keepIn K (.ref f22) = true)
    (a23 : PySem.W.findIn K (.ref C_Sum) "involved" = some (some (.ref f23))) (fn23 : PySem.W.isFn K (.ref f23) = true)
    (l23 : K.lookup f23 = some ⟨oc23, od23, .func (PySem.W.fnOf "involved" "Sum.involved" (defArgs st_Sum__involved) (defBody st_Sum__involved) (defScope st_Sum__involved) .none kV23 dc23 pm23 an23 cd23 ct23), sl23⟩) (c23 : PySem.W.codeIn K cd23 "Sum.involved" = true) (k23 : PySem.W.keepIn K (.ref f23) = true)
    (a24 : PySem.W.nsIn K mainGlobals "is_deed" = some (some (.ref f24)))
    (l24 : K.lookup f24 = some ⟨oc24, od24, .func (PySem.W.fnOf "is_deed" "is_deed" (defArgs st_is_deed) (defBody st_is_deed) (defScope st_is_deed) .none kV24 dc24 pm24 an24 cd24 ct24), sl24⟩) (c24 : PySem.W.codeIn K cd24 "is_deed" = true) (k24 : PySem.W.keepIn K (.ref f24) = true)
    (a25 : PySem.W.nsIn K mainGlobals "is_deeds" = some (some (.ref f25)))
    (l25 : K.lookup f25 = some ⟨oc25, od25, .func (PySem.W.fnOf "is_deeds" "is_deeds" (defArgs st_is_deeds) (defBody st_is_deeds) (defScope st_is_deeds) .none kV25 dc25 pm25 an25 cd25 ct25), sl25⟩) (c25 : PySem.W.codeIn K cd25 "is_deeds" = true) (k25 : PySem.W.keepIn K (.ref f25) = true)
    (a26 : PySem.W.nsIn K mainGlobals "_law_judged" = some (some (.ref f26)))
    (l26 : K.lookup f26 = some ⟨oc26, od26, .func (PySem.W.fnOf "_law_judged" "_law_judged" (defArgs st__law_judged) (defBody st__law_judged) (defScope st__law_judged) .none kV26 dc26 pm26 an26 cd26 ct26), sl26⟩) (c26 : PySem.W.codeIn K cd26 "_law_judged" = true) (k26 : PySem.W.keepIn K (.ref f26) = true)
    (a27 : PySem.W.nsIn K mainGlobals "law" = some (some (.ref f27)))
    (l27 : K.lookup f27 = some ⟨oc27, od27, .func (PySem.W.fnOf "law" "law" (defArgs st_law) (defBody st_law) (defScope st_law) .none kV27 dc27 pm27 an27 cd27 ct27), sl27⟩) (c27 : PySem.W.codeIn K cd27 "law" = true) (k27 : PySem.W.keepIn K (.ref f27) = true)
    (z_abs : PySem.W.nsIn K mainGlobals "abs" = some none)
    (z_all : PySem.W.nsIn K mainGlobals "all" = some none)
    (z_enumerate : PySem.W.nsIn K mainGlobals "enumerate" = some none)
    (z_int : PySem.W.nsIn K mainGlobals "int" = some none)
    (z_len : PySem.W.nsIn K mainGlobals "len" = some none)
    (z_list : PySem.W.nsIn K mainGlobals "list" = some none)
    (z_min : PySem.W.nsIn K mainGlobals "min" = some none)
    (z_range : PySem.W.nsIn K mainGlobals "range" = some none)
    (z_repr : PySem.W.nsIn K mainGlobals "repr" = some none)
    (z_sorted : PySem.W.nsIn K mainGlobals "sorted" = some none)
    (z_str : PySem.W.nsIn K mainGlobals "str" = some none)
    (z_sum : PySem.W.nsIn K mainGlobals "sum" = some none)
    (z_tuple : PySem.W.nsIn K mainGlobals "tuple" = some none)
    (z_zip : PySem.W.nsIn K mainGlobals "zip" = some none)
    (v_MOST_CONSTANT : PySem.W.nsIn K mainGlobals "MOST_CONSTANT" = some (some (.int (9999) t_MOST_CONSTANT)))
    (v_MOST_DEEDS : PySem.W.nsIn K mainGlobals "MOST_DEEDS" = some (some (.int (12) t_MOST_DEEDS)))
    (v_MOST_FACTOR : PySem.W.nsIn K mainGlobals "MOST_FACTOR" = some (some (.int (99) t_MOST_FACTOR)))
    (v_MOST_PIECES : PySem.W.nsIn K mainGlobals "MOST_PIECES" = some (some (.int (40) t_MOST_PIECES)))
    (v_MOST_SIGNS : PySem.W.nsIn K mainGlobals "MOST_SIGNS" = some (some (.int (12) t_MOST_SIGNS)))
    (v_MOST_TERMS : PySem.W.nsIn K mainGlobals "MOST_TERMS" = some (some (.int (8) t_MOST_TERMS)))
    (v_RESERVED : PySem.W.nsIn K mainGlobals "RESERVED" = some (some (.ref q_RESERVED))) (u_RESERVED : K.lookup q_RESERVED = some ⟨.type "tuple", dd_RESERVED, .seq it_RESERVED n_RESERVED, s_RESERVED⟩) (x_RESERVED : absEs K_RESERVED it_RESERVED.toList = true) (y_RESERVED : it_RESERVED.size ≤ sizeLine)
    (hF : ∀ ns : List Int, ns.length ≤ 63 → ∃ a', F_law [.fz (.scr ns)] = .ok (.val (.bl true)) a') :
    ∃ fd : FuncData, (∀ (s : Shared) (v : Value), BindsTo s fd ⟨[v], []⟩ [("script", v)]) ∧ ∀ B : Heap, K.In B → B.Ns mainGlobals mg → FnG l.prog w K mg B 8 fa fd ["script"] (spLaw K) := by
  generalize hca : (fun y => if y = "Sum" then some C_Sum else none : Str → Option Addr) = ca
  have e_Sum : ca "Sum" = some C_Sum := by rw [← hca]; first | rfl | decide | simp
  have cl_Sum : Cls K C_Sum := ⟨pg_Sum, hd_Sum, po_Sum, sa_Sum⟩
  have T : Tx K mg ca := ⟨PySem.W.mg_none_of X G z_abs, PySem.W.mg_none_of X G z_all, PySem.W.mg_none_of X G z_enumerate, PySem.W.mg_none_of X G z_int, PySem.W.mg_none_of X G z_len, PySem.W.mg_none_of X G z_list, PySem.W.mg_none_of X G z_min, PySem.W.mg_none_of X G z_range, PySem.W.mg_none_of X G z_repr, PySem.W.mg_none_of X G z_sorted, PySem.W.mg_none_of X G z_str, PySem.W.mg_none_of X G z_sum, PySem.W.mg_none_of X G z_tuple, PySem.W.mg_none_of X G z_zip, ⟨_, PySem.W.mg_of X G v_MOST_CONSTANT⟩, ⟨_, PySem.W.mg_of X G v_MOST_DEEDS⟩, ⟨_, PySem.W.mg_of X G v_MOST_FACTOR⟩, ⟨_, PySem.W.mg_of X G v_MOST_PIECES⟩, ⟨_, PySem.W.mg_of X G v_MOST_SIGNS⟩, ⟨_, PySem.W.mg_of X G v_MOST_TERMS⟩, tupK_mk X G v_RESERVED u_RESERVED x_RESERVED y_RESERVED, ⟨_, e_Sum, cl_Sum, no_Sum_constant⟩, ⟨_, e_Sum, cl_Sum, no_Sum_terms⟩⟩
  have D0 := defK_mk (x := "_law_pool") (qual := "_law_pool") (st := st__law_pool) (ps := ["script"]) X G a0 l0 c0 k0 fun _ _ _ _ _ _ us hl => match us, hl with | [_], _ => rfl
  have D1 := defK_mk (x := "_law_draw") (qual := "_law_draw") (st := st__law_draw) (ps := ["hand", "many"]) X G a1 l1 c1 k1 fun _ _ _ _ _ _ us hl => match us, hl with | [_, _], _ => rfl
  have D2 := defK_mk (x := "_law_reserved") (qual := "_law_reserved") (st := st__law_reserved) (ps := []) X G a2 l2 c2 k2 fun _ _ _ _ _ _ us hl => match us, hl with | [], _ => rfl
  have D3 := defK_mk (x := "_law_named") (qual := "_law_named") (st := st__law_named) (ps := ["hand", "most"]) X G a3 l3 c3 k3 fun _ _ _ _ _ _ us hl => match us, hl with | [_, _], _ => rfl
  have D4 := defK_mk (x := "_law_long") (qual := "_law_long") (st := st__law_long) (ps := ["hand"]) X G a4 l4 c4 k4 fun _ _ _ _ _ _ us hl => match us, hl with | [_], _ => rfl
  have D5 := defK_mk (x := "_law_some_ranges") (qual := "_law_some_ranges") (st := st__law_some_ranges) (ps := ["hand", "many", "spread", "wide"]) X G a5 l5 c5 k5 fun _ _ _ _ _ _ us hl => match us, hl with | [_, _, _, _], _ => rfl
  have D6 := defK_mk (x := "_law_some_values") (qual := "_law_some_values") (st := st__law_some_values) (ps := ["hand", "ranges"]) X G a6 l6 c6 k6 fun _ _ _ _ _ _ us hl => match us, hl with | [_, _], _ => rfl
  have D7 := defK_mk (x := "_law_set") (qual := "_law_set") (st := st__law_set) (ps := ["hand", "ranges", "now"]) X G a7 l7 c7 k7 fun _ _ _ _ _ _ us hl => match us, hl with | [_, _, _], _ => rfl
  have D8 := defK_mk (x := "_law_some_deeds") (qual := "_law_some_deeds") (st := st__law_some_deeds) (ps := ["hand", "ranges", "values", "words"]) X G a8 l8 c8 k8 fun _ _ _ _ _ _ us hl => match us, hl with | [_, _, _, _], _ => rfl
  have D9 := defK_mk (x := "_law_sum_of") (qual := "_law_sum_of") (st := st__law_sum_of) (ps := ["deed", "now"]) X G a9 l9 c9 k9 fun _ _ _ _ _ _ us hl => match us, hl with | [_, _], _ => rfl
  have D10 := defK_mk (x := "_law_run") (qual := "_law_run") (st := st__law_run) (ps := ["plan", "ranges", "values"]) X G a10 l10 c10 k10 fun _ _ _ _ _ _ us hl => match us, hl with | [_, _, _], _ => rfl
  have D11 := defK_mk (x := "is_name") (qual := "is_name") (st := st_is_name) (ps := ["text"]) X G a11 l11 c11 k11 fun _ _ _ _ _ _ us hl => match us, hl with | [_], _ => rfl
  have D12 := defK_mk (x := "is_long_name") (qual := "is_long_name") (st := st_is_long_name) (ps := ["text"]) X G a12 l12 c12 k12 fun _ _ _ _ _ _ us hl => match us, hl with | [_], _ => rfl
  have D13 : MetK K "__init__" "Sum.__init__" st_Sum__init ["self", "constant", "terms"] f13 _ := ⟨fun_mk l13 c13 k13, fun us hl => match us, hl with | [_, _, _], _ => rfl⟩
  have D14 := defK_mk (x := "_law_given") (qual := "_law_given") (st := st__law_given) (ps := ["plan"]) X G a14 l14 c14 k14 fun _ _ _ _ _ _ us hl => match us, hl with | [_], _ => rfl
  have D15 : MetK K "value" "Sum.value" st_Sum__value ["self", "known"] f15 _ := ⟨fun_mk l15 c15 k15, fun us hl => match us, hl with | [_, _], _ => rfl⟩
  have D16 := defK_mk (x := "run_deeds") (qual := "run_deeds") (st := st_run_deeds) (ps := ["deeds", "ranges", "values"]) X G a16 l16 c16 k16 fun _ _ _ _ _ _ us hl => match us, hl with | [_, _, _], _ => rfl
  have D17 := defK_mk (x := "_law_did") (qual := "_law_did") (st := st__law_did) (ps := ["plan", "ranges", "values"]) X G a17 l17 c17 k17 fun _ _ _ _ _ _ us hl => match us, hl with | [_, _, _], _ => rfl
  have D18 := defK_mk (x := "_law_runs") (qual := "_law_runs") (st := st__law_runs) (ps := ["plan", "ranges", "values"]) X G a18 l18 c18 k18 fun _ _ _ _ _ _ us hl => match us, hl with | [_, _, _], _ => rfl
  have D19 := defK_mk (x := "_law_reduced") (qual := "_law_reduced") (st := st__law_reduced) (ps := ["pairs"]) X G a19 l19 c19 k19 fun _ _ _ _ _ _ us hl => match us, hl with | [_], _ => rfl
  have D20 := defK_mk (x := "_law_fits") (qual := "_law_fits") (st := st__law_fits) (ps := ["plan", "names", "words"]) X G a20 l20 c20 k20 fun _ _ _ _ _ _ us hl => match us, hl with | [_, _, _], _ => rfl
  have D21 := defK_mk (x := "_law_right") (qual := "_law_right") (st := st__law_right) (ps := ["answer", "due"]) X G a21 l21 c21 k21 fun _ _ _ _ _ _ us hl => match us, hl with | [_, _], _ => rfl
  have D22 : MetK K "small" "Sum.small" st_Sum__small ["self"] f22 _ := ⟨fun_mk l22 c22 k22, fun us hl => match us, hl with | [_], _ => rfl⟩
  have D23 : MetK K "involved" "Sum.involved" st_Sum__involved ["self"] f23 _ := ⟨fun_mk l23 c23 k23, fun us hl => match us, hl with | [_], _ => rfl⟩
  have D24 := defK_mk (x := "is_deed") (qual := "is_deed") (st := st_is_deed) (ps := ["deed", "names", "words"]) X G a24 l24 c24 k24 fun _ _ _ _ _ _ us hl => match us, hl with | [_, _, _], _ => rfl
  have D25 := defK_mk (x := "is_deeds") (qual := "is_deeds") (st := st_is_deeds) (ps := ["deeds", "names", "words"]) X G a25 l25 c25 k25 fun _ _ _ _ _ _ us hl => match us, hl with | [_, _, _], _ => rfl
  have D26 := defK_mk (x := "_law_judged") (qual := "_law_judged") (st := st__law_judged) (ps := ["hand", "names", "words"]) X G a26 l26 c26 k26 fun _ _ _ _ _ _ us hl => match us, hl with | [_, _, _], _ => rfl
  have D27 := defK_mk (x := "law") (qual := "law") (st := st_law) (ps := ["script"]) X G a27 l27 c27 k27 fun _ _ _ _ _ _ us hl => match us, hl with | [_], _ => rfl
  refine law_fnG (c := ⟨K, ca⟩) rfl hF hfa D27 fun base _ _ => ?_
  have h0 := ok__law_pool (P := l.prog) (w := w) (base := base) T D0 
  have h1 := ok__law_draw (P := l.prog) (w := w) (base := base) T D1 
  have h2 := ok__law_reserved (P := l.prog) (w := w) (base := base) T D2 
  have h3 := ok__law_named (P := l.prog) (w := w) (base := base) T D3 h1 h2
  have h4 := ok__law_long (P := l.prog) (w := w) (base := base) T D4 h3 h1
  have h5 := ok__law_some_ranges (P := l.prog) (w := w) (base := base) T D5 h4 h1
  have h6 := ok__law_some_values (P := l.prog) (w := w) (base := base) T D6 h1
  have h7 := ok__law_set (P := l.prog) (w := w) (base := base) T D7 h1
  have h8 := ok__law_some_deeds (P := l.prog) (w := w) (base := base) T D8 h1 h7
  have h9 := ok__law_sum_of (P := l.prog) (w := w) (base := base) T D9 
  have h10 := ok__law_run (P := l.prog) (w := w) (base := base) T D10 h9
  have h11 := ok_is_name (P := l.prog) (w := w) (base := base) T D11 
  have h12 := ok_is_long_name (P := l.prog) (w := w) (base := base) T D12 h11
  have h13 := ok_Sum__init (P := l.prog) (w := w) (base := base) T D13 ⟨mk_Sum, a13, fn13, ki_Sum⟩ (PySem.W.mg_of X G ac_Sum) e_Sum h12
  have h14 := ok__law_given (P := l.prog) (w := w) (base := base) T D14 h13
  have h15 := ok_Sum__value (P := l.prog) (w := w) (base := base) T D15 cl_Sum ⟨a15, fn15, k15⟩ e_Sum 
  have h16 := ok_run_deeds (P := l.prog) (w := w) (base := base) T D16 h15
  have h17 := ok__law_did (P := l.prog) (w := w) (base := base) T D17 h10 h14 h16
  have h18 := ok__law_runs (P := l.prog) (w := w) (base := base) T D18 h17 h10
  have h19 := ok__law_reduced (P := l.prog) (w := w) (base := base) T D19 
  have h20 := ok__law_fits (P := l.prog) (w := w) (base := base) T D20 h19
  have h21 := ok__law_right (P := l.prog) (w := w) (base := base) T D21 
  have h22 := ok_Sum__small (P := l.prog) (w := w) (base := base) T D22 cl_Sum ⟨a22, pg22, pt22, _, pr22⟩ e_Sum 
  have h23 := ok_Sum__involved (P := l.prog) (w := w) (base := base) T D23 cl_Sum ⟨a23, fn23, k23⟩ e_Sum 
  have h24 := ok_is_deed (P := l.prog) (w := w) (base := base) T D24 h22 h23
  have h25 := ok_is_deeds (P := l.prog) (w := w) (base := base) T D25 h24
  have h26 := ok__law_judged (P := l.prog) (w := w) (base := base) T D26 h1 h13 h21 h25
  have h27 := ok_law (P := l.prog) (w := w) (base := base) T D27 h0 h1 h5 h6 h3 h8 h18 h14 h20 h21 h25 h26
  exact h27
theorem walk {l : PySem.W.OpenLaw} {q : Program} {loose : List Str} {XP : (Str → Option Value) → Heap → Prop} {YP : World → Heap → Prop} {d : DefRec} {K : Params → PySem.W.Frag} (hn : l.most = some 63) (hdf : d.params.defaults = [])
    (hY : ∀ (w : World) (h : Heap), YP w h → (K w.params).In h)
    (F : ∀ (w : World) (mg : Str → Option Value) (fa : Addr) (h : Heap), (K w.params).In h → h.Ns mainGlobals mg → mg d.name = some (.ref fa) →
      ∃ fd : FuncData, (∀ (s : Shared) (u : Value), BindsTo s fd ⟨[u], []⟩ [("script", u)]) ∧ ∀ B : Heap, (K w.params).In B → B.Ns mainGlobals mg → FnG l.prog w (K w.params) mg B 8 fa fd ["script"] (spLaw (K w.params))) :
    PySem.W.WalkO q loose XP YP l.row.toRowW d [] (fun f vs => PySem.call f vs) := by
  exact walkG (n := 63) (k := 8) (pn := "script") (sp := fun w => spLaw (K w.params)) hn (by decide) hdf ⟨rfl, by decide, by decide⟩ hY F (fun _ _ a ns hl _ hS => ⟨a, ns, rfl, hS, hl, fun _ => rfl⟩)
end DL

open PySem PySem.W PyProof.Rows in
set_option maxRecDepth 100000 in
set_option maxHeartbeats 0 in
theorem PySem.Challenge.cw_chartsrun_k02_deeds_in_order_holds : PySem.Challenge.rw_chartsrun_k02_deeds_in_order.Holds := by
  w_on; o_law; k_head; (case hw => w_witness2)
  k_fill
  refine DL.walk (l := PySem.Challenge.rw_chartsrun_k02_deeds_in_order) rfl rfl (fun w h Y => PySem.W.kIn_of Y) ?F
  case F =>
    intro w mg fa h KX G hmg
    refine' DL.all_mk KX G hmg ?ac_Sum ?mk_Sum ?ki_Sum ?pg_Sum ?hd_Sum ?po_Sum ?sa_Sum ?no_Sum_constant ?no_Sum_terms ?a0 ?l0 ?c0 ?k0 ?a1 ?l1 ?c1 ?k1 ?a2 ?l2 ?c2 ?k2 ?a3 ?l3 ?c3 ?k3 ?a4 ?l4 ?c4 ?k4 ?a5 ?l5 ?c5 ?k5 ?a6 ?l6 ?c6 ?k6 ?a7 ?l7 ?c7 ?k7 ?a8 ?l8 ?c8 ?k8 ?a9 ?l9 ?c9 ?k9 ?a10 ?l10 ?c10 ?k10 ?a11 ?l11 ?c11 ?k11 ?a12 ?l12 ?c12 ?k12 ?a13 ?fn13 ?l13 ?c13 ?k13 ?a14 ?l14 ?c14 ?k14 ?a15 ?fn15 ?l15 ?c15 ?k15 ?a16 ?l16 ?c16 ?k16 ?a17 ?l17 ?c17 ?k17 ?a18 ?l18 ?c18 ?k18 ?a19 ?l19 ?c19 ?k19 ?a20 ?l20 ?c20 ?k20 ?a21 ?l21 ?c21 ?k21 ?a22 ?pg22 ?pt22 ?pr22 ?l22 ?c22 ?k22 ?a23 ?fn23 ?l23 ?c23 ?k23 ?a24 ?l24 ?c24 ?k24 ?a25 ?l25 ?c25 ?k25 ?a26 ?l26 ?c26 ?k26 ?a27 ?l27 ?c27 ?k27 ?z_abs ?z_all ?z_enumerate ?z_int ?z_len ?z_list ?z_min ?z_range ?z_repr ?z_sorted ?z_str ?z_sum ?z_tuple ?z_zip ?v_MOST_CONSTANT ?v_MOST_DEEDS ?v_MOST_FACTOR ?v_MOST_PIECES ?v_MOST_SIGNS ?v_MOST_TERMS ?v_RESERVED ?u_RESERVED ?x_RESERVED ?y_RESERVED DL.law_true
    (case ac_Sum => k_is)
    (case mk_Sum => k_is)
    (case ki_Sum => k_is)
    (case pg_Sum => k_is)
    (case hd_Sum => k_is)
    (case po_Sum => k_is)
    (case sa_Sum => k_is)
    (case no_Sum_constant => k_is)
    (case no_Sum_terms => k_is)
    (case a0 => k_is)
    (case l0 => k_is)
    (case c0 => k_is)
    (case k0 => k_is)
    (case a1 => k_is)
    (case l1 => k_is)
    (case c1 => k_is)
    (case k1 => k_is)
    (case a2 => k_is)
    (case l2 => k_is)
    (case c2 => k_is)
    (case k2 => k_is)
    (case a3 => k_is)
    (case l3 => k_is)
    (case c3 => k_is)
    (case k3 => k_is)
    (case a4 => k_is)
    (case l4 => k_is)
    (case c4 => k_is)
    (case k4 => k_is)
    (case a5 => k_is)
    (case l5 => k_is)
    (case c5 => k_is)
    (case k5 => k_is)
    (case a6 => k_is)
    (case l6 => k_is)
    (case c6 => k_is)
    (case k6 => k_is)
    (case a7 => k_is)
    (case l7 => k_is)
    (case c7 => k_is)
    (case k7 => k_is)
    (case a8 => k_is)
    (case l8 => k_is)
    (case c8 => k_is)
    (case k8 => k_is)
    (case a9 => k_is)
    (case l9 => k_is)
    (case c9 => k_is)
    (case k9 => k_is)
    (case a10 => k_is)
    (case l10 => k_is)
    (case c10 => k_is)
    (case k10 => k_is)
    (case a11 => k_is)
    (case l11 => k_is)
    (case c11 => k_is)
    (case k11 => k_is)
    (case a12 => k_is)
    (case l12 => k_is)
    (case c12 => k_is)
    (case k12 => k_is)
    (case a13 => k_is)
    (case fn13 => k_is)
    (case l13 => k_is)
    (case c13 => k_is)
    (case k13 => k_is)
    (case a14 => k_is)
    (case l14 => k_is)
    (case c14 => k_is)
    (case k14 => k_is)
    (case a15 => k_is)
    (case fn15 => k_is)
    (case l15 => k_is)
    (case c15 => k_is)
    (case k15 => k_is)
    (case a16 => k_is)
    (case l16 => k_is)
    (case c16 => k_is)
    (case k16 => k_is)
    (case a17 => k_is)
    (case l17 => k_is)
    (case c17 => k_is)
    (case k17 => k_is)
    (case a18 => k_is)
    (case l18 => k_is)
    (case c18 => k_is)
    (case k18 => k_is)
    (case a19 => k_is)
    (case l19 => k_is)
    (case c19 => k_is)
    (case k19 => k_is)
    (case a20 => k_is)
    (case l20 => k_is)
    (case c20 => k_is)
    (case k20 => k_is)
    (case a21 => k_is)
    (case l21 => k_is)
    (case c21 => k_is)
    (case k21 => k_is)
    (case a22 => k_is)
    (case pg22 => k_is)
    (case pt22 => k_is)
    (case pr22 => k_is)
    (case l22 => k_is)
    (case c22 => k_is)
    (case k22 => k_is)
    (case a23 => k_is)
    (case fn23 => k_is)
    (case l23 => k_is)
    (case c23 => k_is)
    (case k23 => k_is)
    (case a24 => k_is)
    (case l24 => k_is)
    (case c24 => k_is)
    (case k24 => k_is)
    (case a25 => k_is)
    (case l25 => k_is)
    (case c25 => k_is)
    (case k25 => k_is)
    (case a26 => k_is)
    (case l26 => k_is)
    (case c26 => k_is)
    (case k26 => k_is)
    (case a27 => k_is)
    (case l27 => k_is)
    (case c27 => k_is)
    (case k27 => k_is)
    (case z_abs => k_is)
    (case z_all => k_is)
    (case z_enumerate => k_is)
    (case z_int => k_is)
    (case z_len => k_is)
    (case z_list => k_is)
    (case z_min => k_is)
    (case z_range => k_is)
    (case z_repr => k_is)
    (case z_sorted => k_is)
    (case z_str => k_is)
    (case z_sum => k_is)
    (case z_tuple => k_is)
    (case z_zip => k_is)
    (case v_MOST_CONSTANT => k_is)
    (case v_MOST_DEEDS => k_is)
    (case v_MOST_FACTOR => k_is)
    (case v_MOST_PIECES => k_is)
    (case v_MOST_SIGNS => k_is)
    (case v_MOST_TERMS => k_is)
    (case v_RESERVED => k_is)
    (case u_RESERVED => k_is)
    (case x_RESERVED => decide +kernel)
    (case y_RESERVED => decide +kernel)
